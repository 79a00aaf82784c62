/- Lemmas on the walk and plain lemmas that the claim of this folder uses; each states its own conditions. Lines were printed by a program of ours. -/
import Derived.Test.YtjcpbhlijoigfaaGreatZ5B
set_option linter.unusedVariables false
set_option linter.unusedSimpArgs false
set_option linter.unusedSectionVars false
open Go.Value renaming int → ya, pointer → yc
open Go.IntKind renaming i64 → yb
open Go.Proofs.YtjcpbhlijoigfaaGreat.Big renaming digs → yd, valL → yg, trimL → yk, raw → ym, okL_getD → yn, okL → yp, digs_ok → yq, pw → yr, sg → yt, valL_digs → yu, raw_big → yv, getD_set_ne → yy, okL_snoc → yA, cmp → yB, ln → yC
open Go.Proofs.Tryz renaming underlying39 → ye, underlying30 → yf, prog → yh, underlying120 → yi, underlying121 → yj, underlying41 → yl
open Go.Proofs.YtjcpbhlijoigfaaGreat.Pg renaming crs → yo, inR → yw, sg → yx, onS → yz
namespace Go.Proofs.YtjcpbhlijoigfaaGreat.Er
open Pg Sw
set_option linter.unusedVariables false
abbrev T3P:=P2×P2×P2
def sc (K:Int) (x:P2):P2:=(K*x.1,K*x.2)
theorem crs_sc (K:Int) (a b c:P2):crs (sc K a) (sc K b) (sc K c)=K*K*crs a b c:=by unfold crs sc;grind
theorem sc_inj {K:Int} (hK:0<K) {a b:P2} (h:sc K a=sc K b):a=b:=by
  unfold sc at h
  have h1:=congrArg Prod.fst h
  have h2:=congrArg Prod.snd h
  exact Prod.ext (Int.eq_of_mul_eq_mul_left (by omega) h1) (Int.eq_of_mul_eq_mul_left (by omega) h2)
theorem kk_pos {K z:Int} (hK:0<K):(0<K*K*z↔0<z)∧(K*K*z<0↔z<0)∧(K*K*z=0↔z=0):=by
  have h:=Int.mul_pos hK hK
  rcases Int.lt_trichotomy z 0 with k|k|k
  · have := Int.mul_pos h (show 0 < -z by omega)
    have e:K*K* -z= -(K*K*z):=by grind
    omega
  · subst k;simp
  · have := Int.mul_pos h k
    omega
theorem wi_sc {K a b x:Int} (hK:0<K) (h:wi (K*a) (K*b) (K*x)):wi a b x:=by
  unfold wi at*
  rcases h with ⟨h1,h2⟩|⟨h1,h2⟩
  · exact .inl ⟨Int.le_of_mul_le_mul_left h1 hK,Int.le_of_mul_le_mul_left h2 hK⟩
  · exact .inr ⟨Int.le_of_mul_le_mul_left h1 hK,Int.le_of_mul_le_mul_left h2 hK⟩
theorem onS_sc {K:Int} (hK:0<K) {a b x:P2} (h:onS (sc K a) (sc K b) (sc K x)):onS a b x:=by
  refine ⟨(kk_pos hK).2.2.1 (by rw [← crs_sc];exact h.1),betw_wi.2 ?_⟩
  obtain ⟨h1,h2⟩:=betw_wi.1 h.2
  exact ⟨wi_sc hK h1,wi_sc hK h2⟩
theorem mt0_sc {K:Int} (hK:0<K) {a b c d:P2} (h:mt0 (sc K a) (sc K b) (sc K c) (sc K d)):mt0 a b c d:=by
  unfold mt0 at*
  rw [sgm,sgm] at*
  simp only [crs_sc] at h
  have k1:=kk_pos (z:=crs a b c) hK
  have k2:=kk_pos (z:=crs a b d) hK
  have k3:=kk_pos (z:=crs c d a) hK
  have k4:=kk_pos (z:=crs c d b) hK
  omega
theorem SC.sc {p:List P2} (h:SC p) {K:Int} (hK:0<K):SC (p.map (Er.sc K)):=by
  have ce:∀e∈cyc (p.map (Er.sc K)),∃f∈cyc p,e=(Er.sc K f.1,Er.sc K f.2):=fun e he=>by
    rw [cyc_map] at he
    obtain ⟨f,hf,rfl⟩:=List.mem_map.1 he
    exact ⟨f,hf,rfl⟩
  refine ⟨by rw [List.length_map];exact h.n3,nd_map h.nd fun a _ b _ e=>sc_inj hK e,fun e he x hx x1 x2 ho=> ?_,fun e he f hf a1 a2 a3 a4 hm=> ?_⟩
  · obtain ⟨g, hg, rfl⟩ := ce e he
    obtain ⟨y,hy,rfl⟩:=List.mem_map.1 hx
    exact h.v g hg y hy (fun z=>x1 (by rw [z])) (fun z=>x2 (by rw [z])) (onS_sc hK ho)
  · obtain ⟨g, hg, rfl⟩ := ce e he
    obtain ⟨k,hk,rfl⟩:=ce f hf
    exact h.e g hg k hk (fun z=>a1 (by dsimp only;rw [z])) (fun z=>a2 (by dsimp only;rw [z])) (fun z=>a3 (by dsimp only;rw [z])) (fun z=>a4 (by dsimp only;rw [z])) (mt0_sc hK hm)
def fK (K:Int) (q:P2) (e:P2×P2):Int:=cr q (sc K e.1) (sc K e.2)
def W (K:Int) (p:List P2) (q:P2):Int:=sm (fK K q) (cyc p)
def tv (K:Int) (q:P2) (t:T3P):Int:=t3 q (sc K t.1) (sc K t.2.1) (sc K t.2.2)
def ts (K:Int) (q:P2):List T3P→Int
  |[]=>0
  |t :: T=>tv K q t+ts K q T
theorem ts_app (K:Int) (q:P2) (A B:List T3P):ts K q (A++B)=ts K q A+ts K q B:=by
  induction A with
  |nil=>simp [ts]
  |cons a A ih=>rw [List.cons_append];simp only [ts];rw [ih];omega
theorem ts_eds (K:Int) (q:P2):∀T:List T3P,sm (fK K q) (edsG T)=ts K q T
  |[]=>rfl
  |t :: T=>by
    rw [edsG_cons,sm_app,ts_eds K q T]
    show _=tv K q t+ts K q T
    unfold edgG tv t3 fK
    simp only [sm];omega
theorem W_ts {p:List P2} {T:List T3P} (h:Tr p T) (K:Int) (q:P2):W K p q=ts K q T:=by
  rw [← ts_eds,h.st _ fun a b=>cr_sw ..];rfl
theorem sm_su (f:P2×P2→Int) (g:Nat→P2×P2):∀n,sm f ((List.range n).map g)=su (fun i=>f (g i)) n
  |0=>rfl
  |n+1=>by
    rw [List.range_succ,List.map_append,sm_app,sm_su f g n]
    show _+(f (g n)+0)=_
    rw [Int.add_zero];rfl
theorem SC.wind {p:List P2} (h:SC p) (h64:p.length≤64) {K:Int} (hK:0<K) (q1 q2:P2):∃s:Int,(s=1∨s= -1)∧(s*W K p q1=0∨s*W K p q1=1)∧(s*W K p q2=0∨s*W K p q2=1):=by
  have hS:=(h.sc hK).sm rfl (by rw [List.length_map];exact h64)
  have e:∀q,wn (p.map (Er.sc K)).length (p.map (Er.sc K)) q (p.map (Er.sc K)).length=W K p q:=fun q=>by
    have h1:=sm_su (fun e=>cr q e.1 e.2) (fun i=>(gt (p.map (Er.sc K)) i,gt (p.map (Er.sc K)) ((i+1)%(p.map (Er.sc K)).length))) (p.map (Er.sc K)).length
    rw [← cyc_get rfl,cyc_map] at h1
    unfold wn
    rw [← h1]
    unfold W
    generalize cyc p=L
    induction L with
    |nil=>rfl
    |cons a L ih=>
      show cr q (Er.sc K a.1) (Er.sc K a.2)+_=fK K q a+_
      rw [← ih];rfl
  have:=wn_two hS q1 q2
  rw [e,e] at this
  exact this
structure TqS (s:Int) (q a b c:P2):Prop where
  r:s*t3 q a b c=0∨s*t3 q a b c=1
  i:0<s*crs a b q→0<s*crs b c q→0<s*crs c a q→s*t3 q a b c=1
  o:s*t3 q a b c=1→0≤s*crs a b q∧0≤s*crs b c q∧0≤s*crs c a q
theorem tqs {s:Int} (hs:s=1∨s= -1) {a b c:P2} (hD:0<s*crs a b c) (q:P2):TqS s q a b c:=by
  rcases hs with rfl|rfl
  · simp only [s1m] at hD
    have h:=Sw.tri (q:=q) hD
    refine ⟨?_,?_,?_⟩
    · simp only [s1m];exact h.r
    · simp only [s1m];exact h.i
    · simp only [s1m];exact h.o
  · simp only [snm] at hD
    have r:=crs_sw a b c
    have r1:=crs_sw a b q
    have r2:=crs_sw b c q
    have r3:=crs_sw c a q
    have h:=Sw.tri (q:=q) (a:=b) (b:=a) (c:=c) (by omega)
    have e:=t3_sw q a b c
    have h1:=h.r
    have h2:=h.i
    have h3:=h.o
    refine ⟨?_,?_,?_⟩ <;> simp only [snm] <;> omega
theorem t3_r (q a b c:P2):t3 q a b c=t3 q b c a∧t3 q a b c=t3 q c a b:=by unfold t3;omega
def nq (K c1 c2:Int) (x y1 y2:P2):P2:=(K*x.1+(c1*(y1.1 - x.1)+c2*(y2.1 - x.1)),K*x.2+(c1*(y1.2 - x.2)+c2*(y2.2 - x.2)))
theorem nq_crs (K c1 c2:Int) (x y1 y2 a b:P2):crs (sc K a) (sc K b) (nq K c1 c2 x y1 y2)=K*((K - c1 - c2)*crs a b x+c1*crs a b y1+c2*crs a b y2):=by unfold crs sc nq;grind
def ab (z:Int):Int:=if z<0 then -z else z
theorem ab_c (z:Int):0≤ab z∧ -ab z≤z∧z≤ab z:=by unfold ab;split <;> omega
theorem nq_pos {s K c1 c2:Int} (hs:s=1∨s= -1) {x y1 y2 a b:P2} (h:0<s*crs a b x) (hK:c1+c2+ab (c1*crs a b y1+c2*crs a b y2)<K) (hK0:0<K):0<s*crs (sc K a) (sc K b) (nq K c1 c2 x y1 y2):=by
  rw [nq_crs]
  have h1:=ab_c (c1*crs a b y1+c2*crs a b y2)
  have h2:=Int.mul_nonneg (show 0≤K - c1 - c2 by omega) (show 0≤s*crs a b x - 1 by omega)
  have h3:0<(K - c1 - c2)*(s*crs a b x)+s*(c1*crs a b y1+c2*crs a b y2):=by
    have e:(K - c1 - c2)*(s*crs a b x - 1)=(K - c1 - c2)*(s*crs a b x) - (K - c1 - c2):=by grind
    rcases hs with rfl|rfl <;> omega
  have h4:=Int.mul_pos hK0 h3
  grind
theorem nq_neg {s K c1 c2:Int} (hs:s=1∨s= -1) {x y1 y2 a b:P2} (h:s*crs a b x<0) (hK:c1+c2+ab (c1*crs a b y1+c2*crs a b y2)<K) (hK0:0<K):s*crs (sc K a) (sc K b) (nq K c1 c2 x y1 y2)<0:=by
  have:=nq_pos (s:= -s) (by omega) (x:=x) (y1:=y1) (y2:=y2) (a:=a) (b:=b) (by rw [Int.neg_mul];omega) hK hK0
  rw [Int.neg_mul] at this;omega
theorem nq_zero {s K c1 c2:Int} {x y1 y2 a b:P2} (h:crs a b x=0) (h2:0<s*(c1*crs a b y1+c2*crs a b y2)) (hK0:0<K):0<s*crs (sc K a) (sc K b) (nq K c1 c2 x y1 y2):=by
  rw [nq_crs,h]
  have:=Int.mul_pos hK0 h2
  grind
theorem nq_own {s K c1 c2:Int} {x y1 y2:P2} (hD:0<s*crs x y1 y2) (h1:0<c1) (h2:0<c2) (hK:c1+c2<K):0<s*crs (sc K x) (sc K y1) (nq K c1 c2 x y1 y2)∧0<s*crs (sc K y1) (sc K y2) (nq K c1 c2 x y1 y2)∧0<s*crs (sc K y2) (sc K x) (nq K c1 c2 x y1 y2):=by
  have hK0:0<K:=by omega
  have e1:s*crs (sc K x) (sc K y1) (nq K c1 c2 x y1 y2)=K*c2*(s*crs x y1 y2):=by rw [nq_crs];unfold crs;grind
  have e2:s*crs (sc K y1) (sc K y2) (nq K c1 c2 x y1 y2)=K*(K - c1 - c2)*(s*crs x y1 y2):=by rw [nq_crs];unfold crs;grind
  have e3:s*crs (sc K y2) (sc K x) (nq K c1 c2 x y1 y2)=K*c1*(s*crs x y1 y2):=by rw [nq_crs];unfold crs;grind
  rw [e1,e2,e3]
  exact ⟨Int.mul_pos (Int.mul_pos hK0 h2) hD,Int.mul_pos (Int.mul_pos hK0 (by omega)) hD,Int.mul_pos (Int.mul_pos hK0 h1) hD⟩
def crT (t:T3P):Int:=crs t.1 t.2.1 t.2.2
theorem rot_cr {t:T3P} {a b c:P2} (h:rotT t a b c):crT t=crs a b c:=by
  have:=crs_cyc3 a b c
  rcases h with rfl|rfl|rfl
  · rfl
  · exact this.1.symm
  · exact this.2.symm
theorem rot_tv {t:T3P} {a b c:P2} (h:rotT t a b c) (K:Int) (q:P2):tv K q t=t3 q (sc K a) (sc K b) (sc K c):=by
  have:=t3_r q (sc K a) (sc K b) (sc K c)
  rcases h with rfl|rfl|rfl
  · rfl
  · exact this.1.symm
  · exact this.2.symm
section
variable {s : Int} (hs : s = 1 ∨ s = -1) {K : Int} (hK : 0 < K) {q : P2}
include hs hK
theorem tv_q {t:T3P} (h:0<s*crT t) {a b c:P2} (hr:rotT t a b c):TqS s q (sc K a) (sc K b) (sc K c):=by
  refine tqs hs ?_ q
  rw [rot_cr hr] at h
  rw [crs_sc]
  have:=Int.mul_pos (Int.mul_pos hK hK) h
  grind
theorem tv_r {t:T3P} (h:0<s*crT t):s*tv K q t=0∨s*tv K q t=1:=by
  have hr:rotT t t.1 t.2.1 t.2.2:= .inl rfl
  rw [rot_tv hr];exact (tv_q hs hK h hr).r
theorem ts_nn:∀{T:List T3P},(∀t∈T,0<s*crT t)→0≤s*ts K q T
  |[],_=>by unfold ts;omega
  |t :: T,h=>by
    have a:=tv_r hs hK (q:=q) (h t (List.mem_cons_self ..))
    have b:=ts_nn (T:=T) fun x hx=>h x (List.mem_cons_of_mem _ hx)
    unfold ts
    rw [Int.mul_add];omega
theorem ts_one:∀{T:List T3P},(∀t∈T,0<s*crT t)→∀{t:T3P},t∈T→s*tv K q t≤s*ts K q T
  |[],_,_,ht=>by cases ht
  |a :: T,h,t,ht=>by
    have ha:=tv_r hs hK (q:=q) (h a (List.mem_cons_self ..))
    have hT:=ts_nn hs hK (q:=q) (T:=T) fun x hx=>h x (List.mem_cons_of_mem _ hx)
    unfold ts
    rw [Int.mul_add]
    rcases List.mem_cons.1 ht with rfl|k
    · omega
    · have := ts_one (fun x hx => h x (List.mem_cons_of_mem _ hx)) k
      omega
theorem ts_two:∀{T:List T3P},(∀t∈T,0<s*crT t)→∀{t u:T3P},t∈T→u∈T→t≠u→s*tv K q t+s*tv K q u≤s*ts K q T
  |[],_,_,_,ht,_,_=>by cases ht
  |a :: T,h,t,u,ht,hu,hne=>by
    have ha:=tv_r hs hK (q:=q) (h a (List.mem_cons_self ..))
    have hT:∀x∈T,0<s*crT x:=fun x hx=>h x (List.mem_cons_of_mem _ hx)
    unfold ts
    rw [Int.mul_add]
    rcases List.mem_cons.1 ht with rfl|k <;> rcases List.mem_cons.1 hu with rfl|k2
    · exact absurd rfl hne
    · have:=ts_one hs hK (q:=q) hT k2;omega
    · have:=ts_one hs hK (q:=q) hT k;omega
    · have:=ts_two hT k k2 hne;omega
omit hs hK in
end
section
variable {p : List P2} {T : List T3P} {s : Int}
theorem Tr.disj (hS:SC p) (h64:p.length≤64) (h:Tr p T) (hs:s=1∨s= -1) (hT:∀t∈T,0<s*crT t) {K:Int} (hK:0<K) {q:P2} {t u:T3P} (ht:t∈T) (hu:u∈T) (hne:t≠u) (h1:s*tv K q t=1) (h2:s*tv K q u=1):False:=by
  have k:=ts_two hs hK (q:=q) hT ht hu hne
  rw [← W_ts h] at k
  obtain ⟨s',hs',w1,_⟩:=hS.wind h64 hK q q
  rcases hs with rfl|rfl <;> rcases hs' with rfl|rfl <;> omega
theorem rot_mem {t:T3P} {a b c:P2} (h:rotT t a b c) {x:P2}:(x=t.1∨x=t.2.1∨x=t.2.2)↔(x=a∨x=b∨x=c):=by
  rcases h with rfl|rfl|rfl <;> dsimp only <;> constructor <;> rintro (k|k|k) <;> simp [k]
theorem rot_tv1 {K:Int} {q:P2} (hs:s=1∨s= -1) (hK:0<K) {t:T3P} (hD:0<s*crT t) {a b c:P2} (hr:rotT t a b c) (h1:0<s*crs (sc K a) (sc K b) q) (h2:0<s*crs (sc K b) (sc K c) q) (h3:0<s*crs (sc K c) (sc K a) q):s*tv K q t=1:=by
  rw [rot_tv hr]
  exact (tv_q hs hK hD hr).i h1 h2 h3
theorem Tr.empty (hS:SC p) (h64:p.length≤64) (h:Tr p T) (hs:s=1∨s= -1) (hT:∀t∈T,0<s*crT t) {t:T3P} (ht:t∈T) {a b c x:P2} (hr:rotT t a b c) (hx:x∈p) (xa:x≠a) (xb:x≠b) (xc:x≠c) (h1:0≤s*crs a b x) (h2:0≤s*crs b c x) (h3:0≤s*crs c a x):False:=by
  obtain ⟨u,hu,y1,y2,hru⟩:=h.cor hx
  have hne:t≠u:=fun e=>by
    subst e
    have k1:=(rot_mem hru (x:=x)).2 (.inl rfl)
    have k2:=(rot_mem hr).1 k1
    rcases k2 with k|k|k
    · exact xa k
    · exact xb k
    · exact xc k
  have hDu:=hT u hu
  have hDu':=hDu
  rw [rot_cr hru] at hDu'
  have hDt:=hT t ht
  have hDt':=hDt
  rw [rot_cr hr] at hDt'
  -- strictly within
  by_cases all:0<s*crs a b x∧0<s*crs b c x∧0<s*crs c a x
  · obtain ⟨g1, g2, g3⟩ := all
    have A1:=ab_c (1*crs a b y1+1*crs a b y2)
    have A2:=ab_c (1*crs b c y1+1*crs b c y2)
    have A3:=ab_c (1*crs c a y1+1*crs c a y2)
    obtain ⟨K,hKe⟩:∃K:Int,K=3+ab (1*crs a b y1+1*crs a b y2)+ab (1*crs b c y1+1*crs b c y2)+ab (1*crs c a y1+1*crs c a y2):=⟨_,rfl⟩
    have hK:0<K:=by omega
    obtain ⟨o1,o2,o3⟩:=nq_own (K:=K) hDu' (show (0:Int)<1 by decide) (show (0:Int)<1 by decide) (by omega)
    exact h.disj hS h64 hs hT hK ht hu hne (rot_tv1 hs hK hDt hr (nq_pos hs g1 (by omega) hK) (nq_pos hs g2 (by omega) hK) (nq_pos hs g3 (by omega) hK)) (rot_tv1 hs hK hDu hru o1 o2 o3)
  · -- on a side
    have side:∀{a b c:P2},rotT t a b c→x≠a→x≠b→x≠c→crs a b x=0→0≤s*crs b c x→0≤s*crs c a x→False:=fun {a b c} hr xa xb xc z h2 h3=>by
      have hDt':=hDt
      rw [rot_cr hr] at hDt'
      have hon:=side_s hs hDt' z h2 h3
      have he:=(rot_edg hr).1
      have hem:=eds_mem ht he
      have hpm:=h.em hem
      by_cases hc:(a,b)∈cyc p
      · exact hS.v _ hc x hx xa xb hon
      have hrev:=h.rev _ hem hc
      obtain ⟨t2,ht2,d,hr2⟩:=mem_eds hrev
      dsimp only at hr2
      have hD2:=hT t2 ht2
      have hD2':=hD2
      rw [rot_cr hr2] at hD2'
      -- strictness
      have b1:=by1 a b c x
      have b2:=by2 a b c x
      have bS:=byS a b c x
      rw [z] at b1 b2 bS
      have sz:∀{z:Int},s*z=0→z=0:=fun {z} k=>by rcases hs with rfl|rfl <;> omega
      have g2:0<s*crs b c x:=by
        rcases Int.lt_or_eq_of_le h2 with k|k
        · exact k
        · have k' := sz k.symm
          rw [k'] at b1 b2 bS
          have e1:crs c a x*(x.1 - b.1)=0:=by grind
          have e2:crs c a x*(x.2 - b.2)=0:=by grind
          have hc0:crs c a x≠0:=fun q=>by
            have:crs a b c=0:=by omega
            rw [this,Int.mul_zero] at hDt';omega
          have f1:x.1 - b.1=0:=(Int.mul_eq_zero.1 e1).resolve_left hc0
          have f2:x.2 - b.2=0:=(Int.mul_eq_zero.1 e2).resolve_left hc0
          exact absurd (Prod.ext (by omega) (by omega)) xb
      have g3:0<s*crs c a x:=by
        rcases Int.lt_or_eq_of_le h3 with k|k
        · exact k
        · have k' := sz k.symm
          rw [k'] at b1 b2 bS
          have e1:crs b c x*(x.1 - a.1)=0:=by grind
          have e2:crs b c x*(x.2 - a.2)=0:=by grind
          have hc0:crs b c x≠0:=fun q=>by
            have:crs a b c=0:=by omega
            rw [this,Int.mul_zero] at hDt';omega
          have f1:x.1 - a.1=0:=(Int.mul_eq_zero.1 e1).resolve_left hc0
          have f2:x.2 - a.2=0:=(Int.mul_eq_zero.1 e2).resolve_left hc0
          exact absurd (Prod.ext (by omega) (by omega)) xa
      -- the triangle on the other side
      have m1:s*crs a b c*(s*crs a d x)=s*crs c a x*(s*crs b a d):=by
        have:crs a b c*crs a d x - crs c a x*crs b a d=crs a b x*crs c a d:=by unfold crs;grind
        rw [z,Int.zero_mul] at this
        have:crs a b c*crs a d x=crs c a x*crs b a d:=by omega
        rcases hs with rfl|rfl <;> grind
      have m2:s*crs a b c*(s*crs d b x)=s*crs b c x*(s*crs b a d):=by
        have:crs a b c*crs d b x - crs b c x*crs b a d=crs a b x*crs b c d:=by unfold crs;grind
        rw [z,Int.zero_mul] at this
        have:crs a b c*crs d b x=crs b c x*crs b a d:=by omega
        rcases hs with rfl|rfl <;> grind
      have k1:0<s*crs a d x:=Int.not_le.1 fun q=>by
        have p1:=Int.mul_pos g3 hD2'
        have p2:=Int.mul_nonneg (Int.le_of_lt hDt') (show 0≤ -(s*crs a d x) by omega)
        grind
      have k2:0<s*crs d b x:=Int.not_le.1 fun q=>by
        have p1:=Int.mul_pos g2 hD2'
        have p2:=Int.mul_nonneg (Int.le_of_lt hDt') (show 0≤ -(s*crs d b x) by omega)
        grind
      have hne2:t2≠u:=fun e=>by
        subst e
        have q1:=(rot_mem hru (x:=x)).2 (.inl rfl)
        rcases (rot_mem hr2).1 q1 with k|k|k
        · exact xb k
        · exact xa k
        · subst k
          have:crs x b x=0:=by unfold crs;grind
          rw [this,Int.mul_zero] at k2;omega
      -- a direction off the line
      have hdir:∃c1 c2:Int,(c1=1∨c1=2)∧c2=1∧c1*crs a b y1+c2*crs a b y2≠0:=by
        by_cases q1:crs a b y1+crs a b y2=0
        · refine ⟨2, 1, .inr rfl, rfl, fun q2 => ?_⟩
          have f1:crs a b y1=0:=by omega
          have f2:crs a b y2=0:=by omega
          have hab : a ≠ b := fun e => by subst e; have : crs a a c = 0 := by (unfold crs; grind)
                                          rw [this,Int.mul_zero] at hDt';omega
          have:crs x y1 y2=0:=by
            have w1:(b.1 - a.1)*crs x y1 y2=0:=by
              have:(b.1 - a.1)*crs x y1 y2=(y1.1 - x.1)*(crs a b y2 - crs a b x) - (y2.1 - x.1)*(crs a b y1 - crs a b x):=by unfold crs;grind
              rw [this,f1,f2,z];simp
            have w2:(b.2 - a.2)*crs x y1 y2=0:=by
              have:(b.2 - a.2)*crs x y1 y2=(y1.2 - x.2)*(crs a b y2 - crs a b x) - (y2.2 - x.2)*(crs a b y1 - crs a b x):=by unfold crs;grind
              rw [this,f1,f2,z];simp
            rcases Int.mul_eq_zero.1 w1 with e1|e1
            · rcases Int.mul_eq_zero.1 w2 with e2 | e2
              · exact absurd (Prod.ext (by omega) (by omega)) hab
              · exact e2
            · exact e1
          rw [this,Int.mul_zero] at hDu';omega
        · exact ⟨1,1,.inl rfl,rfl,by omega⟩
      obtain ⟨c1,c2,hc1,hc2,hF⟩:=hdir
      have p1:0<c1:=by omega
      have p2:0<c2:=by omega
      have A2:=ab_c (c1*crs b c y1+c2*crs b c y2)
      have A3:=ab_c (c1*crs c a y1+c2*crs c a y2)
      have B2:=ab_c (c1*crs a d y1+c2*crs a d y2)
      have B3:=ab_c (c1*crs d b y1+c2*crs d b y2)
      obtain ⟨K,hKe⟩:∃K:Int,K=c1+c2+1+ab (c1*crs b c y1+c2*crs b c y2)+ab (c1*crs c a y1+c2*crs c a y2)+ab (c1*crs a d y1+c2*crs a d y2)+ab (c1*crs d b y1+c2*crs d b y2):=⟨_,rfl⟩
      have hK:0<K:=by omega
      obtain ⟨o1,o2,o3⟩:=nq_own (K:=K) hDu' p1 p2 (by omega)
      have hu1:=rot_tv1 hs hK hDu hru o1 o2 o3
      by_cases pos:0<s*(c1*crs a b y1+c2*crs a b y2)
      · exact h.disj hS h64 hs hT hK ht hu hne (rot_tv1 hs hK hDt hr (nq_zero z pos hK) (nq_pos hs g2 (by omega) hK) (nq_pos hs g3 (by omega) hK)) hu1
      · have sw : ∀ y, crs b a y = - crs a b y := fun y => crs_sw ..
        have neg:0<s*(c1*crs b a y1+c2*crs b a y2):=by
          rw [sw,sw,Int.mul_neg,Int.mul_neg]
          rcases hs with rfl|rfl <;> omega
        exact h.disj hS h64 hs hT hK ht2 hu hne2 (rot_tv1 hs hK hD2 hr2 (nq_zero (by rw [sw,z];rfl) neg hK) (nq_pos hs k1 (by omega) hK) (nq_pos hs k2 (by omega) hK)) hu1
    have sz:∀{z:Int},0=s*z→z=0:=fun {z} k=>by rcases hs with rfl|rfl <;> omega
    have hr':rotT t b c a:=by rcases hr with e|e|e;exact .inr (.inr e);exact .inl e;exact .inr (.inl e)
    have hr'':rotT t c a b:=by rcases hr with e|e|e;exact .inr (.inl e);exact .inr (.inr e);exact .inl e
    rcases Int.lt_or_eq_of_le h1 with k1|k1
    · rcases Int.lt_or_eq_of_le h2 with k2 | k2
      · rcases Int.lt_or_eq_of_le h3 with k3 | k3
        · exact all ⟨k1,k2,k3⟩
        · exact side hr'' xc xa xb (sz k3) h1 h2
      · exact side hr' xb xc xa (sz k2) h3 h1
    · exact side hr xa xb xc (sz k1) h2 h3
end
end Go.Proofs.YtjcpbhlijoigfaaGreat.Er
namespace Go.Proofs.YtjcpbhlijoigfaaGreat.Pg
set_option linter.unusedVariables false
theorem sgc (z:Int):z<0∧z.sign= -1∨z=0∧z.sign=0∨0<z∧z.sign=1:=by
  rcases Int.lt_trichotomy z 0 with h|h|h
  · exact .inl ⟨h,Int.sign_eq_neg_one_of_neg h⟩
  · exact .inr (.inl ⟨h,by rw [h];rfl⟩)
  · exact .inr (.inr ⟨h,Int.sign_eq_one_of_pos h⟩)
theorem map_er (f:Nat→P2):∀(L:List Nat) (k:Nat),(L.eraseIdx k).map f=(L.map f).eraseIdx k
  |[],_=>rfl
  |a :: L,0=>rfl
  |a :: L,k+1=>by show f a :: (L.eraseIdx k).map f=f a :: (L.map f).eraseIdx k;rw [map_er f L k]
def tr3 (l:List P2) (i:Nat):Int:=crs (gt l i) (gt l ((i+1)%l.length)) (gt l ((i+2)%l.length))
def cvI (l:List P2) (i:Nat):Prop:=(tr3 l i).sign=0∨(tr3 l i).sign=(db l).sign
instance (l:List P2) (i:Nat):Decidable (cvI l i):=inferInstanceAs (Decidable (_∨_))
def cvR (l:List P2):Prop:=∀i,i<l.length→cvI l i
instance (l:List P2):Decidable (cvR l):=inferInstanceAs (Decidable (∀i,i<l.length→_))
theorem cvR_n {l:List P2} {n:Nat} (hn:l.length=n):cvR l↔∀i,i<n→cvI l i:=by subst hn;exact Iff.rfl
theorem corn_c {l:List P2} {n:Nat} (hn:l.length=n) {i:Nat} (hi:i<n):corn l (sg l) (List.range n) ((i+1)%n)=sg l*(tr3 l i).sign:=by
  have h1:=md_c (x:=i+1) (m:=n) (by omega)
  have h2:i+2<2*n∨n=1:=by omega
  have hl:(List.range n).length=n:=List.length_range
  have e1:px n ((i+1)%n)=i:=by have:=px_c n ((i+1)%n);omega
  have e2:sx n ((i+1)%n)=(i+2)%n:=by rw [sx_md (by omega)]
  unfold corn tr3
  rw [hl,e1,e2,range_nt hi,range_nt (Nat.mod_lt _ (by omega)),range_nt (Nat.mod_lt _ (by omega)),hn]
theorem cv_of {l:List P2} {n:Nat} (hn:l.length=n) (hd:db l≠0) {i:Nat} (hi:i<n):¬corn l (sg l) (List.range n) ((i+1)%n)<0↔cvI l i:=by
  rw [corn_c hn hi]
  have h1:=sgc (tr3 l i)
  have h2:=sgc (db l)
  unfold cvI
  by_cases k:db l<0
  · rw [sg_neg k];omega
  · rw [sg_pos k];omega
def st (l:List P2) (i:Nat):Prop:=crs (gt l ((i+l.length - 1)%l.length)) (gt l i) (gt l ((i+1)%l.length))=0
instance (l:List P2) (i:Nat):Decidable (st l i):=inferInstanceAs (Decidable (_=_))
def td:Nat→List P2→List P2
  |0,l=>l
  |f+1,l=>match fst l.length (st l) with
    |none=>l
    |some k=>td f (l.eraseIdx k)
def tdV (l:List P2):List P2:=td l.length l
theorem td_some {l:List P2} {k:Nat} (hk:k<l.length) (hp:st l k) (hn:∀j,j<k→¬st l j):tdV l=tdV (l.eraseIdx k):=by
  have hlen:(l.eraseIdx k).length=l.length - 1:=by rw [List.length_eraseIdx,if_pos hk]
  unfold tdV
  rw [hlen,show l.length=(l.length - 1)+1 by omega]
  conv=>lhs;unfold td
  rw [fst_some hk hp hn]
  rfl
theorem td_none {l:List P2} (hn:∀j,j<l.length→¬st l j):tdV l=l:=by
  unfold tdV
  cases h:l.length with
  |zero=>rfl
  |succ m=>
    unfold td
    rw [fst_none hn]
def ps (l:List P2) (L:List Nat):List P2:=L.map (gt l)
theorem ps_len (l:List P2) (L:List Nat):(ps l L).length=L.length:=List.length_map _
theorem ps_get {l:List P2} {L:List Nat} {i:Nat} (h:i<L.length):gt (ps l L) i=gt l (nt L i):=by
  unfold ps gt nt
  rw [List.getD_eq_getElem?_getD,List.getElem?_map,List.getElem?_eq_getElem h,List.getD_eq_getElem?_getD (l:=L),List.getElem?_eq_getElem h];rfl
theorem ps_erase (l:List P2) (L:List Nat) (k:Nat):ps l (L.eraseIdx k)=(ps l L).eraseIdx k:=map_er _ _ _
theorem ps_all {l:List P2} {n:Nat} (hn:l.length=n):ps l (List.range n)=l:=by
  subst hn
  refine List.ext_getElem? fun i=> ?_
  unfold ps
  rw [List.getElem?_map]
  by_cases h:i<l.length
  · rw [List.getElem?_range h, List.getElem?_eq_getElem h]
    show some (gt l i)=_
    unfold gt
    rw [List.getD_eq_getElem?_getD,List.getElem?_eq_getElem h];rfl
  · rw [List.getElem?_eq_none (by simp;omega),List.getElem?_eq_none (by omega)];rfl
theorem st_corn {l:List P2} {s:Int} (hs:s=1∨s= -1) {L:List Nat} {i:Nat} (hi:i<L.length):corn l s L i=0↔st (ps l L) i:=by
  have hl:=ps_len l L
  have h1:=md_c (x:=i+L.length - 1) (m:=L.length) (by omega)
  have h2:=md_c (x:=i+1) (m:=L.length) (by omega)
  have e1:(i+L.length - 1)%L.length=px L.length i:=by have:=px_c L.length i;omega
  have e2:(i+1)%L.length=sx L.length i:=by have:=sx_c L.length i;omega
  unfold st corn
  rw [hl,e1,e2,ps_get hi,ps_get (px_lt hi),ps_get (sx_lt hi)]
  generalize crs _ _ _=z
  have:=sgc z
  rcases hs with rfl|rfl <;> omega
def cx (a b:P2):Int:=a.1*b.2 - b.1*a.2
theorem dbN_cx (n:Nat) (l:List P2):∀m,dbN n l m=Sw.su (fun i=>cx (gt l i) (gt l ((i+1)%n))) m
  |0=>rfl
  |m+1=>by rw [Sw.su_s,←dbN_cx n l m];rfl
def ch:P2→List P2→Int
  |_,[]=>0
  |a,b :: l=>cx a b+ch b l
theorem ch_app (a:P2) (l:List P2) (b:P2) (m:List P2):ch a (l++b :: m)=ch a (l++[b])+ch b m:=by
  induction l generalizing a with
  |nil=>show cx a b+ch b m=cx a b+0+ch b m;omega
  |cons c l ih=>show cx a c+ch c (l++b :: m)=cx a c+ch c (l++[b])+ch b m;rw [ih];omega
def dc:List P2→Int
  |[]=>0
  |a :: l=>ch a (l++[a])
theorem ch_su (a:P2) (l:List P2):∀i,i<(a :: l).length→ch a (l.take i)=Sw.su (fun i=>cx (gt (a :: l) i) (gt (a :: l) (i+1))) i
  |0,_=>by rw [List.take_zero];rfl
  |i+1,h=>by
    have hi:i<l.length:=by simp at h;omega
    rw [Sw.su_s,←ch_su a l i (by simp;omega),Ms.take_snoc (0,0) hi]
    have key:∀(a:P2) (m:List P2) (b:P2),ch a (m++[b])=ch a m+cx (gt (a :: m) m.length) b:=fun a m b=>by
      induction m generalizing a with
      |nil=>show cx a b+0=0+cx a b;omega
      |cons c m ih=>show cx a c+ch c (m++[b])=cx a c+ch c m+_;rw [ih];show _+(_+cx (gt (c :: m) m.length) b)=_+_+cx (gt (c :: m) m.length) b;omega
    rw [key]
    have hl:(l.take i).length=i:=by rw [List.length_take];omega
    rw [hl]
    have e1:gt (a :: l.take i) i=gt (a :: l) i:=by
      unfold gt
      simp only [List.getD_eq_getElem?_getD]
      cases i with
      |zero=>rfl
      |succ j=>simp
    rw [e1];rfl
theorem db_dc (l:List P2):db l=dc l:=by
  cases l with
  |nil=>rfl
  |cons a l=>
    unfold db
    rw [dbN_cx]
    show Sw.su _ (l.length+1)=ch a (l++[a])
    have key:∀(a:P2) (m:List P2) (b:P2),ch a (m++[b])=ch a m+cx (gt (a :: m) m.length) b:=fun a m b=>by
      induction m generalizing a with
      |nil=>show cx a b+0=0+cx a b;omega
      |cons c m ih=>show cx a c+ch c (m++[b])=cx a c+ch c m+_;rw [ih];show _+(_+cx (gt (c :: m) m.length) b)=_+_+cx (gt (c :: m) m.length) b;omega
    have h1:=ch_su a l l.length (by simp)
    rw [List.take_length] at h1
    rw [key,h1,Sw.su_s]
    have e:(l.length+1)%(a :: l).length=0:=by rw [List.length_cons];exact Nat.mod_self _
    rw [e]
    have e2:gt (a :: l) 0=a:=rfl
    rw [e2]
    congr 1
    refine Sw.su_congr fun j hj=> ?_
    rw [Nat.mod_eq_of_lt (by rw [List.length_cons];omega)]
theorem dc_rot (a:P2) (l:List P2):dc (a :: l)=dc (l++[a]):=by
  cases l with
  |nil=>rfl
  |cons b l=>
    show cx a b+ch b (l++[a])=ch b ((l++[a])++[b])
    rw [List.append_assoc,List.singleton_append,ch_app b l a [b]]
    show cx a b+_=_+(cx a b+0);omega
theorem dc_swap (A B:List P2):dc (A++B)=dc (B++A):=by
  induction A generalizing B with
  |nil=>simp
  |cons a A ih=>
    rw [List.cons_append,dc_rot,List.append_assoc,ih,List.append_assoc];rfl
theorem dc_cut {a b c:P2} (h:crs a b c=0) (l:List P2):dc (b :: c :: (l++[a]))=dc (c :: (l++[a])):=by
  show cx b c+ch c ((l++[a])++[b])=ch c ((l++[a])++[c])
  rw [List.append_assoc,List.append_assoc,List.singleton_append,List.singleton_append,ch_app c l a [b],ch_app c l a [c]]
  show cx b c+(_+(cx a b+0))=_+(cx a c+0)
  unfold crs at h
  unfold cx
  grind
theorem dc_two (a b:P2):dc [a,b]=0:=by
  show cx a b+(cx b a+0)=0
  unfold cx;grind
theorem db_erase {l:List P2} {k:Nat} (hk:k<l.length) (h2:2≤l.length) (h:st l k):db (l.eraseIdx k)=db l:=by
  rw [db_dc,db_dc]
  have e:l=l.take k++gt l k :: l.drop (k+1):=by
    conv=>lhs;rw [← List.take_append_drop k l,Ms.drop_cons (0,0) hk]
  have e2:l.eraseIdx k=l.take k++l.drop (k+1):=List.eraseIdx_eq_take_drop_succ l k
  rw [e2,dc_swap]
  conv=>rhs;rw [e,dc_swap]
  show dc (l.drop (k+1)++l.take k)=dc (gt l k :: (l.drop (k+1)++l.take k))
  have hlen:(l.drop (k+1)++l.take k).length=l.length - 1:=by rw [List.length_append,List.length_drop,List.length_take];omega
  have hg:∀j,j<l.length - 1→gt (l.drop (k+1)++l.take k) j=gt l ((k+1+j)%l.length):=fun j hj=>by
    have hm:=md_c (x:=k+1+j) (m:=l.length) (by omega)
    unfold gt
    simp only [List.getD_eq_getElem?_getD]
    by_cases c:j<l.length - (k+1)
    · rw [List.getElem?_append_left (by rw [List.length_drop]; exact c), List.getElem?_drop]
      rw [show (k+1+j)%l.length=k+1+j by omega]
    · rw [List.getElem?_append_right (by rw [List.length_drop]; omega), List.getElem?_take, List.length_drop, if_pos (by omega)]
      rw [show (k+1+j)%l.length=j - (l.length - (k+1)) by omega]
  generalize hm:l.drop (k+1)++l.take k=m at*
  by_cases h3:l.length=2
  · have : m.length = 1 := by omega
    match m,this with
    |[c],_=>rw [dc_two];show cx c c+0=0;unfold cx;grind
  · -- at least two others
    have hc:gt m 0=gt l ((k+1)%l.length):=hg 0 (by omega)
    have ha:gt m (m.length - 1)=gt l ((k+l.length - 1)%l.length):=by rw [hg _ (by omega)];congr 1;congr 1;omega
    match m,hlen with
    |[],hl=>simp at hl;omega
    |c :: r,hl=>
      have hr:r≠[]:=fun z=>by subst z;simp at hl;omega
      obtain ⟨r',a,rfl⟩:∃r' a,r=r'++[a]:=⟨r.dropLast,r.getLast hr,(List.dropLast_concat_getLast hr).symm⟩
      have hc':c=gt l ((k+1)%l.length):=hc
      have ha':a=gt l ((k+l.length - 1)%l.length):=by
        rw [← ha]
        unfold gt
        simp [List.getD_eq_getElem?_getD]
      refine (dc_cut ?_ r').symm
      rw [hc',ha'];exact h
theorem db_small {l:List P2} (h:l.length<3):db l=0:=by
  rw [db_dc]
  match l,h with
  |[],_=>rfl
  |[a],_=>show cx a a+0=0;unfold cx;grind
  |[a,b],_=>exact dc_two a b
structure TdI (l:List P2) (L:List Nat):Prop where
  v:tdV (ps l L)=tdV l
  d:db (ps l L)=db l
theorem TdI.zero {l:List P2} {n:Nat} (hn:l.length=n):TdI l (List.range n):=⟨by rw [ps_all hn],by rw [ps_all hn]⟩
theorem TdI.n3 {l:List P2} {L:List Nat} (h:TdI l L) (hd:db l≠0):3≤L.length:=Decidable.byContradiction fun k=>by
  have:=db_small (l:=ps l L) (by rw [ps_len];omega)
  rw [h.d] at this
  exact hd this
theorem TdI.step {l:List P2} {L:List Nat} {s:Int} {k:Nat} (h:TdI l L) (hd:db l≠0) (hs:s=1∨s= -1) (hk:k<L.length) (hp:corn l s L k=0) (hn:∀j,j<k→¬corn l s L j=0):TdI l (L.eraseIdx k):=by
  have h3:=h.n3 hd
  have hl:=ps_len l L
  have hp':=(st_corn hs hk).1 hp
  refine ⟨?_,?_⟩
  · rw [ps_erase,←td_some (by omega) hp' fun j hj z=>hn j hj ((st_corn hs (by omega)).2 z)];exact h.v
  · rw [ps_erase,db_erase (by omega) (by omega) hp'];exact h.d
theorem TdI.fin {l:List P2} {L:List Nat} {s:Int} (h:TdI l L) (hs:s=1∨s= -1) (hn:∀j,j<L.length→¬corn l s L j=0):ps l L=tdV l:=by
  have hl:=ps_len l L
  rw [← h.v,td_none fun j hj z=>hn j (by omega) ((st_corn hs (by omega)).2 z)]
theorem Fs.all {n:Nat} {L B N:List Nat} {P:Nat→Prop} {k:Nat} (h:Fs n L P n k) (hr:Rg n L B N):k=L.length:=by
  have:=h.km
  by_cases e:k<L.length
  · have := h.hi k (Nat.le_refl _) e
    have:=hr.lt k e
    omega
  · omega
end Go.Proofs.YtjcpbhlijoigfaaGreat.Pg
namespace Go.Proofs.YtjcpbhlijoigfaaGreat.Er
open Pg Sw
set_option linter.unusedVariables false
theorem greatest_mem:∀{p:List P2},p≠[]→∃v∈p,∀x∈p,x=v∨lx x v
  |[],h=>absurd rfl h
  |[a],_=>⟨a,by simp,fun x hx=>by simp at hx;exact .inl hx⟩
  |a :: b :: p,_=>by
    obtain ⟨v,hv,h⟩:=greatest_mem (p:=b :: p) (by simp)
    rcases lx_tri a v with k|k|k
    · exact ⟨v,List.mem_cons_of_mem _ hv,fun x hx=>by
        rcases List.mem_cons.1 hx with rfl|hx
        · exact .inr k
        · exact h x hx⟩
    · exact ⟨v,List.mem_cons_of_mem _ hv,fun x hx=>by
        rcases List.mem_cons.1 hx with rfl|hx
        · exact .inl k
        · exact h x hx⟩
    · refine ⟨a, List.mem_cons_self .., fun x hx => ?_⟩
      rcases List.mem_cons.1 hx with rfl|hx
      · exact .inl rfl
      · rcases h x hx with rfl | z
        · exact .inr k
        · exact .inr (lx_trans z k)
theorem argmax (P:P2→Prop) (f:P2→Int):∀{A:List P2},(∃x∈A,P x)→∃q∈A,P q∧∀x∈A,P x→f x≤f q
  |[],h=>by obtain ⟨x,hx,_⟩:=h;cases hx
  |a :: A,h=>by
    by_cases hA:∃x∈A,P x
    · obtain ⟨q, hq, hp, hm⟩ := argmax P f hA
      by_cases ha:P a∧f q<f a
      · refine ⟨a, List.mem_cons_self .., ha.1, fun x hx px => ?_⟩
        rcases List.mem_cons.1 hx with rfl|hx
        · exact Int.le_refl _
        · have:=hm x hx px;omega
      · refine ⟨q, List.mem_cons_of_mem _ hq, hp, fun x hx px => ?_⟩
        rcases List.mem_cons.1 hx with rfl|hx
        · exact Int.not_lt.1 fun z=>ha ⟨px,z⟩
        · exact hm x hx px
    · obtain ⟨x, hx, px⟩ := h
      rcases List.mem_cons.1 hx with rfl|hx
      · refine ⟨x, List.mem_cons_self .., px, fun y hy py => ?_⟩
        rcases List.mem_cons.1 hy with rfl|hy
        · exact Int.le_refl _
        · exact absurd ⟨y,hy,py⟩ hA
      · exact absurd ⟨x,hx,px⟩ hA
theorem out_lx {s:Int} (hs:s=1∨s= -1) {a b c v:P2} (ha:lx a v) (hb:lx b v) (hc:lx c v) (hD:0<s*crs a b c):s*crs a b v<0∨s*crs b c v<0∨s*crs c a v<0:=by
  refine Decidable.byContradiction fun hk=> ?_
  have g1:0≤s*crs a b v:=by omega
  have g2:0≤s*crs b c v:=by omega
  have g3:0≤s*crs c a v:=by omega
  have b1:s*crs b c v*(v.1 - a.1)+s*crs c a v*(v.1 - b.1)+s*crs a b v*(v.1 - c.1)=0:=by
    have:=by1 a b c v
    have e:s*crs b c v*(v.1 - a.1)+s*crs c a v*(v.1 - b.1)+s*crs a b v*(v.1 - c.1)=s*(crs b c v*(v.1 - a.1)+crs c a v*(v.1 - b.1)+crs a b v*(v.1 - c.1)):=by grind
    rw [e,this,Int.mul_zero]
  have b2:s*crs b c v*(v.2 - a.2)+s*crs c a v*(v.2 - b.2)+s*crs a b v*(v.2 - c.2)=0:=by
    have:=by2 a b c v
    have e:s*crs b c v*(v.2 - a.2)+s*crs c a v*(v.2 - b.2)+s*crs a b v*(v.2 - c.2)=s*(crs b c v*(v.2 - a.2)+crs c a v*(v.2 - b.2)+crs a b v*(v.2 - c.2)):=by grind
    rw [e,this,Int.mul_zero]
  have bS:s*crs a b v+s*crs b c v+s*crs c a v=s*crs a b c:=by
    have:=byS a b c v
    rw [← this];grind
  unfold lx at ha hb hc
  generalize s*crs a b v=x at*
  generalize s*crs b c v=y at*
  generalize s*crs c a v=z at*
  have p1:=Int.mul_nonneg g2 (show 0≤v.1 - a.1 by omega)
  have p2:=Int.mul_nonneg g3 (show 0≤v.1 - b.1 by omega)
  have p3:=Int.mul_nonneg g1 (show 0≤v.1 - c.1 by omega)
  have q1:y=0∨0<y*(v.2 - a.2):=by
    rcases Int.mul_eq_zero.1 (show y*(v.1 - a.1)=0 by omega) with k|k
    · exact .inl k
    · by_cases k2 : y = 0
      · exact .inl k2
      · exact .inr (Int.mul_pos (by omega) (by omega))
  have q2:z=0∨0<z*(v.2 - b.2):=by
    rcases Int.mul_eq_zero.1 (show z*(v.1 - b.1)=0 by omega) with k|k
    · exact .inl k
    · by_cases k2 : z = 0
      · exact .inl k2
      · exact .inr (Int.mul_pos (by omega) (by omega))
  have q3:x=0∨0<x*(v.2 - c.2):=by
    rcases Int.mul_eq_zero.1 (show x*(v.1 - c.1)=0 by omega) with k|k
    · exact .inl k
    · by_cases k2 : x = 0
      · exact .inl k2
      · exact .inr (Int.mul_pos (by omega) (by omega))
  have z1:y=0→y*(v.2 - a.2)=0:=fun k=>by rw [k,Int.zero_mul]
  have z2:z=0→z*(v.2 - b.2)=0:=fun k=>by rw [k,Int.zero_mul]
  have z3:x=0→x*(v.2 - c.2)=0:=fun k=>by rw [k,Int.zero_mul]
  omega
theorem tv_out {s:Int} (hs:s=1∨s= -1) {t:T3P} (hD:0<s*crT t) {x y1 y2:P2} (h:s*crs t.1 t.2.1 x<0∨s*crs t.2.1 t.2.2 x<0∨s*crs t.2.2 t.1 x<0):∃K0:Int,∀K,K0≤K→0<K→tv K (nq K 1 1 x y1 y2) t=0:=by
  have hr:rotT t t.1 t.2.1 t.2.2:= .inl rfl
  have a1:=ab_c (1*crs t.1 t.2.1 y1+1*crs t.1 t.2.1 y2)
  have a2:=ab_c (1*crs t.2.1 t.2.2 y1+1*crs t.2.1 t.2.2 y2)
  have a3:=ab_c (1*crs t.2.2 t.1 y1+1*crs t.2.2 t.1 y2)
  refine ⟨3+ab (1*crs t.1 t.2.1 y1+1*crs t.1 t.2.1 y2)+ab (1*crs t.2.1 t.2.2 y1+1*crs t.2.1 t.2.2 y2)+ab (1*crs t.2.2 t.1 y1+1*crs t.2.2 t.1 y2),fun K h0 hK=> ?_⟩
  have k:=tv_q hs hK (q:=nq K 1 1 x y1 y2) hD hr
  have hv:tv K (nq K 1 1 x y1 y2) t=t3 (nq K 1 1 x y1 y2) (sc K t.1) (sc K t.2.1) (sc K t.2.2):=rfl
  rw [hv]
  have ho:=k.o
  have hr:=k.r
  have:¬(s*t3 (nq K 1 1 x y1 y2) (sc K t.1) (sc K t.2.1) (sc K t.2.2)=1):=fun z=>by
    obtain ⟨o1,o2,o3⟩:=ho z
    rcases h with h|h|h
    · have:=nq_neg hs (K:=K) (c1:=1) (c2:=1) (y1:=y1) (y2:=y2) h (by omega) hK;omega
    · have:=nq_neg hs (K:=K) (c1:=1) (c2:=1) (y1:=y1) (y2:=y2) h (by omega) hK;omega
    · have:=nq_neg hs (K:=K) (c1:=1) (c2:=1) (y1:=y1) (y2:=y2) h (by omega) hK;omega
  rcases hs with rfl|rfl <;> omega
theorem ts_out {s:Int} (hs:s=1∨s= -1) {x y1 y2:P2}:∀{T:List T3P},(∀t∈T,0<s*crT t∧(s*crs t.1 t.2.1 x<0∨s*crs t.2.1 t.2.2 x<0∨s*crs t.2.2 t.1 x<0))→∃K0:Int,∀K,K0≤K→0<K→ts K (nq K 1 1 x y1 y2) T=0
  |[],_=>⟨0,fun K _ _=>rfl⟩
  |t :: T,h=>by
    obtain ⟨K1,h1⟩:=ts_out hs (T:=T) (x:=x) (y1:=y1) (y2:=y2) fun a ha=>h a (List.mem_cons_of_mem _ ha)
    obtain ⟨b1,b2⟩:=h t (List.mem_cons_self ..)
    obtain ⟨K2,h2⟩:=tv_out hs (y1:=y1) (y2:=y2) b1 b2
    refine ⟨max K1 K2,fun K hm hK=> ?_⟩
    unfold ts
    rw [h1 K (by omega) hK,h2 K (by omega) hK];rfl
section
variable {u v w : P2} {A : List P2} {s s2 : Int}
theorem Tr.corner (h:SC (v :: w :: A++[u])) (hA:A≠[]) {T2:List T3P} (h2:Tr (w :: A++[u]) T2):Tr (v :: w :: A++[u]) (T2++[(u,v,w)]):=by
  obtain ⟨d1,d2,d3,d4⟩:=h.dif
  have hn:(w :: A++u :: [v]).Nodup:=by
    have:=nd_rot (X:=[v]) (Y:=w :: A++[u]) h.nd
    simpa using this
  have h3:Tr (u :: [v]++[w]) [(u,v,w)]:=Tr.three (fun z=>d2 z.symm) d1 (fun z=>d3 z.symm)
  have:=Tr.glue hn hA (by simp) h2 h3
  have h4:Tr ((w :: A++[u])++[v]) (T2++[(u,v,w)]):=by simpa using this
  exact h4.rot
theorem rest_sign (hs:s=1∨s= -1) (hs2:s2=1∨s2= -1) (h:SC (v :: w :: A++[u])) (h64:(v :: w :: A++[u]).length≤64) (hA:A≠[]) (hD:0<s*crs u v w) (he:∀q∈A,¬(0≤s*crs v w q∧0≤s*crs u v q∧0≤s*crs w u q)) {T2:List T3P} (h2:Tr (w :: A++[u]) T2) (hT2:∀t∈T2,0<s2*crT t) (hp:∃K0:Int,∀K,K0≤K→0<K→∃q,0<s*W K (v :: w :: A++[u]) q):s2=s:=by
  obtain ⟨x,hx⟩:=List.exists_mem_of_ne_nil A hA
  obtain ⟨t,ht,y1,y2,hr⟩:=h2.cor (x:=x) (by simp [hx])
  have hDt:=hT2 t ht
  have hDt':=hDt
  rw [rot_cr hr] at hDt'
  have hout:s*crs u v x<0∨s*crs v w x<0∨s*crs w u x<0:=by have:=he x hx;omega
  obtain ⟨K1,hK1⟩:=tv_out hs (t:=(u,v,w)) (x:=x) (y1:=y1) (y2:=y2) hD hout
  obtain ⟨K0,hK0⟩:=hp
  obtain ⟨K,hKe⟩:∃K:Int,K=max (max K0 K1) 3:=⟨_,rfl⟩
  have hK:0<K:=by omega
  obtain ⟨q2,hq2⟩:=hK0 K (by omega) hK
  have z:=hK1 K (by omega) hK
  have hw:=W_ts (Tr.corner h hA h2) K (nq K 1 1 x y1 y2)
  rw [ts_app] at hw
  have e1:ts K (nq K 1 1 x y1 y2) [(u,v,w)]=0:=by unfold ts;rw [z];rfl
  rw [e1,Int.add_zero] at hw
  obtain ⟨o1,o2,o3⟩:=nq_own (K:=K) hDt' (show (0:Int)<1 by decide) (show (0:Int)<1 by decide) (by omega)
  have k1:=rot_tv1 hs2 hK hDt hr o1 o2 o3
  have k2:=ts_one hs2 hK (q:=nq K 1 1 x y1 y2) hT2 ht
  rw [k1,←hw] at k2
  obtain ⟨s',hs',w1,w2⟩:=h.wind h64 hK (nq K 1 1 x y1 y2) q2
  rcases hs with rfl|rfl <;> rcases hs2 with rfl|rfl <;> rcases hs' with rfl|rfl <;> omega
end
def TriE (p:List P2):Prop:=∃(T:List T3P) (s:Int),(s=1∨s= -1)∧Tr p T∧(∀t∈T,0<s*crT t)∧∀u v w,(u,v)∈cyc p→(v,w)∈cyc p→(∀x∈p,x=v∨lx x v)→0<s*crs u v w
theorem TriE.rot {X Y:List P2} (h:TriE (X++Y)):TriE (Y++X):=by
  obtain ⟨T,s,hs,hT,hc,hv⟩:=h
  have hp:=cyc_rot X Y
  exact ⟨T,s,hs,hT.rot,hc,fun u v w h1 h2 h3=>hv u v w (hp.mem_iff.2 h1) (hp.mem_iff.2 h2) fun x hx=>h3 x (List.perm_append_comm.mem_iff.1 hx)⟩
theorem tri_core {u v w:P2} {A:List P2} (h:SC (v :: w :: A++[u])) (h64:(v :: w :: A++[u]).length≤64) (hg:∀x∈v :: w :: A++[u],x=v∨lx x v) (ih:∀p:List P2,p.length<(v :: w :: A++[u]).length→SC p→TriE p):TriE (v :: w :: A++[u]):=by
  obtain ⟨d1,d2,d3,d4⟩:=h.dif
  obtain ⟨e1,e2⟩:=h.ends
  have lu:lx u v:=(hg u (by simp)).resolve_left fun z=>d2 z.symm
  have lw:lx w v:=(hg w (by simp)).resolve_left fun z=>d1 z.symm
  have hne:crs u v w≠0:=fun z=>by
    have c:=crs_cyc3 u v w
    rcases Pg.corner (u:=u) (v:=v) (w:=w) (by omega) lu lw with k|k
    · exact h.v _ e1 w (by simp) d3 (fun z=>d1 z.symm) k
    · exact h.v _ e2 u (by simp) (fun z=>d2 z.symm) (fun z=>d3 z.symm) k
  obtain ⟨s,hs,hD⟩:∃s:Int,(s=1∨s= -1)∧0<s*crs u v w:=by
    by_cases k:0<crs u v w
    · exact ⟨1,.inl rfl,by omega⟩
    · exact ⟨-1,.inr rfl,by omega⟩
  -- the property at the greatest vertex
  have fin:∀T:List T3P,Tr (v :: w :: A++[u]) T→(∀t∈T,0<s*crT t)→TriE (v :: w :: A++[u]):=fun T hT hc=>⟨T,s,hs,hT,hc,fun u' v' w' k1 k2 k3=>by
    have hm:=cyc_mem k2
    have hvv:v'=v:=by
      rcases hg v' hm.1 with z|z
      · exact z
      · rcases k3 v (by simp) with z2 | z2
        · exact z2.symm
        · unfold lx at z z2;omega
    subst hvv
    rw [cyc_pred h.nd k1 e1,cyc_succ h.nd k2 e2];exact hD⟩
  by_cases hA:A=[]
  · subst hA
    refine fin [(v,w,u)] (Tr.three d1 d3 d2) fun t ht=> ?_
    rw [List.mem_singleton] at ht;subst ht
    show 0<s*crs v w u
    rw [← (crs_cyc3 u v w).1];exact hD
  by_cases hin:∃q∈A,0≤s*crs v w q∧0≤s*crs u v q∧0≤s*crs w u q
  · obtain ⟨q, hq, ⟨q1, q2, q3⟩, hm⟩ := argmax (fun q => 0 ≤ s * crs v w q ∧ 0 ≤ s * crs u v q ∧ 0 ≤ s * crs w u q) (fun x => s * crs w u x) hin
    obtain ⟨A1,A2,rfl⟩:=List.append_of_mem hq
    obtain ⟨S1,S2⟩:=h.near hs hD q1 q2 q3 fun x hx a b c=>hm x hx ⟨a,b,c⟩
    obtain ⟨q1',q2'⟩:=h.inn hs hD hq q1 q2 q3
    have S2':SC (v :: q :: A2++[u]):=by
      have:=SC.rot (X:=q :: (A2++[u])) (Y:=[v]) S2
      simpa using this
    have S1':SC (v :: w :: A1++[q]):=by simpa using S1
    obtain ⟨T1,s1,hs1,hT1,hc1,hv1⟩:=ih (v :: w :: A1++[q]) (by simp <;> omega) S1'
    obtain ⟨T2,s2,hs2,hT2,hc2,hv2⟩:=ih (v :: q :: A2++[u]) (by simp <;> omega) S2'
    have sub1:∀x,x∈v :: w :: A1++[q]→x∈v :: w :: (A1++q :: A2)++[u]:=fun x hx=>by simp at hx ⊢;rcases hx with k|k|k|k <;> simp [k]
    have sub2:∀x,x∈v :: q :: A2++[u]→x∈v :: w :: (A1++q :: A2)++[u]:=fun x hx=>by simp at hx ⊢;rcases hx with k|k|k|k <;> simp [k]
    have g1:=hv1 q v w S1'.ends.1 S1'.ends.2 fun x hx=>hg x (sub1 x hx)
    have g2:=hv2 u v q S2'.ends.1 S2'.ends.2 fun x hx=>hg x (sub2 x hx)
    have c:=crs_cyc3 q v w
    rw [← c.1] at q1'
    have es1:s1=s:=by rcases hs with rfl|rfl <;> rcases hs1 with rfl|rfl <;> omega
    have es2:s2=s:=by rcases hs with rfl|rfl <;> rcases hs2 with rfl|rfl <;> omega
    subst es1;subst es2
    have hn:(v :: (w :: A1)++q :: (A2++[u])).Nodup:=by simpa using h.nd
    have hT2':Tr (q :: (A2++[u])++[v]) T2:=by
      have:=Tr.rot (X:=[v]) (Y:=q :: A2++[u]) hT2
      simpa using this
    have hT:=Tr.glue hn (by simp) (by simp) (by simpa using hT1) hT2'
    refine fin (T1++T2) (by simpa using hT) fun t ht=> ?_
    rcases List.mem_append.1 ht with k|k
    · exact hc1 t k
    · exact hc2 t k
  · have he : ∀ q ∈ A, ¬ (0 ≤ s * crs v w q ∧ 0 ≤ s * crs u v q ∧ 0 ≤ s * crs w u q) := fun q hq k => hin ⟨q, hq, k⟩
    have S2:=h.cut hs hA hD he
    obtain ⟨T2,s2,hs2,hT2,hc2,hv2⟩:=ih (w :: A++[u]) (by simp) S2
    have es2:s2=s:=by
      refine rest_sign hs hs2 h h64 hA hD he hT2 hc2 ?_
      have lxs:∀x∈w :: A++[u],lx x v:=fun x hx=>by
        have hne:x≠v:=fun z=>by
          have hn:=h.nd
          rw [List.cons_append] at hn
          exact (List.nodup_cons.1 hn).1 (z ▸ hx)
        exact (hg x (List.mem_cons_of_mem _ hx)).resolve_left hne
      obtain ⟨K1,hK1⟩:=ts_out hs2 (x:=v) (y1:=w) (y2:=u) (T:=T2) fun t ht=>by
        obtain ⟨m1,m2,m3⟩:=hT2.mem t ht
        exact ⟨hc2 t ht,out_lx hs2 (lxs _ m1) (lxs _ m2) (lxs _ m3) (hc2 t ht)⟩
      refine ⟨max K1 3,fun K hm hK=>⟨nq K 1 1 v w u,?_⟩⟩
      rw [W_ts (Tr.corner h hA hT2),ts_app,hK1 K (by omega) hK]
      have hr:rotT (u,v,w) v w u:= .inr (.inr rfl)
      have c:=crs_cyc3 u v w
      obtain ⟨o1,o2,o3⟩:=nq_own (K:=K) (s:=s) (x:=v) (y1:=w) (y2:=u) (by rw [← c.1];exact hD) (show (0:Int)<1 by decide) (show (0:Int)<1 by decide) (by omega)
      have k1:=rot_tv1 (t:=(u,v,w)) hs hK hD hr o1 o2 o3
      show 0<s*(0+(tv K (nq K 1 1 v w u) (u,v,w)+0))
      rw [Int.zero_add,Int.add_zero,k1];decide
    subst es2
    refine fin _ (Tr.corner h hA hT2) fun t ht=> ?_
    rcases List.mem_append.1 ht with k|k
    · exact hc2 t k
    · rw [List.mem_singleton] at k;subst k;exact hD
theorem tri_ex (n:Nat):∀p:List P2,p.length=n→n≤64→SC p→TriE p:=by
  induction n using Nat.strongRecOn with
  |ind n ih=>
    intro p hn h64 h
    have h3:=h.n3
    obtain ⟨v,hv,hg⟩:=greatest_mem (p:=p) (fun z=>by subst z;simp at h3)
    obtain ⟨X,Y,rfl⟩:=List.append_of_mem hv
    refine TriE.rot (X:=v :: Y) (Y:=X) ?_
    have h':SC (v :: Y++X):=h.rot
    have hl:(v :: Y++X).length=n:=by rw [← hn];simp;omega
    have hg':∀x∈v :: Y++X,x=v∨lx x v:=fun x hx=>hg x (List.perm_append_comm.mem_iff.1 hx)
    clear hv hg
    have e:v :: Y++X=v :: (Y++X):=rfl
    rw [e] at h' hl hg' ⊢
    generalize Y++X=R at*
    match R,hl with
    |[],hl=>simp at hl;omega
    |w :: R',hl=>
      have hr:R'≠[]:=fun z=>by subst z;simp at hl;omega
      obtain ⟨A,u,rfl⟩:∃r' a,R'=r'++[a]:=⟨R'.dropLast,R'.getLast hr,(List.dropLast_concat_getLast hr).symm⟩
      exact tri_core (by simpa using h') (by simp at hl ⊢;omega) (by simpa using hg') fun p hp S=>ih p.length (by simp at hl hp ⊢;omega) p rfl (by simp at hl hp ⊢;omega) S
def fA (e:P2×P2):Int:=cx e.1 e.2
theorem sm_db (l:List P2):sm fA (cyc l)=db l:=by
  rw [cyc_get rfl,sm_su]
  unfold db
  rw [dbN_cx];rfl
theorem db_rot (X Y:List P2):db (X++Y)=db (Y++X):=by rw [← sm_db,←sm_db,sm_perm (cyc_rot X Y)]
theorem sg_rot (X Y:List P2):sg (X++Y)=sg (Y++X):=by unfold sg;rw [db_rot]
theorem eds_pos {s:Int}:∀{T:List T3P},(∀t∈T,0<s*crT t)→0≤s*sm fA (edsG T)∧(T≠[]→0<s*sm fA (edsG T))
  |[],_=>⟨by show 0≤s*0;simp,fun z=>absurd rfl z⟩
  |t :: T,h=>by
    have a:=h t (List.mem_cons_self ..)
    have b:=(eds_pos (T:=T) fun x hx=>h x (List.mem_cons_of_mem _ hx)).1
    have e:sm fA (edsG (t :: T))=crT t+sm fA (edsG T):=by
      rw [edsG_cons,sm_app]
      congr 1
      unfold edgG crT fA cx crs
      simp only [sm];grind
    rw [e,Int.mul_add]
    exact ⟨by omega,fun _=>by omega⟩
theorem Tr.sg {p:List P2} {T:List T3P} {s:Int} (hs:s=1∨s= -1) (h:Tr p T) (h3:3≤p.length) (hT:∀t∈T,0<s*crT t):yx p=s:=by
  have k:=(eds_pos hT).2 (fun z=>by have:=h.len;subst z;simp at this;omega)
  rw [h.st fA (fun a b=>by unfold fA cx;dsimp only;omega),sm_db] at k
  unfold yx
  rcases hs with rfl|rfl
  · rw [if_neg (by omega)]
  · rw [if_pos (by omega)]
theorem SC.ear {p:List P2} (h:SC p) (h64:p.length≤64) (h4:4≤p.length):∃a b c,(a,b)∈cyc p∧(b,c)∈cyc p∧0<yx p*crs a b c∧∀x∈p,x≠a→x≠b→x≠c→¬(0≤yx p*crs a b x∧0≤yx p*crs b c x∧0≤yx p*crs c a x):=by
  obtain ⟨T,s,hs,hT,hc,_⟩:=tri_ex _ p rfl h64 h
  have hsg:=hT.sg hs (by omega) hc
  obtain ⟨t,ht,a,b,c,hr,e1,e2⟩:=hT.ear h.nd
  rw [hsg]
  refine ⟨a,b,c,e1,e2,?_,fun x hx xa xb xc k=>Tr.empty h h64 hT hs hc ht hr hx xa xb xc k.1 k.2.1 k.2.2⟩
  have:=hc t ht
  rwa [rot_cr hr] at this
theorem SC.rest {u v w:P2} {A:List P2} (h:SC (v :: w :: A++[u])) (h64:(v :: w :: A++[u]).length≤64) (hA:A≠[]) (hD:0<yx (v :: w :: A++[u])*crs u v w) (he:∀q∈A,¬(0≤yx (v :: w :: A++[u])*crs v w q∧0≤yx (v :: w :: A++[u])*crs u v q∧0≤yx (v :: w :: A++[u])*crs w u q)):SC (w :: A++[u])∧yx (w :: A++[u])=yx (v :: w :: A++[u]):=by
  obtain ⟨T,s,hs,hT,hc,_⟩:=tri_ex _ _ rfl h64 h
  have hsg:=hT.sg hs h.n3 hc
  rw [hsg] at hD he ⊢
  have S2:=h.cut hs hA hD he
  obtain ⟨T2,s2,hs2,hT2,hc2,_⟩:=tri_ex _ _ rfl (by simp at h64 ⊢;omega) S2
  refine ⟨S2,?_⟩
  rw [hT2.sg hs2 S2.n3 hc2]
  refine rest_sign hs hs2 h h64 hA hD he hT2 hc2 ⟨3,fun K hm hK=> ?_⟩
  obtain ⟨t,ht,y,z,hr⟩:=hT.cor (x:=v) (by simp)
  have hDt:=hc t ht
  have hDt':=hDt
  rw [rot_cr hr] at hDt'
  obtain ⟨o1,o2,o3⟩:=nq_own (K:=K) hDt' (show (0:Int)<1 by decide) (show (0:Int)<1 by decide) (by omega)
  refine ⟨nq K 1 1 v y z,?_⟩
  have k1:=rot_tv1 hs hK hDt hr o1 o2 o3
  have k2:=ts_one hs hK (q:=nq K 1 1 v y z) hc ht
  rw [W_ts hT];omega
end Go.Proofs.YtjcpbhlijoigfaaGreat.Er
namespace Go.Proofs.YtjcpbhlijoigfaaGreat.Er
open Pg Sw
set_option linter.unusedVariables false
def Cv (s:Int) (l:List P2):Prop:=∀a b c,[a,b,c].Sublist l→0≤s*crs a b c
theorem sub_app3 {α:Type} {a b c:α} {X Y:List α} (h:[a,b,c].Sublist (X++Y)):[a,b,c].Sublist X∨[a,b,c].Sublist Y∨([a].Sublist X∧[b,c].Sublist Y)∨([a,b].Sublist X∧[c].Sublist Y):=by
  obtain ⟨l1,l2,e,h1,h2⟩:=List.sublist_append_iff.1 h
  match l1,e with
  |[],e=>
    have e':[a,b,c]=l2:=e
    subst e'
    exact .inr (.inl h2)
  |[x],e=>
    have e':a :: [b,c]=x :: l2:=e
    injection e' with e1 e2
    subst e1;subst e2
    exact .inr (.inr (.inl ⟨h1,h2⟩))
  |[x,y],e=>
    have e':a :: b :: [c]=x :: y :: l2:=e
    injection e' with e1 e2
    injection e2 with e2 e3
    subst e1;subst e2;subst e3
    exact .inr (.inr (.inr ⟨h1,h2⟩))
  |x :: y :: z :: r,e=>
    have e':a :: b :: c :: []=x :: y :: z :: (r++l2):=e
    injection e' with e1 e2
    injection e2 with e2 e3
    injection e3 with e3 e4
    have hr:r=[]:=(List.append_eq_nil_iff.1 e4.symm).1
    subst e1;subst e2;subst e3;subst hr
    exact .inl h1
theorem Cv.rot {s:Int} {X Y:List P2} (h:Cv s (X++Y)):Cv s (Y++X):=fun a b c hs=>by
  have k:=crs_cyc3 a b c
  rcases sub_app3 hs with q|q|⟨q1,q2⟩|⟨q1,q2⟩
  · exact h a b c (q.trans (List.sublist_append_right ..))
  · exact h a b c (q.trans (List.sublist_append_left ..))
  · rw [k.1]
    exact h b c a (List.Sublist.append q2 q1)
  · rw [k.2]
    exact h c a b (List.Sublist.append q2 q1)
theorem corner_w1 {u v w x:P2} (hD:0<crs u v w) (ha:0≤crs v w x) (he:¬(0≤crs v w x∧0≤crs u v x∧0≤crs w u x)) (o1:¬onS w x u) (o2:¬onS w x v) (o3:¬mt0 u v w x):0<crs u w x:=by
  refine Int.not_le.1 fun hk=> ?_
  have g:crs w u x= - crs u w x:=crs_sw ..
  have hb:crs u v x<0:=by omega
  have c1:=crs_cyc3 w x u
  have c2:=crs_cyc3 w x v
  have c3:=crs_cyc3 u v w
  rcases Int.lt_or_eq_of_le hk with k|k
  · rcases Int.lt_or_eq_of_le ha with k2 | k2
    · refine o3 ?_
      unfold mt0
      rw [sgm,sgm]
      omega
    · have s1 := crs_sw u v x
      have s2:=crs_sw u v w
      exact o2 (on_line (m:=u) (v:=v) (x:=w) (y:=x) (by omega) (by omega) (by omega))
  · exact o1 (onS_sw (on_line (m:=v) (v:=u) (x:=x) (y:=w) (by have:=crs_sw w x u;omega) hb hD))
section
variable {s : Int} (hs : s = 1 ∨ s = -1)
include hs
theorem corner_w {u v w x:P2} (hD:0<s*crs u v w) (ha:0≤s*crs v w x) (he:¬(0≤s*crs v w x∧0≤s*crs u v x∧0≤s*crs w u x)) (o1:¬onS w x u) (o2:¬onS w x v) (o3:¬mt0 u v w x):0<s*crs u w x:=by
  rcases hs with rfl|rfl
  · simp only [s1m] at *
    exact corner_w1 hD ha he o1 o2 o3
  · simp only [snm] at *
    -- the mirror image
    have fl:∀a b c:P2,crs (-a.1,a.2) (-b.1,b.2) (-c.1,c.2)= - crs a b c:=fun a b c=>by unfold crs;grind
    have on:∀a b c:P2,onS (-a.1,a.2) (-b.1,b.2) (-c.1,c.2)→onS a b c:=fun a b c h=>by
      refine ⟨by have:=h.1;rw [fl] at this;omega,?_⟩
      have:=h.2
      unfold betw at *;dsimp only at this;omega
    have mt:∀a b c d:P2,mt0 (-a.1,a.2) (-b.1,b.2) (-c.1,c.2) (-d.1,d.2)→mt0 a b c d:=fun a b c d h=>by
      unfold mt0 at*
      rw [sgm,sgm] at*
      rw [fl,fl,fl,fl] at h
      omega
    have:=corner_w1 (u:=(-u.1,u.2)) (v:=(-v.1,v.2)) (w:=(-w.1,w.2)) (x:=(-x.1,x.2)) (by rw [fl];exact hD) (by rw [fl];exact ha) (by rw [fl,fl,fl];exact he) (fun z=>o1 (on _ _ _ z)) (fun z=>o2 (on _ _ _ z)) (fun z=>o3 (mt _ _ _ _ z))
    rwa [fl] at this
theorem ns: -s=1∨ -s= -1:=by omega
theorem corner_u {u v w x:P2} (hD:0<s*crs u v w) (ha:0≤s*crs x u v) (he:¬(0≤s*crs v w x∧0≤s*crs u v x∧0≤s*crs w u x)) (o1:¬onS u x w) (o2:¬onS u x v) (o3:¬mt0 w v u x):0<s*crs x u w:=by
  have r1:=rev3 u v w
  have r2:=crs_sw u v x
  have r3:=crs_sw v w x
  have r4:=crs_sw w u x
  have c1:=crs_cyc3 x u v
  have c2:=crs_cyc3 x u w
  have c3:=crs_sw u w x
  have m:∀z:Int,-s* -z=s*z:=fun z=>by grind
  have:=corner_w (ns hs) (u:=w) (v:=v) (w:=u) (x:=x) (by rw [r1,m];exact hD) (by rw [r2,m,←c1.1];exact ha) (by rw [r2,r3,r4,m,m,m];exact fun z=>he ⟨z.2.1,z.1,z.2.2⟩) o1 o2 o3
  rw [c2.1,←m,←c3]
  exact this
end
section
variable {s : Int}
theorem cone {u v w p a:P2} (hD:0<s*crs u v w) (h1:0≤s*crs v w p) (h2:0≤s*crs w p a) (h3:0≤s*crs w a u) (h4:0<s*crs u w p):0≤s*crs v w a:=by
  refine Int.not_lt.1 fun hk=> ?_
  have e:(s*crs u w p)*(s*crs v w a)=(s*crs w p a)*(s*crs u v w)+(s*crs v w p)*(s*crs w a u):=by
    have:crs u w p*crs v w a=crs w p a*crs u v w+crs v w p*crs w a u:=by unfold crs;grind
    have e2:(s*crs u w p)*(s*crs v w a)=s*s*(crs u w p*crs v w a):=by grind
    rw [e2,this];grind
  have p1:=Int.mul_nonneg h2 (Int.le_of_lt hD)
  have p2:=Int.mul_nonneg h1 h3
  have p3:=Int.mul_pos h4 (show 0< -(s*crs v w a) by omega)
  grind
theorem cone_u {u v w p a:P2} (hs:s=1∨s= -1) (hD:0<s*crs u v w) (h1:0≤s*crs p u v) (h2:0≤s*crs a p u) (h3:0≤s*crs w a u) (h4:0<s*crs p u w):0≤s*crs u v a:=by
  have m:∀z:Int,-s* -z=s*z:=fun z=>by grind
  have r1:=rev3 u v w
  have r2:=rev3 p u v
  have r3:=rev3 a p u
  have r4:=rev3 w a u
  have r5:=rev3 p u w
  have r6:=crs_sw u v a
  have:=cone (s:= -s) (u:=w) (v:=v) (w:=u) (p:=p) (a:=a) (by rw [r1,m];exact hD) (by rw [r2,m];exact h1) (by rw [r3,m];exact h2) (by rw [r4,m];exact h3) (by rw [r5,m];exact h4)
  rw [r6,m] at this;exact this
theorem seen {u v w a b:P2} (hD:0<s*crs u v w) (wa:0≤s*crs v w a) (wb:0≤s*crs v w b) (ua:0≤s*crs u v a) (ub:0≤s*crs u v b) (h1:0≤s*crs w a b) (h2:0≤s*crs a b u) (he:¬(0≤s*crs v w a∧0≤s*crs u v a∧0≤s*crs w u a)):0≤s*crs v a b:=by
  refine Int.not_lt.1 fun hk=> ?_
  have e:(s*crs u v w)*(s*crs v a b)=(s*crs v w b)*(s*crs u v a) - (s*crs v w a)*(s*crs u v b):=by
    have:crs u v w*crs v a b=crs v w b*crs u v a - crs v w a*crs u v b:=by unfold crs;grind
    have e2:(s*crs u v w)*(s*crs v a b)=s*s*(crs u v w*crs v a b):=by grind
    rw [e2,this];grind
  have e1:s*crs w a b=s*crs v a b+s*crs v w a - s*crs v w b:=by
    have:crs w a b=crs v a b+crs v w a - crs v w b:=by unfold crs;grind
    rw [this];grind
  have e2:s*crs a b u=s*crs v a b+s*crs u v b - s*crs u v a:=by
    have:crs a b u=crs v a b+crs u v b - crs u v a:=by unfold crs;grind
    rw [this];grind
  have e3:s*crs v w a+s*crs u v a+s*crs w u a=s*crs u v w:=by
    rw [← crs_sum u v w a];grind
  generalize s*crs u v w=D at*
  generalize s*crs v w a=Wa at*
  generalize s*crs v w b=Wb at*
  generalize s*crs u v a=Ua at*
  generalize s*crs u v b=Ub at*
  generalize s*crs v a b=C at*
  have p1:=Int.mul_nonneg wb (show 0≤Ub - Ua+C by omega)
  have p2:=Int.mul_nonneg ua (show 0≤Wa - Wb+C by omega)
  have p3:=Int.mul_nonneg (show 0≤Wa - Wb by omega) (show 0≤Ub - Ua+C by omega)
  have p4:=Int.mul_pos (show 0< -C by omega) (show 0<Wa+Ua - D by omega)
  grind
end
theorem sub1 {α:Type} {x:α} {L:List α} (h:x∈L):[x].Sublist L:=List.singleton_sublist.2 h
theorem sub_len3 {α:Type} {a b c x y z:α} (h:[x,y,z].Sublist [a,b,c]):[x,y,z]=[a,b,c]:=h.eq_of_length (by rfl)
set_option maxHeartbeats 2000000 in
theorem cv_core {u v w:P2} {A:List P2} (h:SC (v :: w :: A++[u])) (hA:A≠[]) {s:Int} (hs:s=1∨s= -1) (hD:0<s*crs u v w) (he:∀q∈A,¬(0≤s*crs v w q∧0≤s*crs u v q∧0≤s*crs w u q)) (hc:∀x y z,(x,y)∈cyc (v :: w :: A++[u])→(y,z)∈cyc (v :: w :: A++[u])→0≤s*crs x y z) (ih:(∀x y z,(x,y)∈cyc (w :: A++[u])→(y,z)∈cyc (w :: A++[u])→0≤s*crs x y z)→Cv s (w :: A++[u])):Cv s (v :: w :: A++[u]):=by
  obtain ⟨d1,d2,d3,d4⟩:=h.dif
  obtain ⟨e1,e2⟩:=h.ends
  have zz:∀a b:P2,crs a a b=0:=fun a b=>by unfold crs;grind
  obtain ⟨x0,A',hA1⟩:∃x0 A',A=x0 :: A':=by cases A with
    |nil=>exact absurd rfl hA
    |cons x A'=>exact ⟨x,A',rfl⟩
  obtain ⟨A'',y0,hA2⟩:∃A'' y0,A=A''++[y0]:=⟨A.dropLast,A.getLast hA,(List.dropLast_concat_getLast hA).symm⟩
  have hx0:x0∈A:=by rw [hA1];simp
  have hy0:y0∈A:=by rw [hA2];simp
  obtain ⟨x1,x2,x3⟩:=d4 x0 hx0
  obtain ⟨y1,y2,y3⟩:=d4 y0 hy0
  have ew:(w,x0)∈path (w :: A++[u]):=by rw [hA1];exact List.mem_cons_self ..
  have eu:(y0,u)∈path (w :: A++[u]):=by
    rw [hA2,show w :: (A''++[y0])++[u]=(w :: A'')++y0 :: [u] by simp,path_app]
    exact List.mem_append.2 (.inr (List.mem_cons_self ..))
  have cs:∀e,e∈path (w :: A++[u])→e∈cyc (v :: w :: A++[u]):=fun e he=>by
    show e∈path (v :: (w :: A++[u])++[v])
    have:v :: (w :: A++[u])++[v]=v :: w :: ((A++[u])++[v]):=by simp
    rw [this]
    refine List.mem_cons_of_mem _ ?_
    rw [show w :: ((A++[u])++[v])=(w :: A)++u :: [v] by simp,path_app]
    exact List.mem_append.2 (.inl he)
  have cw:0<s*crs u w x0:=by
    refine corner_w hs hD (hc v w x0 e2 (cs _ ew)) (he x0 hx0) ?_ ?_ ?_
    · exact h.v (w,x0) (cs _ ew) u (by simp) (fun z=>d3 z.symm) (fun z=>x3 z.symm)
    · exact h.v (w,x0) (cs _ ew) v (by simp) d1 (fun z=>x1 z.symm)
    · exact h.e (u,v) e1 (w,x0) (cs _ ew) (fun z=>d3 z.symm) (fun z=>x3 z.symm) d1 (fun z=>x1 z.symm)
  have cu:0<s*crs y0 u w:=by
    refine corner_u hs hD (hc y0 u v (cs _ eu) e1) (he y0 hy0) ?_ ?_ ?_
    · exact fun z=>h.v (y0,u) (cs _ eu) w (by simp) (fun z=>y2 z.symm) d3 (onS_sw z)
    · exact fun z=>h.v (y0,u) (cs _ eu) v (by simp) (fun z=>y1 z.symm) d2 (onS_sw z)
    · intro z
      exact h.e (v,w) e2 (y0,u) (cs _ eu) (fun z=>y1 z.symm) d2 (fun z=>y2 z.symm) d3 (mt0_sl (mt0_sw z))
  have hcv:Cv s (w :: A++[u]):=ih fun x y z k1 k2=>by
    have hn:(w :: A++[u]).Nodup:=by
      have:=h.nd
      rw [List.cons_append,List.cons_append] at this
      exact (List.nodup_cons.1 this).2
    have c1:=cyc_left w A u
    rw [c1] at k1 k2
    have i1:(w,x0)∈cyc (w :: A++[u]):=by rw [c1];exact List.mem_append.2 (.inl ew)
    have i2:(y0,u)∈cyc (w :: A++[u]):=by rw [c1];exact List.mem_append.2 (.inl eu)
    rcases List.mem_append.1 k1 with q1|q1
    · rcases List.mem_append.1 k2 with q2 | q2
      · exact hc x y z (cs _ q1) (cs _ q2)
      · rw [List.mem_singleton] at q2
        have ey:y=u:=congrArg Prod.fst q2
        have ez:z=w:=congrArg Prod.snd q2
        subst ey;subst ez
        rw [cyc_pred hn (a:=x) (b:=y0) (c:=y) (by rw [c1];exact k1) i2]
        exact Int.le_of_lt cu
    · rw [List.mem_singleton] at q1
      have ex:x=u:=congrArg Prod.fst q1
      have ey:y=w:=congrArg Prod.snd q1
      subst ex;subst ey
      rw [cyc_succ hn (a:=y) (b:=z) (c:=x0) (by rw [c1];exact k2) i1]
      exact Int.le_of_lt cw
  have sw:∀q∈A,0≤s*crs v w q:=fun q hq=>by
    rw [hA1] at hq
    rcases List.mem_cons.1 hq with rfl|hq'
    · exact hc v w q e2 (cs _ ew)
    · refine cone hD (hc v w x0 e2 (cs _ ew)) (hcv w x0 q ?_) (hcv w q u ?_) cw
      · rw [hA1]
        exact List.Sublist.cons_cons _ (List.Sublist.cons_cons _ ((sub1 hq').trans (List.sublist_append_left ..)))
      · exact List.Sublist.append (l₁:=[w,q]) (List.Sublist.cons_cons _ (sub1 (by rw [hA1];exact hq))) (List.Sublist.refl [u])
  have su:∀q∈A,0≤s*crs u v q:=fun q hq=>by
    have hq2:=hq
    rw [hA2] at hq
    rcases List.mem_append.1 hq with hq'|hq'
    · refine cone_u hs hD (hc y0 u v (cs _ eu) e1) (hcv q y0 u ?_) (hcv w q u ?_) cu
      · rw [hA2]
        refine List.Sublist.cons _ ?_
        exact List.Sublist.append (l₁:=[q,y0]) (List.Sublist.append (l₁:=[q]) (sub1 hq') (List.Sublist.refl [y0])) (List.Sublist.refl [u])
      · exact List.Sublist.append (l₁:=[w,q]) (List.Sublist.cons_cons _ (sub1 hq2)) (List.Sublist.refl [u])
    · rw [List.mem_singleton] at hq'; subst hq'
      have:=hc q u v (cs _ eu) e1
      rw [(crs_cyc3 q u v).1] at this;exact this
  have wu:s*crs v w u=s*crs u v w:=by rw [← (crs_cyc3 u v w).1]
  have z1:crs v w w=0:=by unfold crs;grind
  have z2:crs u v u=0:=by unfold crs;grind
  intro a b c hsub
  rw [List.cons_append] at hsub
  rcases List.sublist_cons_iff.1 hsub with k|⟨r,hr,k⟩
  · exact hcv a b c k
  · injection hr with r1 r2
    subst r1;subst r2
    -- b before c in the rest
    have hW:∀q∈w :: A++[u],0≤s*crs a w q:=fun q hq=>by
      simp only [List.cons_append,List.mem_cons,List.mem_append,List.not_mem_nil,or_false] at hq
      rcases hq with rfl|hq|rfl
      · rw [z1,Int.mul_zero];exact Int.le_refl _
      · exact sw q hq
      · rw [wu];omega
    have hU:∀q∈w :: A++[u],0≤s*crs u a q:=fun q hq=>by
      simp only [List.cons_append,List.mem_cons,List.mem_append,List.not_mem_nil,or_false] at hq
      rcases hq with rfl|hq|rfl
      · omega
      · exact su q hq
      · rw [z2,Int.mul_zero];exact Int.le_refl _
    have hb:b∈w :: A++[u]:=k.subset (by simp)
    have hc':c∈w :: A++[u]:=k.subset (by simp)
    rw [List.cons_append] at k
    rcases List.sublist_cons_iff.1 k with k2|⟨r,hr,k2⟩
    · -- b is not w
      obtain ⟨l1,l2,e,q1,q2⟩:=List.sublist_append_iff.1 k2
      match l1,e with
      |[],e=>
        have:=q2.length_le
        rw [← show [b,c]=l2 from e] at this
        simp at this
      |[x],e=>
        have e':b :: [c]=x :: l2:=e
        injection e' with f1 f2
        subst f1;subst f2
        have:c=u:=by
          have:=q2.subset (List.mem_singleton.2 rfl)
          exact List.mem_singleton.1 this
        subst this
        rw [(crs_cyc3 a b c).2]
        exact hU b hb
      |x :: y :: r,e=>
        have e':b :: c :: []=x :: y :: (r++l2):=e
        injection e' with f1 f2
        injection f2 with f2 f3
        have hr:r=[]:=(List.append_eq_nil_iff.1 f3.symm).1
        subst f1;subst f2;subst hr
        have hbA:b∈A:=q1.subset (by simp)
        refine seen hD (hW b hb) (hW c hc') (hU b hb) (hU c hc') (hcv w b c ?_) (hcv b c u ?_) (he b hbA)
        · exact List.Sublist.cons_cons _ (q1.trans (List.sublist_append_left ..))
        · exact List.Sublist.cons _ (List.Sublist.append (l₁:=[b,c]) q1 (List.Sublist.refl [u]))
    · injection hr with r1 r2
      subst r1
      exact hW c hc'
theorem cv_of (n:Nat):∀p:List P2,p.length=n→n≤64→SC p→(∀x y z,(x,y)∈cyc p→(y,z)∈cyc p→0≤yx p*crs x y z)→Cv (yx p) p:=by
  induction n using Nat.strongRecOn with
  |ind n ih=>
    intro p hn h64 h hc
    have h3:=h.n3
    by_cases h4:n=3
    · match p, hn.trans h4 with
      |[a,b,c],_=>
        intro x y z hsub
        have e:=sub_len3 hsub
        injection e with e1 e2
        injection e2 with e2 e3
        injection e3 with e3 _
        subst e1;subst e2;subst e3
        exact hc x y z (List.mem_cons_self ..) (List.mem_cons_of_mem _ (List.mem_cons_self ..))
    · obtain ⟨u, v, w, e1, e2, hD, hem⟩ := h.ear (by omega) (by omega)
      obtain ⟨X,Y,rfl⟩:=List.append_of_mem (cyc_mem e1).2
      have hs:=sg_rng (X++v :: Y)
      have hp:=cyc_rot X (v :: Y)
      have hsg:yx (v :: Y++X)=yx (X++v :: Y):=sg_rot ..
      refine Cv.rot (X:=v :: Y) (Y:=X) ?_
      have h':SC (v :: Y++X):=h.rot
      have hl:(v :: Y++X).length=n:=by rw [← hn];simp;omega
      have f1:=hp.mem_iff.1 e1
      have f2:=hp.mem_iff.1 e2
      have hc':∀x y z,(x,y)∈cyc (v :: Y++X)→(y,z)∈cyc (v :: Y++X)→0≤yx (X++v :: Y)*crs x y z:=fun x y z k1 k2=>hc x y z (hp.mem_iff.2 k1) (hp.mem_iff.2 k2)
      have hem':∀x∈v :: Y++X,x≠u→x≠v→x≠w→¬(0≤yx (X++v :: Y)*crs u v x∧0≤yx (X++v :: Y)*crs v w x∧0≤yx (X++v :: Y)*crs w u x):=fun x hx=>hem x (List.perm_append_comm.mem_iff.1 hx)
      generalize yx (X++v :: Y)=s at*
      have e:v :: Y++X=v :: (Y++X):=rfl
      rw [e] at h' hl f1 f2 hc' hem' hsg ⊢
      generalize Y++X=R at*
      match R,hl with
      |[],hl=>simp at hl;omega
      |w' :: R',hl=>
        have hr:R'≠[]:=fun z=>by subst z;simp at hl;omega
        obtain ⟨A,u',rfl⟩:∃r' a,R'=r'++[a]:=⟨R'.dropLast,R'.getLast hr,(List.dropLast_concat_getLast hr).symm⟩
        have h2:SC (v :: w' :: A++[u']):=by simpa using h'
        have ew:w=w':=cyc_succ h2.nd (by simpa using f2) h2.ends.2
        have eu:u=u':=cyc_pred h2.nd (by simpa using f1) h2.ends.1
        subst ew;subst eu
        have hA:A≠[]:=fun z=>by subst z;simp at hl;omega
        obtain ⟨d1,d2,d3,d4⟩:=h2.dif
        have he:∀q∈A,¬(0≤s*crs v w q∧0≤s*crs u v q∧0≤s*crs w u q):=fun q hq k=>by
          obtain ⟨q1,q2,q3⟩:=d4 q hq
          exact hem' q (by simp [hq]) q3 q1 q2 ⟨k.2.1,k.1,k.2.2⟩
        have hsg':yx (v :: w :: A++[u])=s:=by simpa using hsg
        obtain ⟨S2,s2⟩:=h2.rest (by simp at hl ⊢;omega) hA (by rw [hsg'];exact hD) (by rw [hsg'];exact he)
        rw [hsg'] at s2
        have:=cv_core h2 hA hs hD he (by simpa using hc') fun hc2=>by
          have:=ih (w :: A++[u]).length (by simp at hl ⊢;omega) _ rfl (by simp at hl ⊢;omega) S2 (by rw [s2];exact hc2)
          rwa [s2] at this
        simpa using this
end Go.Proofs.YtjcpbhlijoigfaaGreat.Er
namespace Go.Proofs.YtjcpbhlijoigfaaGreat.Big
def qabs (q:Rat):Rat:=if q<0 then -q else q
end Go.Proofs.YtjcpbhlijoigfaaGreat.Big
namespace Go.Proofs.YtjcpbhlijoigfaaGreat.Sp
open Go
set_option linter.unusedVariables false
def Wd.zz (u v:Wd):Prop:=u.s=false∧v.s=false∧u.n=0∧v.n=0
instance (u v:Wd):Decidable (Wd.zz u v):=inferInstanceAs (Decidable (_∧_))
def qo (y:Big.RQ):Option Rat:=if Big.qok y then some (Big.qv y) else none
section
variable {P : Program} {O : List As} {R : List Fa} {f : Nat} {u v : Wd}
end
end Go.Proofs.YtjcpbhlijoigfaaGreat.Sp
namespace Go.Proofs.YtjcpbhlijoigfaaGreat.Pg
set_option linter.unusedVariables false
open Go.Proofs.YtjcpbhlijoigfaaGreat.Big
abbrev Q2:=Rat×Rat
abbrev gq (l:List Q2) (i:Nat):Q2:=l.getD i ((0:Rat),(0:Rat))
def prq (a b:Q2):Rat:=a.1*b.2 - b.1*a.2
def awq (a b:Q2):Q2:=(b.1 - a.1,b.2 - a.2)
def sdq (a b q:Q2):Rat:=prq (awq a b) (awq a q)
def ptq (s t:Rat) (q r:Q2):Q2:=(q.1+s / (s - t)*(awq q r).1,q.2+s / (s - t)*(awq q r).2)
def hp (K:Nat) (q:Q2):Prop:=hq q.1≤K∧hq q.2≤K
instance (K:Nat) (q:Q2):Decidable (hp K q):=inferInstanceAs (Decidable (_∧_))
theorem hp_mono {K K':Nat} {q:Q2} (h:hp K q) (k:K≤K'):hp K' q:=⟨Nat.le_trans h.1 k,Nat.le_trans h.2 k⟩
theorem hp_awq {a b:Q2} {K L:Nat} (ha:hp K a) (hb:hp L b):hp (K+L+1) (awq a b):=by
  have h1:=hq_sub b.1 a.1
  have h2:=hq_sub b.2 a.2
  have:=ha.1;have:=ha.2;have:=hb.1;have:=hb.2
  exact ⟨by show hq (b.1 - a.1)≤_;omega,by show hq (b.2 - a.2)≤_;omega⟩
structure Pb (K:Nat) (a b:Q2):Prop where
  m1:hq (a.1*b.2)≤K
  m2:hq (b.1*a.2)≤K
  p:hq (prq a b)≤2*K+1
theorem pb {a b:Q2} {K L:Nat} (ha:hp K a) (hb:hp L b):Pb (K+L) a b:=by
  have h1:=hq_mul a.1 b.2
  have h2:=hq_mul b.1 a.2
  have h3:=hq_sub (a.1*b.2) (b.1*a.2)
  have:=ha.1;have:=ha.2;have:=hb.1;have:=hb.2
  exact ⟨by omega,by omega,by unfold prq;omega⟩
theorem hq_sdq {a b q:Q2} {K:Nat} (ha:hp 3 a) (hb:hp 3 b) (h:hp K q):hq (sdq a b q)≤2*K+23:=by
  have h1:=(pb (hp_awq ha hb) (hp_awq ha h)).p
  unfold sdq;omega
structure Nb (K:Nat) (s t:Rat) (q r:Q2):Prop where
  d:hq (s - t)≤4*K+47
  f:hq (s / (s - t))≤6*K+70
  w:hp (2*K+1) (awq q r)
  m1:hq (s / (s - t)*(awq q r).1)≤8*K+71
  m2:hq (s / (s - t)*(awq q r).2)≤8*K+71
  p:hp (9*K+72) (ptq s t q r)
theorem nb {K:Nat} {s t:Rat} {q r:Q2} (hs:hq s≤2*K+23) (ht:hq t≤2*K+23) (hn:s - t≠0) (h1:hp K q) (h2:hp K r):Nb K s t q r:=by
  have a1:=hq_sub s t
  have a2:=hq_div s hn
  have a3:=hp_awq h1 h2
  have a4:=hq_mul (s / (s - t)) (awq q r).1
  have a5:=hq_mul (s / (s - t)) (awq q r).2
  have a6:=hq_add q.1 (s / (s - t)*(awq q r).1)
  have a7:=hq_add q.2 (s / (s - t)*(awq q r).2)
  have:=a3.1;have:=a3.2;have:=h1.1;have:=h1.2
  exact ⟨by omega,by omega,hp_mono a3 (by omega),by omega,by omega,⟨by show hq (q.1+_)≤_;omega,by show hq (q.2+_)≤_;omega⟩⟩
theorem opp {s t:Rat} (h:sgq s*sgq t<0):s - t≠0:=by
  intro e
  have:s=t:=by rw [← sgq_sub_zero,e];rfl
  subst this
  have h1:=sgq_rng s
  have h2:sgq s= -1∨sgq s=0∨sgq s=1:=by omega
  rcases h2 with h2|h2|h2 <;> rw [h2] at h <;> omega
theorem sg_mul (s t:Rat): -1≤sgq s*sgq t∧sgq s*sgq t≤1:=by
  have h1:=sgq_rng s
  have h2:=sgq_rng t
  have h:=mul_b (x:=sgq s) (y:=sgq t) (m:=1) (n:=1) (by omega) (by omega)
  omega
def clA (a b q r:Q2):List Q2:=(if 0≤sgq (sdq a b q) then [q] else [])++(if sgq (sdq a b q)*sgq (sdq a b r)<0 then [ptq (sdq a b q) (sdq a b r) q r] else [])
def clN (n:Nat) (a b:Q2) (l:List Q2):Nat→List Q2
  |0=>[]
  |i+1=>clN n a b l i++clA a b (gq l i) (gq l ((i+1)%n))
def clL (a b:Q2) (l:List Q2):List Q2:=clN l.length a b l l.length
theorem clA_len (a b q r:Q2):(clA a b q r).length≤2:=by unfold clA;split <;> split <;> simp
theorem clN_len {n:Nat} {a b:Q2} {l:List Q2}:∀i,(clN n a b l i).length≤2*i
  |0=>Nat.le_refl _
  |i+1=>by
    have h1:=clN_len (n:=n) (a:=a) (b:=b) (l:=l) i
    have h2:=clA_len a b (gq l i) (gq l ((i+1)%n))
    unfold clN;rw [List.length_append];omega
theorem clL_len {a b:Q2} {l:List Q2}:(clL a b l).length≤2*l.length:=clN_len _
def bq (K:Nat) (l:List Q2):Prop:=∀x∈l,hp K x
instance (K:Nat) (l:List Q2):Decidable (bq K l):=inferInstanceAs (Decidable (∀x∈l,_))
theorem bq_at {K:Nat} {l:List Q2} (h:bq K l) {i:Nat} (hi:i<l.length):hp K (gq l i):=h _ (Ms.getD_mem _ hi)
theorem clA_bq {a b q r:Q2} {K:Nat} (ha:hp 3 a) (hb:hp 3 b) (h1:hp K q) (h2:hp K r):bq (9*K+72) (clA a b q r):=by
  intro x hx
  unfold clA at hx
  rcases List.mem_append.1 hx with hx|hx
  · split at hx
    · rw [List.mem_singleton] at hx;subst hx;exact hp_mono h1 (by omega)
    · cases hx
  · split at hx
    · rename_i hc
      rw [List.mem_singleton] at hx;subst hx
      exact (nb (hq_sdq ha hb h1) (hq_sdq ha hb h2) (opp hc) h1 h2).p
    · cases hx
theorem clN_bq {n:Nat} {a b:Q2} {l:List Q2} {K:Nat} (hn:l.length=n) (ha:hp 3 a) (hb:hp 3 b) (h:bq K l):∀{i:Nat},i≤n→bq (9*K+72) (clN n a b l i)
  |0,_=>fun x hx=>by cases hx
  |i+1,hi=>fun x hx=>by
    unfold clN at hx
    rcases List.mem_append.1 hx with hx|hx
    · exact clN_bq hn ha hb h (i:=i) (by omega) x hx
    · exact clA_bq ha hb (bq_at h (by omega)) (bq_at h (by rw [hn];exact Nat.mod_lt _ (by omega))) x hx
theorem clL_bq {a b:Q2} {l:List Q2} {K:Nat} (ha:hp 3 a) (hb:hp 3 b) (h:bq K l):bq (9*K+72) (clL a b l):=clN_bq rfl ha hb h (Nat.le_refl _)
def pq (x y:Int):Q2:=((x:Rat),(y:Rat))
theorem hp_pq {x y:Int} (hx: -9223372036854775808≤x∧x≤9223372036854775807) (hy: -9223372036854775808≤y∧y≤9223372036854775807):hp 3 (pq x y):=⟨hq_64 hx.1 hx.2,hq_64 hy.1 hy.2⟩
def pts (l:List P2):List Q2:=l.map (fun p=>pq p.1 p.2)
def win (l:List P2) (a b:P2):List Q2:=clL (pq 1 b.2) (pq 0 b.2) (clL (pq 0 a.2) (pq 1 a.2) (clL (pq b.1 0) (pq b.1 1) (clL (pq a.1 1) (pq a.1 0) (pts l))))
def wnC (l:List P2) (a b:P2):Int:=if ck l≠0 then ck l else if ¬(inR a∧inR b) then 2 else if b.1≤a.1∨b.2≤a.2 then 5 else 0
def wnV (l:List P2) (a b:P2):List Q2:=if wnC l a b≠0 then [] else win l a b
theorem wn_bad {l:List P2} {a b:P2} (h:ck l≠0):wnC l a b=ck l∧wnV l a b=[]:=by
  have h1:wnC l a b=ck l:=by unfold wnC;rw [if_pos h]
  exact ⟨h1,by unfold wnV;rw [h1,if_pos h]⟩
theorem wn_far {l:List P2} {a b:P2} (h:ck l=0) (h2:¬(inR a∧inR b)):wnC l a b=2∧wnV l a b=[]:=by
  have h1:wnC l a b=2:=by unfold wnC;rw [if_neg (fun k=>k h),if_pos h2]
  exact ⟨h1,by unfold wnV;rw [h1,if_pos (by decide)]⟩
theorem wn_ord {l:List P2} {a b:P2} (h:ck l=0) (h2:inR a∧inR b) (h3:b.1≤a.1∨b.2≤a.2):wnC l a b=5∧wnV l a b=[]:=by
  have h1:wnC l a b=5:=by unfold wnC;rw [if_neg (fun k=>k h),if_neg (fun k=>k h2),if_pos h3]
  exact ⟨h1,by unfold wnV;rw [h1,if_pos (by decide)]⟩
theorem wn_ok {l:List P2} {a b:P2} (h:ck l=0) (h2:inR a∧inR b) (h3:¬(b.1≤a.1∨b.2≤a.2)):wnC l a b=0∧wnV l a b=win l a b:=by
  have h1:wnC l a b=0:=by unfold wnC;rw [if_neg (fun k=>k h),if_neg (fun k=>k h2),if_neg h3]
  exact ⟨h1,by unfold wnV;rw [h1,if_neg (by decide)]⟩
theorem pts_bq {l:List P2} (h:∀x∈l,inR x):bq 3 (pts l):=fun x hx=>by
  unfold pts at hx
  obtain ⟨p,hp,e⟩:=List.mem_map.1 hx
  have:=h p hp
  unfold inR at this
  rw [← e]
  exact hp_pq (by omega) (by omega)
theorem pts_take {l:List P2} {i:Nat} (h:i<l.length):pts (l.take (i+1))=pts (l.take i)++[pq (l.getD i (0,0)).1 (l.getD i (0,0)).2]:=by
  unfold pts;rw [Ms.take_snoc (0,0) h,List.map_append];rfl
def szT (n:Nat) (l:List Q2) (i:Nat):Rat:=prq (gq l i) (gq l ((i+1)%n))
def szN (n:Nat) (l:List Q2):Nat→Rat
  |0=>0
  |i+1=>szN n l i+szT n l i
def sz (l:List Q2):Rat:=szN l.length l l.length
theorem d01:Rat.divInt 0 1=0:=by decide
def exA:List P2:=[(0,0),(4,0),(4,4),(2,1),(0,4)]
def exB:List P2:=[(0,0),(4,0),(4,4),(0,4)]
theorem ex1:arV exA=20∧arC exA=0:=by decide +kernel
theorem ex2:isV exA (1,1)=1∧isC exA (1,1)=0:=by decide +kernel
theorem ex3:isV exA (2,2)= -1∧isC exA (2,2)=0:=by decide +kernel
theorem ex4:erV exA=[(1,2,3),(0,1,3),(0,3,4)]∧erC exA=0:=by decide +kernel
theorem ex5:wnC exB (2,-1) (9,2)=0:=by decide +kernel
def exW:List Q2:=wnV exB (2,-1) (9,2)
theorem ex6:bq 100 exW:=by decide +kernel
theorem ex7:∀i,i≤exW.length→hq (szN exW.length exW i)≤500000:=by decide +kernel
theorem ex8:sz exW=((8:Int):Rat):=by decide +kernel
end Go.Proofs.YtjcpbhlijoigfaaGreat.Pg
namespace Go.Proofs.YtjcpbhlijoigfaaGreat.Er
open Pg Sw
set_option linter.unusedVariables false
def crq (a b c:Q2):Rat:=(b.1 - a.1)*(c.2 - a.2) - (b.2 - a.2)*(c.1 - a.1)
def CvQ (s:Rat) (l:List Q2):Prop:=∀a b c,[a,b,c].Sublist l→0≤s*crq a b c
theorem crq_cyc (a b c:Q2):crq a b c=crq b c a∧crq a b c=crq c a b:=by unfold crq;constructor <;> grind
theorem CvQ.rot {s:Rat} {X Y:List Q2} (h:CvQ s (X++Y)):CvQ s (Y++X):=fun a b c hs=>by
  have k:=crq_cyc a b c
  rcases sub_app3 hs with q|q|⟨q1,q2⟩|⟨q1,q2⟩
  · exact h a b c (q.trans (List.sublist_append_right ..))
  · exact h a b c (q.trans (List.sublist_append_left ..))
  · rw [k.1]
    exact h b c a (List.Sublist.append q2 q1)
  · rw [k.2]
    exact h c a b (List.Sublist.append q2 q1)
theorem CvQ.sub {s:Rat} {l l':List Q2} (h:CvQ s l) (k:l'.Sublist l):CvQ s l':=fun a b c hs=>h a b c (hs.trans k)
def sQ {α:Type} (f:α×α→Rat):List (α×α)→Rat
  |[]=>0
  |e :: L=>f e+sQ f L
section
variable {α : Type}
theorem sQ_app (f:α×α→Rat) (A B:List (α×α)):sQ f (A++B)=sQ f A+sQ f B:=by
  induction A with
  |nil=>show sQ f B=0+sQ f B;grind
  |cons a A ih=>rw [List.cons_append];simp only [sQ];rw [ih];grind
theorem sQ_perm {f:α×α→Rat} {A B:List (α×α)} (h:A.Perm B):sQ f A=sQ f B:=by
  induction h with
  |nil=>rfl
  |cons a _ ih=>simp only [sQ];rw [ih]
  |swap a b l=>simp only [sQ];grind
  |trans _ _ h1 h2=>rw [h1,h2]
theorem sQ_le {f g:α×α→Rat}:∀{A:List (α×α)},(∀e∈A,f e≤g e)→sQ f A≤sQ g A
  |[],_=>by unfold sQ;grind
  |a :: A,h=>by
    have h1:=h a (List.mem_cons_self ..)
    have h2:=sQ_le (A:=A) fun e he=>h e (List.mem_cons_of_mem _ he)
    simp only [sQ];grind
theorem sQ_congr {f g:α×α→Rat} {A:List (α×α)} (h:∀e∈A,f e=g e):sQ f A=sQ g A:=by
  induction A with
  |nil=>rfl
  |cons a A ih=>simp only [sQ];rw [h a (List.mem_cons_self ..),ih fun e he=>h e (List.mem_cons_of_mem _ he)]
theorem sQ_lin (c d:Rat) (f g:α×α→Rat) (A:List (α×α)):sQ (fun e=>c*f e+d*g e) A=c*sQ f A+d*sQ g A:=by
  induction A with
  |nil=>show (0:Rat)=c*0+d*0;grind
  |cons a A ih=>simp only [sQ];rw [ih];grind
theorem sQ_tel (h:α→Rat):∀(a:α) (X:List α) (b:α),sQ (fun e=>h e.2 - h e.1) (path (a :: X++[b]))=h b - h a
  |a,[],b=>by show (h b - h a)+0=_;grind
  |a,c :: X,b=>by
    have:=sQ_tel h c X b
    show (h c - h a)+sQ _ (path (c :: X++[b]))=_
    rw [this];grind
theorem sQ_cyc (h:α→Rat) (l:List α):sQ (fun e=>h e.2 - h e.1) (cyc l)=0:=by
  cases l with
  |nil=>rfl
  |cons a r=>
    show sQ _ (path (a :: r++[a]))=0
    rw [sQ_tel];grind
end
def zc (l:List Q2):Rat:=sQ (fun e=>prq e.1 e.2) (cyc l)
theorem zc_rot (X Y:List Q2):zc (X++Y)=zc (Y++X):=sQ_perm (cyc_rot X Y)
theorem zc_ins (a m b:Q2) (R:List Q2):zc (a :: m :: b :: R)=zc (a :: b :: R)+crq a m b:=by
  show prq a m+(prq m b+sQ _ (path (b :: R++[a])))=(prq a b+sQ _ (path (b :: R++[a])))+crq a m b
  unfold prq crq;grind
def pos (x:Rat):Rat:=if x<0 then 0 else x
theorem pos_c (x:Rat):x<0∧pos x=0∨0≤x∧pos x=x:=by
  unfold pos
  by_cases h:x<0
  · exact .inl ⟨h,if_pos h⟩
  · exact .inr ⟨by grind,if_neg h⟩
def up (g:Q2→Rat) (l:List Q2):Rat:=sQ (fun e=>pos (g e.2 - g e.1)) (cyc l)
theorem up_rot (g:Q2→Rat) (X Y:List Q2):up g (X++Y)=up g (Y++X):=sQ_perm (cyc_rot X Y)
theorem up_ins (g:Q2→Rat) (a m b:Q2) (R:List Q2):up g (a :: m :: b :: R)=up g (a :: b :: R)+(pos (g m - g a)+pos (g b - g m) - pos (g b - g a)):=by
  show pos (g m - g a)+(pos (g b - g m)+sQ _ (path (b :: R++[a])))=(pos (g b - g a)+sQ _ (path (b :: R++[a])))+_
  grind
theorem ring3 {m:Q2} {R:List Q2}:R=[]∨(∃b,R=[b])∨∃b A a,R=b :: A++[a]:=by
  match R with
  |[]=>exact .inl rfl
  |[b]=>exact .inr (.inl ⟨b,rfl⟩)
  |b :: c :: R=>exact .inr (.inr ⟨b,(c :: R).dropLast,(c :: R).getLast (by simp),by
      rw [List.cons_append,List.dropLast_concat_getLast]⟩)
theorem zc_rem {s:Rat} {X Y:List Q2} {m:Q2} (h:CvQ s (X++m :: Y)):s*zc (X++Y)≤s*zc (X++m :: Y):=by
  rw [zc_rot X Y,zc_rot X (m :: Y)]
  have h':CvQ s (m :: Y++X):=h.rot
  show s*zc (Y++X)≤s*zc (m :: (Y++X))
  have h2:CvQ s (m :: (Y++X)):=h'
  generalize Y++X=R at*
  rcases ring3 (m:=m) (R:=R) with rfl|⟨b,rfl⟩|⟨b,A,a,rfl⟩
  · have e1 : zc [] = 0 := rfl
    have e2:zc [m]=0:=by show prq m m+0=0;unfold prq;grind
    rw [e1,e2];grind
  · have e1 : zc [b] = 0 := by show prq b b + 0 = 0; unfold prq; grind
    have e2:zc [m,b]=0:=by show prq m b+(prq b m+0)=0;unfold prq;grind
    rw [e1,e2];grind
  · have e1 : zc (b :: A ++ [a]) = zc (a :: b :: A) := zc_rot (b :: A) [a]
    have e2:zc (m :: (b :: A++[a]))=zc (a :: m :: b :: A):=zc_rot (m :: b :: A) [a]
    have h3:CvQ s (a :: m :: b :: A):=CvQ.rot (X:=m :: b :: A) (Y:=[a]) h2
    rw [e1,e2,zc_ins]
    have h4:=h3 a m b (List.Sublist.cons_cons _ (List.Sublist.cons_cons _ (List.Sublist.cons_cons _ (List.nil_sublist _))))
    grind
theorem zc_sub {s:Rat}:∀{l l':List Q2},l'.Sublist l→∀X:List Q2,CvQ s (X++l)→s*zc (X++l')≤s*zc (X++l):=fun {l l'} h=>by
  induction h with
  |slnil=>intro X _;exact Rat.le_refl
  |cons a h ih=>
    intro X hc
    have h1:=zc_rem hc
    have h2:=ih X (hc.sub (List.Sublist.append (List.Sublist.refl X) (List.sublist_cons_self ..)))
    exact Rat.le_trans h2 h1
  |cons_cons a h ih=>
    intro X hc
    have:=ih (X++[a]) (by simpa using hc)
    simpa using this
theorem up_rem (g:Q2→Rat) (X Y:List Q2) (m:Q2):up g (X++Y)≤up g (X++m :: Y):=by
  rw [up_rot g X Y,up_rot g X (m :: Y)]
  show up g (Y++X)≤up g (m :: (Y++X))
  generalize Y++X=R
  have nn:∀x,0≤pos x:=fun x=>by have:=pos_c x;grind
  have z0:∀x:Rat,pos (x - x)=0:=fun x=>by have:=pos_c (x - x);grind
  rcases ring3 (m:=m) (R:=R) with rfl|⟨b,rfl⟩|⟨b,A,a,rfl⟩
  · have e1 : up g [] = 0 := rfl
    have e2:up g [m]=0:=by show pos (g m - g m)+0=0;rw [z0];grind
    rw [e1,e2];grind
  · have e1 : up g [b] = 0 := by show pos (g b - g b) + 0 = 0; rw [z0]; grind
    have e2:up g [m,b]=pos (g b - g m)+(pos (g m - g b)+0):=rfl
    rw [e1,e2]
    have:=nn (g b - g m)
    have:=nn (g m - g b)
    grind
  · have e1 : up g (b :: A ++ [a]) = up g (a :: b :: A) := up_rot g (b :: A) [a]
    have e2:up g (m :: (b :: A++[a]))=up g (a :: m :: b :: A):=up_rot g (m :: b :: A) [a]
    rw [e1,e2,up_ins]
    have c1:=pos_c (g m - g a)
    have c2:=pos_c (g b - g m)
    have c3:=pos_c (g b - g a)
    grind
theorem up_sub (g:Q2→Rat):∀{l l':List Q2},l'.Sublist l→∀X:List Q2,up g (X++l')≤up g (X++l):=fun {l l'} h=>by
  induction h with
  |slnil=>intro X;exact Rat.le_refl
  |cons a h ih=>intro X;exact Rat.le_trans (ih X) (up_rem g X _ a)
  |cons_cons a h ih=>
    intro X
    have:=ih (X++[a])
    simpa using this
def mp (a b m:Q2):Prop:=∃t:Rat,0≤t∧t≤1∧m=(a.1+t*(b.1 - a.1),a.2+t*(b.2 - a.2))
theorem CvQ.ins1 {s:Rat} {a b m:Q2} {R:List Q2} (h:CvQ s (a :: b :: R)) (hm:mp a b m):CvQ s (a :: m :: b :: R):=by
  obtain ⟨t,t0,t1,rfl⟩:=hm
  have one:∀{u v:Rat},0≤u→0≤v→0≤(1 - t)*u+t*v:=fun {u v} hu hv=>by
    have:=Rat.mul_nonneg (show 0≤1 - t by grind) hu
    have:=Rat.mul_nonneg t0 hv
    grind
  intro x y z hs
  -- triples without the new point
  rcases List.sublist_cons_iff.1 hs with k|⟨r,hr,k⟩
  · rcases List.sublist_cons_iff.1 k with k2 | ⟨r, hr, k2⟩
    · exact h x y z (List.Sublist.cons _ k2)
    · injection hr with r1 r2
      subst r1;subst r2
      have e:s*crq (a.1+t*(b.1 - a.1),a.2+t*(b.2 - a.2)) y z=(1 - t)*(s*crq a y z)+t*(s*crq b y z):=by unfold crq;grind
      rw [e]
      refine one (h a y z (List.Sublist.cons_cons _ k2)) ?_
      rcases List.sublist_cons_iff.1 k2 with k3|⟨r,hr,k3⟩
      · exact h b y z (List.Sublist.cons _ (List.Sublist.cons_cons _ k3))
      · injection hr with r1 r2
        subst r1
        have:crq y y z=0:=by unfold crq;grind
        rw [this];grind
  · injection hr with r1 r2
    subst r1;subst r2
    rcases List.sublist_cons_iff.1 k with k2|⟨r,hr,k2⟩
    · exact h x y z (List.Sublist.cons_cons _ k2)
    · injection hr with r1 r2
      subst r1;subst r2
      have e:s*crq x (x.1+t*(b.1 - x.1),x.2+t*(b.2 - x.2)) z=(1 - t)*0+t*(s*crq x b z):=by unfold crq;grind
      rw [e]
      refine one (by grind) ?_
      rcases List.sublist_cons_iff.1 k2 with k3|⟨r,hr,k3⟩
      · exact h x b z (List.Sublist.cons_cons _ (List.Sublist.cons_cons _ k3))
      · injection hr with r1 r2
        subst r1
        have:crq x z z=0:=by unfold crq;grind
        rw [this];grind
theorem zc_mp {a b m:Q2} (R:List Q2) (hm:mp a b m):zc (a :: m :: b :: R)=zc (a :: b :: R):=by
  obtain ⟨t,t0,t1,rfl⟩:=hm
  rw [zc_ins]
  have:crq a (a.1+t*(b.1 - a.1),a.2+t*(b.2 - a.2)) b=0:=by unfold crq;grind
  rw [this];grind
def Btw (g:Q2→Rat):Prop:=∀a b m,mp a b m→g a≤g m∧g m≤g b∨g b≤g m∧g m≤g a
theorem up_mp {g:Q2→Rat} (hg:Btw g) {a b m:Q2} (R:List Q2) (hm:mp a b m):up g (a :: m :: b :: R)=up g (a :: b :: R):=by
  rw [up_ins]
  have c1:=pos_c (g m - g a)
  have c2:=pos_c (g b - g m)
  have c3:=pos_c (g b - g a)
  have:=hg a b m hm
  grind
structure St (P:List Q2→Prop):Prop where
  rot:∀X Y,P (X++Y)→P (Y++X)
  ins:∀a b m R,mp a b m→P (a :: b :: R)→P (a :: m :: b :: R)
def fl (m:Q2×Q2→List Q2) (E:List (Q2×Q2)):List Q2:=E.flatMap fun e=>e.1 :: m e
theorem St.mid {P:List Q2→Prop} (h:St P) {a b m:Q2} (X Y:List Q2) (hm:mp a b m) (hp:P (X++a :: b :: Y)):P (X++a :: m :: b :: Y):=by
  have h1:=h.rot _ _ hp
  have h2:=h.ins a b m (Y++X) hm h1
  exact h.rot (a :: m :: b :: Y) X h2
theorem St.fl {P:List Q2→Prop} (h:St P) {m:Q2×Q2→List Q2} (hm:∀e,m e=[]∨∃x,m e=[x]∧mp e.1 e.2 x) (hs:∀a,m (a,a)=[]) {f:Q2}:∀(r:List Q2) (a:Q2) (X:List Q2),(X++a :: r).head? =some f→P (X++a :: r)→P (X++Er.fl m (path (a :: r++[f])))
  |[],a,X,hf,hp=>by
    show P (X++(a :: m (a,f)++[]))
    rw [List.append_nil]
    rcases hm (a,f) with e|⟨x,e,hx⟩
    · rw [e];exact hp
    · rw [e]
      cases X with
      |nil=>
        have:a=f:=by simpa using hf
        subst this
        rw [hs] at e;cases e
      |cons f' X=>
        have:f'=f:=by simpa using hf
        subst this
        have h1:=h.rot (f' :: X) [a] hp
        have h2:=h.ins a f' x X hx h1
        exact h.rot [a,x] (f' :: X) h2
  |b :: r,a,X,hf,hp=>by
    have e:X++Er.fl m (path (a :: b :: r++[f]))=(X++a :: m (a,b))++Er.fl m (path (b :: r++[f])):=by
      show X++(a :: m (a,b)++_)=_
      rw [← List.append_assoc];rfl
    rw [e]
    refine St.fl h hm hs r b (X++a :: m (a,b)) ?_ ?_
    · cases X with
      |nil=>simpa using hf
      |cons x X=>simpa using hf
    · rcases hm (a, b) with e | ⟨x, e, hx⟩
      · rw [e];simpa using hp
      · rw [e]
        have:=h.mid X r hx hp
        simpa using this
end Go.Proofs.YtjcpbhlijoigfaaGreat.Er
namespace Go.Proofs.YtjcpbhlijoigfaaGreat.Er
open Pg Sw
set_option linter.unusedVariables false
open Go.Proofs.YtjcpbhlijoigfaaGreat.Big
def mI (a b:Q2) (e:Q2×Q2):List Q2:=if sgq (sdq a b e.1)*sgq (sdq a b e.2)<0 then [ptq (sdq a b e.1) (sdq a b e.2) e.1 e.2] else []
theorem sg_opp {s t:Rat} (h:sgq s*sgq t<0):s<0∧0<t∨0<s∧t<0:=by
  have h1:=sgq_rng s
  have h2:=sgq_rng t
  have c:∀{a b:Int},a*b<0→(-1≤a∧a≤1)→(-1≤b∧b≤1)→a<0∧0<b∨0<a∧b<0:=fun {a b} h ha hb=>by
    have:a= -1∨a=0∨a=1:=by omega
    rcases this with rfl|rfl|rfl <;> omega
  rcases c h h1 h2 with ⟨a,b⟩|⟨a,b⟩
  · exact .inl ⟨sgq_lt.1 a,sgq_pos.1 b⟩
  · exact .inr ⟨sgq_pos.1 a,sgq_lt.1 b⟩
theorem div_in {s t:Rat} (h:s<0∧0<t∨0<s∧t<0):0≤s / (s - t)∧s / (s - t)≤1∧s / (s - t)*(s - t)=s:=by
  have hn:s - t≠0:=by grind
  have hm:s / (s - t)*(s - t)=s:=Rat.div_mul_cancel hn
  generalize s / (s - t)=f at*
  rcases h with ⟨a,b⟩|⟨a,b⟩
  · refine ⟨?_, ?_, hm⟩
    · rcases lt_or_le f 0 with k | k
      · have:=Rat.mul_pos (show 0< -f by grind) (show 0< -(s - t) by grind);grind
      · exact k
    · rcases lt_or_le 1 f with k | k
      · have:=Rat.mul_pos (show 0<f - 1 by grind) (show 0< -(s - t) by grind);grind
      · exact k
  · refine ⟨?_, ?_, hm⟩
    · rcases lt_or_le f 0 with k | k
      · have:=Rat.mul_pos (show 0< -f by grind) (show 0<s - t by grind);grind
      · exact k
    · rcases lt_or_le 1 f with k | k
      · have:=Rat.mul_pos (show 0<f - 1 by grind) (show 0<s - t by grind);grind
      · exact k
theorem pt_mp {s t:Rat} (h:sgq s*sgq t<0) (q r:Q2):mp q r (ptq s t q r):=by
  obtain ⟨h1,h2,h3⟩:=div_in (sg_opp h)
  exact ⟨s / (s - t),h1,h2,rfl⟩
theorem mI_c (a b:Q2) (e:Q2×Q2):mI a b e=[]∨∃x,mI a b e=[x]∧mp e.1 e.2 x:=by
  unfold mI
  split
  · rename_i h
    exact .inr ⟨_,rfl,pt_mp h _ _⟩
  · exact .inl rfl
theorem mI_self (a b x:Q2):mI a b (x,x)=[]:=by
  unfold mI
  rw [if_neg]
  have:=sgq_rng (sdq a b x)
  have h:sgq (sdq a b x)= -1∨sgq (sdq a b x)=0∨sgq (sdq a b x)=1:=by omega
  dsimp only
  rcases h with h|h|h <;> rw [h] <;> decide
theorem clN_fm {n:Nat} {a b:Q2} {l:List Q2}:∀i,clN n a b l i=((List.range i).map (fun i=>(gq l i,gq l ((i+1)%n)))).flatMap (fun e=>clA a b e.1 e.2)
  |0=>rfl
  |i+1=>by
    unfold clN
    rw [clN_fm i,List.range_succ,List.map_append,List.flatMap_append]
    simp
theorem clL_fm (a b:Q2) (l:List Q2):clL a b l=(cyc l).flatMap (fun e=>clA a b e.1 e.2):=by
  unfold clL
  rw [clN_fm,cyc_getD ((0:Rat),(0:Rat)) rfl]
theorem fm_sub {α β:Type} {f g:α→List β} (h:∀x,(f x).Sublist (g x)):∀l:List α,(l.flatMap f).Sublist (l.flatMap g)
  |[]=>List.Sublist.slnil
  |a :: l=>by rw [List.flatMap_cons,List.flatMap_cons];exact List.Sublist.append (h a) (fm_sub h l)
theorem clL_sub (a b:Q2) (l:List Q2):(clL a b l).Sublist (fl (mI a b) (cyc l)):=by
  rw [clL_fm]
  unfold fl
  refine fm_sub (fun e=> ?_) _
  show (clA a b e.1 e.2).Sublist ([e.1]++mI a b e)
  unfold clA
  refine List.Sublist.append ?_ (List.Sublist.refl _)
  split
  · exact List.Sublist.refl _
  · exact List.nil_sublist _
theorem ins_st {P:List Q2→Prop} (h:St P) (a b:Q2) {l:List Q2} (hp:P l):P (fl (mI a b) (cyc l)):=by
  cases l with
  |nil=>exact hp
  |cons x r=>
    have:=h.fl (m:=mI a b) (mI_c a b) (mI_self a b) (f:=x) r x [] rfl hp
    exact this
theorem st_cv (s:Rat):St (CvQ s):=⟨fun X Y h=>h.rot,fun a b m R hm h=>h.ins1 hm⟩
theorem st_zc (z:Rat):St (fun l=>zc l=z):=⟨fun X Y h=>by rw [zc_rot];exact h,fun a b m R hm h=>by rw [zc_mp R hm];exact h⟩
theorem st_up {g:Q2→Rat} (hg:Btw g) (z:Rat):St (fun l=>up g l=z):=⟨fun X Y h=>by rw [up_rot];exact h,fun a b m R hm h=>by rw [up_mp hg R hm];exact h⟩
theorem mem_mid {a b m:Q2} {R:List Q2} {x:Q2} (h:x∈a :: m :: b :: R):x=m∨x∈a :: b :: R:=by
  simp at h ⊢
  rcases h with k|k|k|k <;> simp [k]
def Aff (f:Q2→Rat):Prop:=∀(a b:Q2) (t:Rat),f (a.1+t*(b.1 - a.1),a.2+t*(b.2 - a.2))=(1 - t)*f a+t*f b
theorem st_aff {f:Q2→Rat} (hf:Aff f):St (fun l=>∀x∈l,0≤f x):=⟨fun X Y h x hx=>h x (List.perm_append_comm.mem_iff.1 hx),fun a b m R hm h x hx=>by
  rcases mem_mid hx with rfl|k
  · obtain ⟨t, t0, t1, rfl⟩ := hm
    rw [hf]
    have:=Rat.mul_nonneg (show 0≤1 - t by grind) (h a (by simp))
    have:=Rat.mul_nonneg t0 (h b (by simp))
    grind
  · exact h x k⟩
theorem clip_1 {s:Rat} {g:Q2→Rat} (hg:Btw g) (a b:Q2) {l:List Q2} (h:CvQ s l):CvQ s (clL a b l)∧s*zc (clL a b l)≤s*zc l∧up g (clL a b l)≤up g l:=by
  have h1:=ins_st (st_cv s) a b h
  have h2:=ins_st (st_zc (zc l)) a b rfl
  have h3:=ins_st (st_up hg (up g l)) a b rfl
  have hs:=clL_sub a b l
  have k2:=zc_sub hs [] (by simpa using h1)
  have k3:=up_sub g hs []
  simp only [List.nil_append] at k2 k3
  rw [h2] at k2
  rw [h3] at k3
  exact ⟨h1.sub hs,k2,k3⟩
theorem clip_aff {f:Q2→Rat} (hf:Aff f) (a b:Q2) {l:List Q2} (h:∀x∈l,0≤f x):∀x∈clL a b l,0≤f x:=fun x hx=>ins_st (st_aff hf) a b h x ((clL_sub a b l).subset hx)
theorem sdq_pt {a b:Q2} (q r:Q2) (f:Rat):sdq a b (q.1+f*(awq q r).1,q.2+f*(awq q r).2)=sdq a b q - f*(sdq a b q - sdq a b r):=by
  unfold sdq prq awq;grind
theorem clip_side (a b:Q2) (l:List Q2):∀x∈clL a b l,0≤sdq a b x:=fun x hx=>by
  rw [clL_fm] at hx
  obtain ⟨e,he,hx⟩:=List.mem_flatMap.1 hx
  unfold clA at hx
  rcases List.mem_append.1 hx with hx|hx
  · split at hx
    · rename_i h
      rw [List.mem_singleton] at hx;subst hx
      exact sgq_ge.1 h
    · cases hx
  · split at hx
    · rename_i h
      rw [List.mem_singleton] at hx;subst hx
      obtain ⟨h1,h2,h3⟩:=div_in (sg_opp h)
      unfold ptq
      rw [sdq_pt,h3];grind
    · cases hx
theorem zc_alt (l:List Q2):zc l=sQ (fun e=>(e.1.1+e.2.1)*(e.2.2 - e.1.2)) (cyc l):=by
  have h:=sQ_cyc (fun x:Q2=>x.1*x.2) l
  have e:=sQ_lin 1 1 (fun e:Q2×Q2=>prq e.1 e.2) (fun e=>e.2.1*e.2.2 - e.1.1*e.1.2) (cyc l)
  rw [h] at e
  have e2:zc l=1*sQ (fun e:Q2×Q2=>prq e.1 e.2) (cyc l)+1*0:=by unfold zc;grind
  rw [e2,←e]
  refine sQ_congr fun e _=> ?_
  unfold prq;grind
theorem box_le {x0 x1:Rat} {l:List Q2} (hx:∀x∈l,x0≤x.1∧x.1≤x1):zc l≤2*(x1 - x0)*up (fun x=>x.2) l∧ -(2*(x1 - x0)*up (fun x=>x.2) l)≤zc l:=by
  have hm:∀e∈cyc l,(x0≤e.1.1∧e.1.1≤x1)∧(x0≤e.2.1∧e.2.1≤x1):=fun e he=>⟨hx _ (cyc_mem (x:=e.1) (y:=e.2) he).1,hx _ (cyc_mem (x:=e.1) (y:=e.2) he).2⟩
  have ht:=sQ_cyc (fun x:Q2=>x.2) l
  have e1:=sQ_lin (2*x1 - 2*x0) (2*x0) (fun e:Q2×Q2=>pos (e.2.2 - e.1.2)) (fun e=>e.2.2 - e.1.2) (cyc l)
  have e2:=sQ_lin (2*x0 - 2*x1) (2*x1) (fun e:Q2×Q2=>pos (e.2.2 - e.1.2)) (fun e=>e.2.2 - e.1.2) (cyc l)
  rw [ht] at e1 e2
  have l1:zc l≤sQ (fun e:Q2×Q2=>(2*x1 - 2*x0)*pos (e.2.2 - e.1.2)+2*x0*(e.2.2 - e.1.2)) (cyc l):=by
    rw [zc_alt]
    refine sQ_le fun e he=> ?_
    obtain ⟨⟨a1,a2⟩,b1,b2⟩:=hm e he
    rcases pos_c (e.2.2 - e.1.2) with ⟨k,k2⟩|⟨k,k2⟩
    · rw [k2]
      have:=Rat.mul_nonneg (show 0≤e.1.1+e.2.1 - 2*x0 by grind) (show 0≤ -(e.2.2 - e.1.2) by grind)
      grind
    · rw [k2]
      have:=Rat.mul_nonneg (show 0≤2*x1 - (e.1.1+e.2.1) by grind) k
      grind
  have l2:sQ (fun e:Q2×Q2=>(2*x0 - 2*x1)*pos (e.2.2 - e.1.2)+2*x1*(e.2.2 - e.1.2)) (cyc l)≤zc l:=by
    rw [zc_alt]
    refine sQ_le fun e he=> ?_
    obtain ⟨⟨a1,a2⟩,b1,b2⟩:=hm e he
    rcases pos_c (e.2.2 - e.1.2) with ⟨k,k2⟩|⟨k,k2⟩
    · rw [k2]
      have:=Rat.mul_nonneg (show 0≤2*x1 - (e.1.1+e.2.1) by grind) (show 0≤ -(e.2.2 - e.1.2) by grind)
      grind
    · rw [k2]
      have:=Rat.mul_nonneg (show 0≤e.1.1+e.2.1 - 2*x0 by grind) k
      grind
  rw [e1] at l1
  rw [e2] at l2
  unfold up
  constructor <;> grind
theorem four {w1 w2 w3 w4 A B C D:Int} (h1:0≤w1) (h2:0≤w2) (h3:0≤w3) (h4:0≤w4) (q1:w1+w2=w3+w4) (q2:w1*A+w2*D=w3*C+w4*B) (la:A≤D) (hk:D<C) (lb:C≤B):w1=0∧w4=0:=by
  have r1:=Int.mul_nonneg h1 (show 0≤D - A by omega)
  have r2:=Int.mul_nonneg h4 (show 0≤B - C by omega)
  have r3:=Int.mul_nonneg (show 0≤w3+w4 by omega) (show 0≤C - D - 1 by omega)
  have e1:w2=w3+w4 - w1:=by omega
  subst e1
  have:w3+w4≤0:=by
    have a1:w1*(D - A)=w1*D - w1*A:=by grind
    have a2:w4*(B - C)=w4*B - w4*C:=by grind
    have a3:(w3+w4)*(C - D - 1)=w3*C+w4*C - w3*D - w4*D - w3 - w4:=by grind
    have a4:(w3+w4 - w1)*D=w3*D+w4*D - w1*D:=by grind
    omega
  omega
section
variable {s : Int} (hs : s = 1 ∨ s = -1)
include hs
theorem mono_path {a b:P2} {X Y:List P2} {ε:Int} (hε:ε=1∨ε= -1) (h:Cv s (a :: X++b :: Y)) (hd:∀c∈a :: X++b :: Y,∀d∈a :: X++b :: Y,c.2≠d.2→∃e∈a :: X++b :: Y,crs e c d≠0) (hlo:∀x∈a :: X++b :: Y,ε*a.2≤ε*x.2) (hhi:∀x∈a :: X++b :: Y,ε*x.2≤ε*b.2):∀e∈path (a :: X++[b]),ε*e.1.2≤ε*e.2.2:=by
  have split:∀(L:List P2) (c d:P2),(c,d)∈path L→∃Z1 Z2,L=Z1++c :: d :: Z2:=fun L=>by
    induction L with
    |nil=>intro c d h;cases h
    |cons x L ih=>
      intro c d h
      cases L with
      |nil=>cases h
      |cons y L=>
        rcases List.mem_cons.1 h with k|k
        · cases k;exact ⟨[],L,rfl⟩
        · obtain ⟨Z1, Z2, e⟩ := ih c d k
          exact ⟨x :: Z1,Z2,by rw [e];rfl⟩
  rintro ⟨c,d⟩ he
  obtain ⟨Z1,Z2,e⟩:=split _ c d he
  have mem1:∀x∈a :: X++[b],x∈a :: X++b :: Y:=fun x hx=>by simp at hx ⊢;rcases hx with k|k|k <;> simp [k]
  have hcm:c∈a :: X++b :: Y:=mem1 c (by rw [e];simp)
  have hdm:d∈a :: X++b :: Y:=mem1 d (by rw [e];simp)
  show ε*c.2≤ε*d.2
  cases Z1 with
  |nil=>
    have:a=c:=by injection (show a :: (X++[b])=c :: (d :: Z2) from e)
    subst this
    exact hlo d hdm
  |cons a' Z1=>
    have ea:a=a':=by injection (show a :: (X++[b])=a' :: (Z1++c :: d :: Z2) from e)
    subst ea
    by_cases hz:Z2=[]
    · subst hz
      have:b=d:=by
        have e':a :: X++[b]=(a :: Z1++[c])++[d]:=by rw [e];simp
        have:=(List.append_inj' e' rfl).2
        simpa using this
      subst this
      exact hhi c hcm
    obtain ⟨Z3,b',rfl⟩:∃r' x,Z2=r'++[x]:=⟨Z2.dropLast,Z2.getLast hz,(List.dropLast_concat_getLast hz).symm⟩
    have eb:b=b':=by
      have e':a :: X++[b]=(a :: Z1++c :: d :: Z3)++[b']:=by rw [e];simp
      have:=(List.append_inj' e' rfl).2
      simpa using this
    subst eb
    have eL:a :: X++b :: Y=a :: Z1++c :: d :: (Z3++b :: Y):=by
      have:a :: X++b :: Y=(a :: X++[b])++Y:=by simp
      rw [this,e];simp
    rw [eL] at h hd hlo hhi hcm hdm
    refine Int.not_lt.1 fun hk=> ?_
    have la:=hlo d (by simp)
    have lb:=hhi c (by simp)
    -- the four points lie on a line
    have b1:∀{x:P2} {L:List P2},x∈L→[x].Sublist L:=fun hx=>sub1 hx
    have S4:[a,c,d,b].Sublist (a :: Z1++c :: d :: (Z3++b :: Y)):=by
      refine List.Sublist.append (l₁:=[a]) (b1 (by simp)) (List.Sublist.cons_cons _ (List.Sublist.cons_cons _ (b1 (by simp))))
    have w1:=h c d b ((List.sublist_cons_self a [c,d,b]).trans S4)
    have w2:=h a c b (List.Sublist.trans (List.Sublist.cons_cons _ (List.Sublist.cons_cons _ (List.sublist_cons_self d [b]))) S4)
    have w3:=h a d b (List.Sublist.trans (List.Sublist.cons_cons _ (List.sublist_cons_self c [d,b])) S4)
    have w4:=h a c d (List.Sublist.trans (List.Sublist.cons_cons _ (List.Sublist.cons_cons _ (List.Sublist.cons_cons _ (List.nil_sublist [b])))) S4)
    have q1:s*crs c d b+s*crs a c b=s*crs a d b+s*crs a c d:=by
      have:crs c d b+crs a c b=crs a d b+crs a c d:=by unfold crs;grind
      rw [← Int.mul_add,←Int.mul_add,this]
    have q2:(s*crs c d b)*(ε*a.2)+(s*crs a c b)*(ε*d.2)=(s*crs a d b)*(ε*c.2)+(s*crs a c d)*(ε*b.2):=by
      have:crs c d b*a.2+crs a c b*d.2=crs a d b*c.2+crs a c d*b.2:=by unfold crs;grind
      have e1:(s*crs c d b)*(ε*a.2)+(s*crs a c b)*(ε*d.2)=s*ε*(crs c d b*a.2+crs a c b*d.2):=by grind
      rw [e1,this];grind
    have z:=four w1 w2 w3 w4 q1 q2 la hk lb
    have sz:∀{z:Int},s*z=0→z=0:=fun {z} k=>by rcases hs with rfl|rfl <;> omega
    have z1:=sz z.1
    have z2:=sz z.2
    -- another vertex off this line
    obtain ⟨x,hx,hx0⟩:=hd c hcm d hdm (fun k=>by rw [k] at hk;omega)
    have case1:0≤s*crs x c d→0≤s*crs x d b→False:=fun g1 g2=>by
      have e1:(s*crs x d b)*(ε*d.2 - ε*c.2)=(s*crs x c d)*(ε*b.2 - ε*d.2):=by
        have:crs x d b*(d.2 - c.2) - crs x c d*(b.2 - d.2)=crs c d b*(d.2 - x.2):=by unfold crs;grind
        rw [z1,Int.zero_mul] at this
        have e2:(s*crs x d b)*(ε*d.2 - ε*c.2) - (s*crs x c d)*(ε*b.2 - ε*d.2)=s*ε*(crs x d b*(d.2 - c.2) - crs x c d*(b.2 - d.2)):=by grind
        rw [this,Int.mul_zero] at e2;omega
      have p1:=Int.mul_nonneg g2 (show 0≤ε*c.2 - ε*d.2 by omega)
      have hne:0<s*crs x c d:=by
        have:s*crs x c d≠0:=fun k=>hx0 (sz k)
        omega
      have p2:=Int.mul_pos hne (show 0<ε*b.2 - ε*d.2 by omega)
      grind
    have case2:0≤s*crs c d x→0≤s*crs a c x→False:=fun g1 g2=>by
      have e1:(s*crs a c x)*(ε*d.2 - ε*c.2)=(s*crs c d x)*(ε*c.2 - ε*a.2):=by
        have:crs a c x*(d.2 - c.2) - crs c d x*(c.2 - a.2)=crs a c d*(x.2 - c.2):=by unfold crs;grind
        rw [z2,Int.zero_mul] at this
        have e2:(s*crs a c x)*(ε*d.2 - ε*c.2) - (s*crs c d x)*(ε*c.2 - ε*a.2)=s*ε*(crs a c x*(d.2 - c.2) - crs c d x*(c.2 - a.2)):=by grind
        rw [this,Int.mul_zero] at e2;omega
      have p1:=Int.mul_nonneg g2 (show 0≤ε*c.2 - ε*d.2 by omega)
      have hne:0<s*crs c d x:=by
        have:s*crs c d x≠0:=fun k=>by
          have k2:=sz k
          rw [← (crs_cyc3 x c d).1] at k2
          exact hx0 k2
        omega
      have p2:=Int.mul_pos hne (show 0<ε*c.2 - ε*a.2 by omega)
      grind
    have t1:crs a c d=0:=z2
    simp only [List.cons_append,List.mem_cons,List.mem_append] at hx
    rcases hx with rfl|hx|rfl|rfl|hx|rfl|hx
    · exact hx0 z2
    · -- between a and c
      refine case1 (h x c d ?_) (h x d b ?_)
      · exact List.Sublist.append (l₁:=[x]) (b1 (by simp [hx])) (List.Sublist.cons_cons _ (List.Sublist.cons_cons _ (List.nil_sublist _)))
      · exact List.Sublist.append (l₁:=[x]) (b1 (by simp [hx])) (List.Sublist.cons _ (List.Sublist.cons_cons _ (b1 (by simp))))
    · exact hx0 (by unfold crs;grind)
    · exact hx0 (by unfold crs;grind)
    · -- between d and b
      refine case2 (h c d x ?_) (h a c x ?_)
      · exact List.Sublist.append (l₁:=[]) (List.nil_sublist _) (List.Sublist.cons_cons _ (List.Sublist.cons_cons _ (b1 (by simp [hx]))))
      · exact List.Sublist.append (l₁:=[a]) (b1 (by simp)) (List.Sublist.cons_cons _ (List.Sublist.cons _ (b1 (by simp [hx]))))
    · exact hx0 (by rw [(crs_cyc3 x c d).1];exact z1)
    · -- behind b
      refine case1 ?_ ?_
      · rw [(crs_cyc3 x c d).1]
        refine h c d x (List.Sublist.append (l₁:=[]) (List.nil_sublist _) (List.Sublist.cons_cons _ (List.Sublist.cons_cons _ (b1 (by simp [hx])))))
      · rw [(crs_cyc3 x d b).1]
        refine h d b x (List.Sublist.append (l₁:=[]) (List.nil_sublist _) (List.Sublist.cons _ (List.Sublist.cons_cons _ (List.Sublist.append (l₁:=[]) (List.nil_sublist _) (List.Sublist.cons_cons _ (b1 hx))))))
end
end Go.Proofs.YtjcpbhlijoigfaaGreat.Er
namespace Go.Proofs.YtjcpbhlijoigfaaGreat.Er
open Pg Sw
set_option linter.unusedVariables false
open Go.Proofs.YtjcpbhlijoigfaaGreat.Big
theorem col3 {u v w c d:P2} (h1:crs u c d=0) (h2:crs v c d=0) (h3:crs w c d=0) (hne:c.2≠d.2):crs u v w=0:=by
  have e:(d.2 - c.2)*crs u v w=(v.2 - u.2)*(crs w c d - crs u c d) - (w.2 - u.2)*(crs v c d - crs u c d):=by unfold crs;grind
  have e':(d.2 - c.2)*crs u v w=0:=by rw [e,h1,h2,h3];simp
  rcases Int.mul_eq_zero.1 e' with k|k
  · omega
  · exact k
theorem unim {s:Int} (hs:s=1∨s= -1) {p:List P2} (h:SC p) (h64:p.length≤64) (hc:Cv s p):∃P Q a X b Y,p=P++Q∧Q++P=a :: X++b :: Y∧(∀e∈path (a :: X++[b]),e.1.2≤e.2.2)∧∀e∈path (b :: Y++[a]),e.2.2≤e.1.2:=by
  have h3:=h.n3
  have hd:∀c∈p,∀d∈p,c.2≠d.2→∃e∈p,crs e c d≠0:=fun c hc d hd hne=>by
    refine Classical.byContradiction fun hk=> ?_
    have hall:∀e∈p,crs e c d=0:=fun e he=>Classical.byContradiction fun k=>hk ⟨e,he,k⟩
    obtain ⟨T,s',hs',hT,hcc,_⟩:=tri_ex _ p rfl h64 h
    have hl:=hT.len
    match T,hl with
    |[],hl=>simp at hl;omega
    |t :: T,_=>
      obtain ⟨m1,m2,m3⟩:=hT.mem t (List.mem_cons_self ..)
      have:=hcc t (List.mem_cons_self ..)
      have z:crT t=0:=col3 (hall _ m1) (hall _ m2) (hall _ m3) hne
      rw [z,Int.mul_zero] at this;omega
  obtain ⟨a,ha,_,hlo⟩:=argmax (fun _=>True) (fun x=> -x.2) (A:=p) ⟨p.head (fun z=>by subst z;simp at h3),List.head_mem _,trivial⟩
  obtain ⟨P,R',rfl⟩:=List.append_of_mem ha
  have hR:R'++P≠[]:=fun z=>by
    have:=congrArg List.length z
    rw [List.length_append] at this h3
    simp only [List.length_cons,List.length_nil] at this h3;omega
  obtain ⟨b,hb,_,hhi⟩:=argmax (fun _=>True) (fun x=>x.2) (A:=R'++P) ⟨(R'++P).head hR,List.head_mem _,trivial⟩
  obtain ⟨X,Y,e⟩:=List.append_of_mem hb
  have hQ:a :: R'++P=a :: X++b :: Y:=by rw [List.cons_append,e];rfl
  have hc':Cv s (a :: X++b :: Y):=by rw [← hQ];exact hc.rot
  have hm:∀x,x∈a :: X++b :: Y↔x∈P++a :: R':=fun x=>by rw [← hQ];exact List.perm_append_comm.mem_iff
  have hlo':∀x∈a :: X++b :: Y,a.2≤x.2:=fun x hx=>by have:=hlo x ((hm x).1 hx) trivial;omega
  have hhi':∀x∈a :: X++b :: Y,x.2≤b.2:=fun x hx=>by
    rw [← hQ,List.cons_append] at hx
    rcases List.mem_cons.1 hx with rfl|hx
    · exact hlo' b (by simp)
    · exact hhi x hx trivial
  have hd':∀c∈a :: X++b :: Y,∀d∈a :: X++b :: Y,c.2≠d.2→∃e∈a :: X++b :: Y,crs e c d≠0:=fun c k1 d k2 hne=>by
    obtain ⟨e,he,hne⟩:=hd c ((hm c).1 k1) d ((hm d).1 k2) hne
    exact ⟨e,(hm e).2 he,hne⟩
  have m2:∀x,x∈b :: Y++a :: X→x∈a :: X++b :: Y:=fun x hx=>List.perm_append_comm.mem_iff.1 hx
  refine ⟨P,a :: R',a,X,b,Y,rfl,hQ,fun e he=> ?_,fun e he=> ?_⟩
  · have := mono_path hs (ε := 1) (.inl rfl) hc' hd' (fun x hx => by have := hlo' x hx; omega) (fun x hx => by have := hhi' x hx; omega) e he
    omega
  · have:=mono_path hs (ε:= -1) (.inr rfl) hc'.rot (fun c k1 d k2 hne=>by
      obtain ⟨e,he,k⟩:=hd' c (m2 c k1) d (m2 d k2) hne
      exact ⟨e,List.perm_append_comm.mem_iff.1 he,k⟩) (fun x hx=>by have:=hhi' x (m2 x hx);omega) (fun x hx=>by have:=hlo' x (m2 x hx);omega) e he
    omega
def cl (y0 y1 y:Rat):Rat:=if y<y0 then y0 else if y1<y then y1 else y
theorem cl_c {y0 y1:Rat} (h:y0≤y1) (y:Rat):y<y0∧cl y0 y1 y=y0∨y1<y∧cl y0 y1 y=y1∨(y0≤y∧y≤y1)∧cl y0 y1 y=y:=by
  unfold cl
  by_cases k:y<y0
  · exact .inl ⟨k,if_pos k⟩
  · by_cases k2 : y1 < y
    · exact .inr (.inl ⟨k2,by rw [if_neg k,if_pos k2]⟩)
    · exact .inr (.inr ⟨⟨by grind,by grind⟩,by rw [if_neg k,if_neg k2]⟩)
theorem cl_mono {y0 y1 x y:Rat} (h:y0≤y1) (k:x≤y):cl y0 y1 x≤cl y0 y1 y:=by
  have c1:=cl_c h x
  have c2:=cl_c h y
  grind
theorem cl_rng {y0 y1:Rat} (h:y0≤y1) (x:Rat):y0≤cl y0 y1 x∧cl y0 y1 x≤y1:=by
  have c1:=cl_c h x
  grind
theorem btw_cl {y0 y1:Rat} (h:y0≤y1):Btw (fun x=>cl y0 y1 x.2):=fun a b m hm=>by
  obtain ⟨t,t0,t1,rfl⟩:=hm
  dsimp only
  rcases lt_or_le b.2 a.2 with k|k
  · have p1 := Rat.mul_nonneg t0 (show 0 ≤ a.2 - b.2 by grind)
    have p2:=Rat.mul_nonneg (show 0≤1 - t by grind) (show 0≤a.2 - b.2 by grind)
    exact .inr ⟨cl_mono h (by grind),cl_mono h (by grind)⟩
  · have p1 := Rat.mul_nonneg t0 (show 0 ≤ b.2 - a.2 by grind)
    have p2:=Rat.mul_nonneg (show 0≤1 - t by grind) (show 0≤b.2 - a.2 by grind)
    exact .inl ⟨cl_mono h (by grind),cl_mono h (by grind)⟩
theorem sQ_map {α β:Type} (f:β×β→Rat) (g:α→β):∀A:List (α×α),sQ f (A.map fun e=>(g e.1,g e.2))=sQ (fun e=>f (g e.1,g e.2)) A
  |[]=>rfl
  |a :: A=>by rw [List.map_cons];simp only [sQ];rw [sQ_map f g A]
def tq (x:P2):Q2:=pq x.1 x.2
theorem pts_tq (l:List P2):pts l=l.map tq:=rfl
theorem cI {a b:Int} (h:a≤b):(a:Rat)≤(b:Rat):=Rat.intCast_le_intCast.2 h
theorem up_pts {y0 y1:Rat} (hy:y0≤y1) {s:Int} (hs:s=1∨s= -1) {p:List P2} (h:SC p) (h64:p.length≤64) (hc:Cv s p):up (fun x=>cl y0 y1 x.2) (pts p)≤y1 - y0:=by
  obtain ⟨P,Q,a,X,b,Y,rfl,e,h1,h2⟩:=unim hs h h64 hc
  rw [pts_tq,List.map_append,up_rot,←List.map_append,e]
  unfold up
  rw [cyc_map,cyc_split,sQ_map,sQ_app]
  have e1:sQ (fun e:P2×P2=>pos (cl y0 y1 (tq e.2).2 - cl y0 y1 (tq e.1).2)) (path (a :: X++[b]))=cl y0 y1 (tq b).2 - cl y0 y1 (tq a).2:=by
    rw [← sQ_tel (fun x:P2=>cl y0 y1 (tq x).2) a X b]
    refine sQ_congr fun e he=> ?_
    have:=cl_mono hy (show (tq e.1).2≤(tq e.2).2 from cI (h1 e he))
    have c:=pos_c (cl y0 y1 (tq e.2).2 - cl y0 y1 (tq e.1).2)
    grind
  have e2:sQ (fun e:P2×P2=>pos (cl y0 y1 (tq e.2).2 - cl y0 y1 (tq e.1).2)) (path (b :: Y++[a]))≤0:=by
    have z:sQ (fun _:P2×P2=>(0:Rat)) (path (b :: Y++[a]))=0:=by
      have:=sQ_tel (fun _:P2=>(0:Rat)) b Y a
      have e3:sQ (fun _:P2×P2=>(0:Rat)) (path (b :: Y++[a]))=sQ (fun _:P2×P2=>(0:Rat) - 0) (path (b :: Y++[a])):=sQ_congr fun e _=>by grind
      rw [e3,this];grind
    rw [← z]
    refine sQ_le fun e he=> ?_
    have:=cl_mono hy (show (tq e.2).2≤(tq e.1).2 from cI (h2 e he))
    have c:=pos_c (cl y0 y1 (tq e.2).2 - cl y0 y1 (tq e.1).2)
    grind
  have r1:=cl_rng hy (tq b).2
  have r2:=cl_rng hy (tq a).2
  have e0:sQ (fun e:P2×P2=>pos (cl y0 y1 (tq e.2).2 - cl y0 y1 (tq e.1).2)) (path (a :: X++[b]))+sQ (fun e:P2×P2=>pos (cl y0 y1 (tq e.2).2 - cl y0 y1 (tq e.1).2)) (path (b :: Y++[a]))≤y1 - y0:=by
    rw [e1];grind
  exact e0
theorem crq_tq (a b c:P2):crq (tq a) (tq b) (tq c)=((crs a b c:Int):Rat):=by
  unfold crq crs tq pq
  simp only [Rat.intCast_sub,Rat.intCast_mul]
theorem cv_q {s:Int} {l:List P2} (h:Cv s l):CvQ (s:Rat) (pts l):=fun a b c hs=>by
  obtain ⟨r,hr,e⟩:=List.sublist_map_iff.1 (show [a,b,c].Sublist (l.map tq) from hs)
  match r,e with
  |[x,y,z],e=>
    have e':a :: b :: c :: []=tq x :: tq y :: tq z :: []:=e
    injection e' with e1 e2
    injection e2 with e2 e3
    injection e3 with e3 _
    subst e1;subst e2;subst e3
    rw [crq_tq,←Rat.intCast_mul]
    exact cI (h x y z hr)
theorem zc_pts (l:List P2):zc (pts l)=((db l:Int):Rat):=by
  unfold zc
  rw [pts_tq,cyc_map,sQ_map,←sm_db]
  generalize cyc l=L
  induction L with
  |nil=>rfl
  |cons e L ih=>
    simp only [sQ,sm]
    rw [ih,Rat.intCast_add]
    congr 1
    unfold prq fA cx tq pq
    simp only [Rat.intCast_sub,Rat.intCast_mul]
theorem sz_zc (l:List Q2):sz l=zc l:=by
  unfold sz zc
  rw [cyc_getD ((0:Rat),(0:Rat)) rfl]
  have:∀i,szN l.length l i=sQ (fun e:Q2×Q2=>prq e.1 e.2) ((List.range i).map (fun i=>(l.getD i ((0:Rat),(0:Rat)),l.getD ((i+1)%l.length) ((0:Rat),(0:Rat))))):=fun i=>by
    induction i with
    |zero=>rfl
    |succ i ih=>
      rw [List.range_succ,List.map_append,sQ_app,←ih]
      show szN l.length l i+szT l.length l i=szN l.length l i+(_+0)
      rw [Rat.add_zero];rfl
  exact this l.length
theorem cvR_c {l:List P2} {n:Nat} (hn:l.length=n) (hd:db l≠0) (hc:cvR l) (hS:SC l):∀x y z,(x,y)∈cyc l→(y,z)∈cyc l→0≤yx l*crs x y z:=fun x y z k1 k2=>by
  obtain ⟨i,hi,e1⟩:=(mem_cyc hn).1 k1
  obtain ⟨j,hj,e2⟩:=(mem_cyc hn).1 k2
  have ex:x=gt l i:=congrArg Prod.fst e1
  have ey:y=gt l ((i+1)%n):=congrArg Prod.snd e1
  have ez:z=gt l ((i+2)%n):=by
    have k3:(gt l ((i+1)%n),gt l (((i+1)%n+1)%n))∈cyc l:=(mem_cyc hn).2 ⟨(i+1)%n,Nat.mod_lt _ (by omega),rfl⟩
    rw [← ey] at k3
    have:=cyc_succ hS.nd k2 k3
    rw [this]
    congr 1
    rw [Nat.mod_add_mod]
  subst ex;subst ey;subst ez
  have:=hc i (by omega)
  unfold cvI tr3 at this
  rw [hn] at this
  have c1:=Sw.sgn_c (crs (gt l i) (gt l ((i+1)%n)) (gt l ((i+2)%n)))
  have c2:=Sw.sgn_c (db l)
  unfold yx
  split <;> omega
theorem win_small {l:List P2} {n:Nat} {a b:P2} (hk:ck l=0) (hn:l.length=n) (hc:cvR l) (h1:a.1<b.1) (h2:a.2<b.2):qabs (sz (win l a b))≤qabs ((db l:Int):Rat)∧qabs (sz (win l a b))≤((2*(b.1 - a.1):Int):Rat)*((b.2 - a.2:Int):Rat):=by
  have hSm:=Sm.of hk
  have hok:=Pg.ok hk
  have hS:=SC.of hSm
  have h64:l.length≤64:=hSm.n64
  have hd:=db_ne hSm hok.rng
  have hs:=sg_rng l
  have hcv:=cv_of _ l rfl h64 hS (cvR_c hn hd hc hS)
  have hQ:=cv_q hcv
  have hy:((a.2:Int):Rat)≤((b.2:Int):Rat):=cI (Int.le_of_lt h2)
  have hg:=btw_cl hy
  obtain ⟨a1,a2,a3⟩:=clip_1 hg (pq a.1 1) (pq a.1 0) hQ
  obtain ⟨b1,b2,b3⟩:=clip_1 hg (pq b.1 0) (pq b.1 1) a1
  obtain ⟨c1,c2,c3⟩:=clip_1 hg (pq 0 a.2) (pq 1 a.2) b1
  obtain ⟨d1,d2,d3⟩:=clip_1 hg (pq 1 b.2) (pq 0 b.2) c1
  have hup:=up_pts hy hs hS h64 hcv
  have hz:=zc_pts l
  -- the sides
  have f1:Aff (fun x=>x.1 - (a.1:Rat)):=fun u v t=>by dsimp only;grind
  have f2:Aff (fun x=>(b.1:Rat) - x.1):=fun u v t=>by dsimp only;grind
  have f3:Aff (fun x=>x.2 - (a.2:Rat)):=fun u v t=>by dsimp only;grind
  have s1:=clip_side (pq a.1 1) (pq a.1 0) (pts l)
  have s2:=clip_side (pq b.1 0) (pq b.1 1) (clL (pq a.1 1) (pq a.1 0) (pts l))
  have s3:=clip_side (pq 0 a.2) (pq 1 a.2) (clL (pq b.1 0) (pq b.1 1) (clL (pq a.1 1) (pq a.1 0) (pts l)))
  have s4:=clip_side (pq 1 b.2) (pq 0 b.2) (clL (pq 0 a.2) (pq 1 a.2) (clL (pq b.1 0) (pq b.1 1) (clL (pq a.1 1) (pq a.1 0) (pts l))))
  have r0:((0:Int):Rat)=0:=rfl
  have r1:((1:Int):Rat)=1:=rfl
  have i1:∀x,sdq (pq a.1 1) (pq a.1 0) x=x.1 - (a.1:Rat):=fun x=>by unfold sdq prq awq pq;dsimp only;rw [r0,r1];grind
  have i2:∀x,sdq (pq b.1 0) (pq b.1 1) x=(b.1:Rat) - x.1:=fun x=>by unfold sdq prq awq pq;dsimp only;rw [r0,r1];grind
  have i3:∀x,sdq (pq 0 a.2) (pq 1 a.2) x=x.2 - (a.2:Rat):=fun x=>by unfold sdq prq awq pq;dsimp only;rw [r0,r1];grind
  have i4:∀x,sdq (pq 1 b.2) (pq 0 b.2) x=(b.2:Rat) - x.2:=fun x=>by unfold sdq prq awq pq;dsimp only;rw [r0,r1];grind
  simp only [i1] at s1
  simp only [i2] at s2
  simp only [i3] at s3
  simp only [i4] at s4
  have s1':=clip_aff f1 (pq 1 b.2) (pq 0 b.2) (clip_aff f1 (pq 0 a.2) (pq 1 a.2) (clip_aff f1 (pq b.1 0) (pq b.1 1) s1))
  have s2':=clip_aff f2 (pq 1 b.2) (pq 0 b.2) (clip_aff f2 (pq 0 a.2) (pq 1 a.2) s2)
  have s3':=clip_aff f3 (pq 1 b.2) (pq 0 b.2) s3
  have hw:clL (pq 1 b.2) (pq 0 b.2) (clL (pq 0 a.2) (pq 1 a.2) (clL (pq b.1 0) (pq b.1 1) (clL (pq a.1 1) (pq a.1 0) (pts l))))=win l a b:=rfl
  rw [hw] at d1 d2 d3 s4 s1' s2' s3'
  have hbox:=box_le (x0:=(a.1:Rat)) (x1:=(b.1:Rat)) (l:=win l a b) fun x hx=>by
    have:=s1' x hx
    have:=s2' x hx
    constructor <;> grind
  have hid:up (fun x=>cl (a.2:Rat) (b.2:Rat) x.2) (win l a b)=up (fun x=>x.2) (win l a b):=by
    unfold up
    refine sQ_congr fun e he=> ?_
    obtain ⟨m1,m2⟩:=cyc_mem (x:=e.1) (y:=e.2) he
    have p1:=s3' _ m1
    have p2:=s4 _ m1
    have p3:=s3' _ m2
    have p4:=s4 _ m2
    have q1:=cl_c hy e.1.2
    have q2:=cl_c hy e.2.2
    have w1:cl (a.2:Rat) (b.2:Rat) e.1.2=e.1.2:=by grind
    have w2:cl (a.2:Rat) (b.2:Rat) e.2.2=e.2.2:=by grind
    dsimp only
    rw [w1,w2]
  have hup2:up (fun x=>x.2) (win l a b)≤(b.2:Rat) - (a.2:Rat):=by
    rw [← hid]
    exact Rat.le_trans d3 (Rat.le_trans c3 (Rat.le_trans b3 (Rat.le_trans a3 hup)))
  have hz0:=zc_sub (s:=((yx l:Int):Rat)) (l:=win l a b) (l':=[]) (List.nil_sublist _) [] (by simpa using d1)
  have e0:zc ([]:List Q2)=0:=rfl
  simp only [List.nil_append] at hz0
  rw [e0] at hz0
  have hle:((yx l:Int):Rat)*zc (win l a b)≤((yx l:Int):Rat)*((db l:Int):Rat):=by
    rw [← hz]
    exact Rat.le_trans d2 (Rat.le_trans c2 (Rat.le_trans b2 a2))
  rw [sz_zc]
  have hW:=cI (show a.1≤b.1 by omega)
  have hmul:=Rat.mul_nonneg (show (0:Rat)≤2*((b.1:Rat) - (a.1:Rat)) by grind) (show 0≤(b.2:Rat) - (a.2:Rat) - up (fun x=>x.2) (win l a b) by grind)
  have ecast:((2*(b.1 - a.1):Int):Rat)*((b.2 - a.2:Int):Rat)=2*((b.1:Rat) - (a.1:Rat))*((b.2:Rat) - (a.2:Rat)):=by
    simp only [Rat.intCast_sub,Rat.intCast_mul]
    rfl
  rw [ecast]
  have m1:((1:Int):Rat)=1:=rfl
  have mn:((-1:Int):Rat)= -1:=rfl
  have qa:∀x:Rat,x<0∧qabs x= -x∨0≤x∧qabs x=x:=fun x=>by
    unfold qabs
    by_cases h:x<0
    · exact .inl ⟨h,if_pos h⟩
    · exact .inr ⟨by grind,if_neg h⟩
  have k1:=qa (zc (win l a b))
  have k2:=qa ((db l:Int):Rat)
  refine ⟨?_,?_⟩
  · rcases hs with e | e <;> rw [e] at hz0 hle
    · rw [m1] at hz0 hle;grind
    · rw [mn] at hz0 hle;grind
  · grind
theorem clA_scale {a b a' b':Q2} {c:Rat} (hc:0<c) (h:∀x,sdq a' b' x=c*sdq a b x) (q r:Q2):clA a' b' q r=clA a b q r:=by
  have sg:∀z:Rat,sgq (c*z)=sgq z:=fun z=>by
    have n1:0<z→0<c*z:=fun k=>Rat.mul_pos hc k
    have n2:z<0→c*z<0:=fun k=>by have:=Rat.mul_pos hc (show 0< -z by grind);grind
    have r1:=sgq_rng z
    have r2:=sgq_rng (c*z)
    have p1:=sgq_pos (x:=z)
    have p2:=sgq_pos (x:=c*z)
    have q1:=sgq_lt (x:=z)
    have q2:=sgq_lt (x:=c*z)
    have z1:=sgq_zero (x:=z)
    have z2:=sgq_zero (x:=c*z)
    rcases lt_or_le 0 z with k|k
    · have := n1 k
      have:=p1.2 k
      have:=p2.2 (n1 k)
      omega
    · by_cases k2 : z = 0
      · subst k2
        rw [Rat.mul_zero]
      · have k3 : z < 0 := by grind
        have:=q1.2 k3
        have:=q2.2 (n2 k3)
        omega
  unfold clA
  rw [h,h,sg,sg]
  have e:∀s t:Rat,s - t≠0→ptq (c*s) (c*t) q r=ptq s t q r:=fun s t hne=>by
    have:c*s / (c*s - c*t)=s / (s - t):=by
      have h0:c*s - c*t≠0:=fun k=>by
        have:c*(s - t)=0:=by grind
        rcases Rat.mul_eq_zero.1 this with k|k
        · grind
        · exact hne k
      have k1:c*s / (c*s - c*t)*(c*s - c*t)=c*s:=Rat.div_mul_cancel h0
      have k2:s / (s - t)*(s - t)=s:=Rat.div_mul_cancel hne
      generalize c*s / (c*s - c*t)=x at*
      generalize s / (s - t)=y at*
      have k3:(x - y)*(c*s - c*t)=0:=by grind
      rcases Rat.mul_eq_zero.1 k3 with k|k
      · grind
      · exact absurd k h0
    unfold ptq
    rw [this]
  congr 1
  by_cases k:sgq (sdq a b q)*sgq (sdq a b r)<0
  · rw [if_pos k,if_pos k,e _ _ (opp k)]
  · rw [if_neg k,if_neg k]
theorem clN_scale {a b a' b':Q2} {c:Rat} (hc:0<c) (h:∀x,sdq a' b' x=c*sdq a b x) (n:Nat) (l:List Q2):∀i,clN n a' b' l i=clN n a b l i
  |0=>rfl
  |i+1=>by unfold clN;rw [clN_scale hc h n l i,clA_scale hc h]
theorem clL_scale {a b a' b':Q2} {c:Rat} (hc:0<c) (h:∀x,sdq a' b' x=c*sdq a b x) (l:List Q2):clL a' b' l=clL a b l:=clN_scale hc h _ _ _
def winR (l:List P2) (a b:P2):List Q2:=clL (pq b.1 b.2) (pq a.1 b.2) (clL (pq a.1 a.2) (pq b.1 a.2) (clL (pq b.1 a.2) (pq b.1 b.2) (clL (pq a.1 b.2) (pq a.1 a.2) (pts l))))
theorem winR_eq {l:List P2} {a b:P2} (h1:a.1<b.1) (h2:a.2<b.2):winR l a b=win l a b:=by
  have c1:(0:Rat)<((b.1:Int):Rat) - (a.1:Rat):=by have:((a.1:Int):Rat)<(b.1:Rat):=Rat.intCast_lt_intCast.2 h1;grind
  have c2:(0:Rat)<((b.2:Int):Rat) - (a.2:Rat):=by have:((a.2:Int):Rat)<(b.2:Rat):=Rat.intCast_lt_intCast.2 h2;grind
  have r0:((0:Int):Rat)=0:=rfl
  have r1:((1:Int):Rat)=1:=rfl
  unfold winR win
  rw [clL_scale c2 (a:=pq a.1 1) (b:=pq a.1 0) (a':=pq a.1 b.2) (b':=pq a.1 a.2) (fun x=>by unfold sdq prq awq pq;dsimp only;rw [r0,r1];grind)]
  rw [clL_scale c2 (a:=pq b.1 0) (b:=pq b.1 1) (a':=pq b.1 a.2) (b':=pq b.1 b.2) (fun x=>by unfold sdq prq awq pq;dsimp only;rw [r0,r1];grind)]
  rw [clL_scale c1 (a:=pq 0 a.2) (b:=pq 1 a.2) (a':=pq a.1 a.2) (b':=pq b.1 a.2) (fun x=>by unfold sdq prq awq pq;dsimp only;rw [r0,r1];grind)]
  rw [clL_scale c1 (a:=pq 1 b.2) (b:=pq 0 b.2) (a':=pq b.1 b.2) (b':=pq a.1 b.2) (fun x=>by unfold sdq prq awq pq;dsimp only;rw [r0,r1];grind)]
end Go.Proofs.YtjcpbhlijoigfaaGreat.Er
namespace Go.Proofs.YtjcpbhlijoigfaaGreat.Er
open Pg Sw
set_option linter.unusedVariables false
open Go.Proofs.YtjcpbhlijoigfaaGreat.Big
theorem szN_b {l:List Q2} {n K:Nat} (hn:l.length=n) (h:bq K l):∀{i:Nat},i≤n→hq (szN n l i)≤(4*K+2)*i+2
  | 0, _ => by show hq 0 ≤ _; have : hq 0 ≤ 2 := by decide
               omega
  |i+1,hi=>by
    have h1:=szN_b hn h (i:=i) (by omega)
    have h2:=(pb (bq_at h (i:=i) (by omega)) (bq_at h (i:=(i+1)%n) (by rw [hn];exact Nat.mod_lt _ (by omega)))).p
    have h3:=hq_add (szN n l i) (szT n l i)
    have e:szN n l (i+1)=szN n l i+szT n l i:=rfl
    have h4:hq (szT n l i)≤2*(K+K)+1:=h2
    have e2:(4*K+2)*(i+1)=(4*K+2)*i+(4*K+2):=by rw [Nat.mul_add,Nat.mul_one]
    rw [e,e2];omega
theorem win_bq {l:List P2} {a b:P2} (hr:∀x∈l,inR x) (ha:inR a) (hb:inR b):bq 78723 (win l a b):=by
  unfold inR at ha hb
  have h0:=pts_bq hr
  have h1:=clL_bq (a:=pq a.1 1) (b:=pq a.1 0) (hp_pq (by omega) (by omega)) (hp_pq (by omega) (by omega)) h0
  have h2:=clL_bq (a:=pq b.1 0) (b:=pq b.1 1) (hp_pq (by omega) (by omega)) (hp_pq (by omega) (by omega)) h1
  have h3:=clL_bq (a:=pq 0 a.2) (b:=pq 1 a.2) (hp_pq (by omega) (by omega)) (hp_pq (by omega) (by omega)) h2
  exact clL_bq (a:=pq 1 b.2) (b:=pq 0 b.2) (hp_pq (by omega) (by omega)) (hp_pq (by omega) (by omega)) h3
theorem win_len {l:List P2} {a b:P2} {n:Nat} (hn:l.length=n):(win l a b).length≤16*n:=by
  have h0:(pts l).length=n:=by unfold pts;rw [List.length_map];exact hn
  have h1:=clL_len (a:=pq a.1 1) (b:=pq a.1 0) (l:=pts l)
  have h2:=clL_len (a:=pq b.1 0) (b:=pq b.1 1) (l:=clL (pq a.1 1) (pq a.1 0) (pts l))
  have h3:=clL_len (a:=pq 0 a.2) (b:=pq 1 a.2) (l:=clL (pq b.1 0) (pq b.1 1) (clL (pq a.1 1) (pq a.1 0) (pts l)))
  have h4:=clL_len (a:=pq 1 b.2) (b:=pq 0 b.2) (l:=clL (pq 0 a.2) (pq 1 a.2) (clL (pq b.1 0) (pq b.1 1) (clL (pq a.1 1) (pq a.1 0) (pts l))))
  unfold win;omega
theorem bq_mono {K K':Nat} {l:List Q2} (h:bq K l) (k:K≤K'):bq K' l:=fun x hx=>hp_mono (h x hx) k
structure Wb (l:List P2) (a b:P2):Prop where
  len:(win l a b).length≤192
  q:bq 78723 (win l a b)
  q5:bq 500000 (win l a b)
  z:∀i,i≤(win l a b).length→hq (szN (win l a b).length (win l a b) i)≤100000000
  s:hq (sz (win l a b))≤100000000
theorem wb {l:List P2} {a b:P2} {n:Nat} (hn:l.length=n) (h12:n≤12) (hr:∀x∈l,inR x) (ha:inR a) (hb:inR b):Wb l a b:=by
  have h1:=win_len (a:=a) (b:=b) hn
  have h2:=win_bq hr ha hb
  have hz:∀i,i≤(win l a b).length→hq (szN (win l a b).length (win l a b) i)≤100000000:=fun i hi=>by
    have h3:=szN_b rfl h2 (i:=i) hi
    omega
  exact ⟨by omega,h2,bq_mono h2 (by decide),hz,hz _ (Nat.le_refl _)⟩
theorem qabs_hq (q:Rat):hq (qabs q)=hq q:=by
  unfold qabs
  split
  · exact hq_neg q
  · rfl
theorem sgq_le_sub {x y:Rat} (h:x≤y):sgq (x - y)≤0:=sgq_le.2 (by grind)
end Go.Proofs.YtjcpbhlijoigfaaGreat.Er
namespace Go.Proofs.YtjcpbhlijoigfaaGreat.Sp
open Go
set_option linter.unusedVariables false
set_option maxRecDepth 100000
set_option maxHeartbeats 8000000
theorem zlc {ex:Int} {ey:Int} (hwex: -9223372036854775808≤ex∧ex≤9223372036854775807) (hwey: -9223372036854775808≤ey∧ey≤9223372036854775807):Con yh 46 [.agg #[ya yb ex,ya yb ey]] [] [] (Y:=Unit) (fun y=>True) (fun y=> .bool (Pg.far (ex,ey))) (fun y=>[]) (fun y=>[]):=by
 refine zo Tryz.func46 rfl rfl rfl (fun c=> ?_)
 show RunC _ _ _ _ _ [(0,.agg #[ya yb ex,ya yb ey])] [] []
 refine zh<|za<|zP rfl rfl (zS rfl rfl) (fun b1=> ?_)
 refine e_p (zd rfl)<|zi<|ze<|zGa (X:=Unit) (fun x=>True) (fun x=>[(2,.bool (decide ((((ex<(-0x100000))∨(0x100000<ex))∨(ey<(-0x100000)))∨(0x100000<ey))))]) (fun x=>[boxA b1 30 [ya yb ex,ya yb ey]]) (fun x=>[]) ?_ ?_
 ·
  refine za<|e_p (zf yf rfl sz3 rfl rfl)<|e_ru (zg 0 ty3 rfl rfl rfl)<|e_p (zda rfl rfl)<|zZ rfl rfl (zaa rfl) (fun h2=> ?_) (fun h2=> ?_)
  ·
   refine e_no<|e_no<|e_no<|e_p (zp rfl rfl)<|e_mv rfl<|e_no<|e_no<|e_no<|e_p (zp rfl rfl)<|e_mv rfl<|e_no<|e_no<|e_no<|e_p (zp rfl rfl)<|e_p (zd rfl)<|zi ?_
   exact zha () tt9 ((.e rfl (congrArg Value.bool cbu) .n):SubM _ _) (ho:=(o0 rfl)) sN
  ·
   refine e_p (zf yf rfl sz3 rfl rfl)<|e_ru (zg 0 ty3 rfl rfl rfl)<|e_p (zDa rfl rfl)<|e_p (zp rfl rfl)<|zZ rfl rfl (zaa rfl) (fun h3=> ?_) (fun h3=> ?_)
   ·
    refine e_no<|e_no<|e_no<|e_p (zp rfl rfl)<|e_mv rfl<|e_no<|e_no<|e_no<|e_p (zp rfl rfl)<|e_p (zd rfl)<|zi ?_
    exact zha () tt9 ((.e rfl (congrArg Value.bool cbu) .n):SubM _ _) (ho:=(o0 rfl)) sN
   ·
    refine e_p (zf yf rfl sz3 rfl rfl)<|e_ru (zg 0 ty3 rfl rfl rfl)<|e_p (zda rfl rfl)<|e_p (zp rfl rfl)<|zZ rfl rfl (zaa rfl) (fun h4=> ?_) (fun h4=> ?_)
    ·
     refine e_no<|e_no<|e_no<|e_p (zp rfl rfl)<|e_p (zd rfl)<|zi ?_
     exact zha () tt9 ((.e rfl (congrArg Value.bool cbu) .n):SubM _ _) (ho:=(o0 rfl)) sN
    ·
     refine e_p (zf yf rfl sz3 rfl rfl)<|e_ru (zg 0 ty3 rfl rfl rfl)<|e_p (zDa rfl rfl)<|e_p (zp rfl rfl)<|e_p (zd rfl)<|zi ?_
     exact zha () tt9 ((.e rfl (congrArg Value.bool cbu) .n):SubM _ _) (ho:=(o0 rfl)) sN
 ·
  rintro ⟨⟩ -
  try dsimp only
  refine zL ?_
  exact zx Tryz.results46 () trivial (zl rfl) (congrArg Value.bool (by first|rfl|(simp [Pg.far,yw];omega)|(rw [Bool.eq_iff_iff,decide_eq_true_iff];simp [Pg.far,yw];omega))) (ho:=oN) sN
theorem zGe {ex:Int} {ey:Int} (hwex: -9223372036854775808≤ex∧ex≤9223372036854775807) (hwey: -9223372036854775808≤ey∧ey≤9223372036854775807):Con yh 48 [.agg #[ya yb ex,ya yb ey]] [] [] (Y:=Unit) (fun y=>True) (fun y=> .bool (decide (yw (ex,ey)))) (fun y=>[]) (fun y=>[]):=by
 refine zo Tryz.func48 rfl rfl rfl (fun c=> ?_)
 show RunC _ _ _ _ _ [(0,.agg #[ya yb ex,ya yb ey])] [] []
 refine zh<|za<|zP rfl rfl (zS rfl rfl) (fun b1=> ?_)
 refine e_p (zd rfl)<|zi<|ze<|zGa (X:=Unit) (fun x=>True) (fun x=>[(2,.bool (decide (((((-0x100000)≤ex)∧(ex≤0x100000))∧((-0x100000)≤ey))∧(ey≤0x100000))))]) (fun x=>[boxA b1 30 [ya yb ex,ya yb ey]]) (fun x=>[]) ?_ ?_
 ·
  refine za<|e_p (zf yf rfl sz3 rfl rfl)<|e_ru (zg 0 ty3 rfl rfl rfl)<|e_p (zNa rfl rfl)<|zZ rfl rfl (zaa rfl) (fun h2=> ?_) (fun h2=> ?_)
  ·
   refine e_p (zf yf rfl sz3 rfl rfl)<|e_ru (zg 0 ty3 rfl rfl rfl)<|e_p (zWa rfl rfl)<|e_p (zp rfl rfl)<|zZ rfl rfl (zaa rfl) (fun h3=> ?_) (fun h3=> ?_)
   ·
    refine e_p (zf yf rfl sz3 rfl rfl)<|e_ru (zg 0 ty3 rfl rfl rfl)<|e_p (zNa rfl rfl)<|e_p (zp rfl rfl)<|zZ rfl rfl (zaa rfl) (fun h4=> ?_) (fun h4=> ?_)
    ·
     refine e_p (zf yf rfl sz3 rfl rfl)<|e_ru (zg 0 ty3 rfl rfl rfl)<|e_p (zWa rfl rfl)<|e_p (zp rfl rfl)<|e_p (zd rfl)<|zi ?_
     exact zha () tt9 ((.e rfl (congrArg Value.bool cbu) .n):SubM _ _) (ho:=(o0 rfl)) sN
    ·
     refine e_no<|e_no<|e_no<|e_p (zp rfl rfl)<|e_p (zd rfl)<|zi ?_
     exact zha () tt9 ((.e rfl (congrArg Value.bool cbu) .n):SubM _ _) (ho:=(o0 rfl)) sN
   ·
    refine e_no<|e_no<|e_no<|e_p (zp rfl rfl)<|e_mv rfl<|e_no<|e_no<|e_no<|e_p (zp rfl rfl)<|e_p (zd rfl)<|zi ?_
    exact zha () tt9 ((.e rfl (congrArg Value.bool cbu) .n):SubM _ _) (ho:=(o0 rfl)) sN
  ·
   refine e_no<|e_no<|e_no<|e_p (zp rfl rfl)<|e_mv rfl<|e_no<|e_no<|e_no<|e_p (zp rfl rfl)<|e_mv rfl<|e_no<|e_no<|e_no<|e_p (zp rfl rfl)<|e_p (zd rfl)<|zi ?_
   exact zha () tt9 ((.e rfl (congrArg Value.bool cbu) .n):SubM _ _) (ho:=(o0 rfl)) sN
 ·
  rintro ⟨⟩ -
  try dsimp only
  refine zL ?_
  exact zx Tryz.results48 () trivial (zl rfl) (congrArg Value.bool (by first|rfl|(rw [Bool.eq_iff_iff,decide_eq_true_iff,decide_eq_true_iff];unfold yw;dsimp only;omega)|(simp [yw,and_assoc];done))) (ho:=oN) sN
theorem zib {ex:Int} {ey:Int} {fx:Int} {fy:Int} {gx:Int} {gy:Int} (hre:yw (ex,ey)) (hrf:yw (fx,fy)) (hrg:yw (gx,gy)):Con yh 54 [.agg #[ya yb ex,ya yb ey],.agg #[ya yb fx,ya yb fy],.agg #[ya yb gx,ya yb gy]] [] [] (Y:=Unit) (fun y=>True) (fun y=> ya yb ((yo (ex,ey) (fx,fy) (gx,gy)).sign)) (fun y=>[]) (fun y=>[]):=by
 refine zo Tryz.func54 rfl rfl rfl (fun c=> ?_)
 show RunC _ _ _ _ _ [(0,.agg #[ya yb ex,ya yb ey]),(1,.agg #[ya yb fx,ya yb fy]),(2,.agg #[ya yb gx,ya yb gy])] [] []
 have hue:(-0x100000≤ex∧ex≤0x100000)∧(-0x100000≤ey∧ey≤0x100000):=hre
 have huf:(-0x100000≤fx∧fx≤0x100000)∧(-0x100000≤fy∧fy≤0x100000):=hrf
 have hug:(-0x100000≤gx∧gx≤0x100000)∧(-0x100000≤gy∧gy≤0x100000):=hrg
 obtain ⟨hk1,hk2,hk3⟩:=Pg.cb hre hrf hrg
 dsimp only [yo] at hk1 hk2 hk3
 refine zh<|za<|zP rfl rfl (zS rfl rfl) (fun b1=> ?_)
 refine zP rfl rfl (zS rfl rfl) (fun b2=> ?_)
 refine zP rfl rfl (zS rfl rfl) (fun b3=> ?_)
 refine e_p (zd rfl)<|zi<|ze<|zh<|za<|e_p (zf yf rfl sz3 rfl rfl)<|e_ru (zg 1 ty3 rfl rfl rfl)<|e_p (zf yf rfl sz3 rfl rfl)<|e_ru (zg 2 ty3 rfl rfl rfl)<|e_p (zna (z:=(fx - ex)) rfl rfl (w64 om))<|e_p (zf yf rfl sz3 rfl rfl)<|e_ru (zg 0 ty3 rfl rfl rfl)<|e_p (zf yf rfl sz3 rfl rfl)<|e_ru (zg 2 ty3 rfl rfl rfl)<|e_p (zna (z:=(gy - ey)) rfl rfl (w64 om))<|e_p (zEa (z:=((fx - ex)*(gy - ey))) rfl rfl (w64 om))<|e_p (zf yf rfl sz3 rfl rfl)<|e_ru (zg 1 ty3 rfl rfl rfl)<|e_p (zf yf rfl sz3 rfl rfl)<|e_ru (zg 2 ty3 rfl rfl rfl)<|e_p (zna (z:=(fy - ey)) rfl rfl (w64 om))<|e_p (zf yf rfl sz3 rfl rfl)<|e_ru (zg 0 ty3 rfl rfl rfl)<|e_p (zf yf rfl sz3 rfl rfl)<|e_ru (zg 2 ty3 rfl rfl rfl)<|e_p (zna (z:=(gx - ex)) rfl rfl (w64 om))<|e_p (zEa (z:=((fy - ey)*(gx - ex))) rfl rfl (w64 om))<|e_p (zna (z:=(((fx - ex)*(gy - ey)) - ((fy - ey)*(gx - ex)))) rfl rfl (w64 om))<|e_p (zd rfl)<|zi<|ze<|zh<|zE<|zh<|za<|e_mv rfl<|e_p (zDa rfl rfl)<|e_p (zd rfl)<|zi<|ze<|zJ rfl (fun hpos=> ?_) (fun hpos=> ?_)
 ·
  refine zh<|za<|e_p (zd rfl)<|zi<|ze<|zL<|zy<|zj ?_
  exact zx Tryz.results54 () trivial (zl rfl) (congrArg (Value.int .i64) (Int.sign_eq_one_of_pos (a:=yo (ex,ey) (fx,fy) (gx,gy)) (by dsimp only [yo];omega))) (ho:=oN) sN
 ·
  refine zh<|za<|e_mv rfl<|e_p (zda rfl rfl)<|e_p (zd rfl)<|zi<|ze<|zJ rfl (fun hneg=> ?_) (fun hneg=> ?_)
  ·
   refine zh<|za<|e_p (zd rfl)<|zi<|ze<|zL<|zy<|zj ?_
   exact zx Tryz.results54 () trivial (zl rfl) (congrArg (Value.int .i64) (Int.sign_eq_neg_one_of_neg (a:=yo (ex,ey) (fx,fy) (gx,gy)) (by dsimp only [yo];omega))) (ho:=oN) sN
  ·
   refine zC<|zT<|ze<|zh<|za<|e_p (zd rfl)<|zi<|ze<|zL ?_
   exact zx Tryz.results54 () trivial (zl rfl) (congrArg (Value.int .i64) (Int.sign_eq_zero_iff_zero.2 (show yo (ex,ey) (fx,fy) (gx,gy)=0 by dsimp only [yo];omega))) (ho:=oN) sN
theorem zAb {ex:Int} {ey:Int} {fx:Int} {fy:Int} {gx:Int} {gy:Int} (hre:yw (ex,ey)) (hrf:yw (fx,fy)) (hrg:yw (gx,gy)):Con yh 55 [.agg #[ya yb ex,ya yb ey],.agg #[ya yb fx,ya yb fy],.agg #[ya yb gx,ya yb gy]] [] [] (Y:=Unit) (fun y=>True) (fun y=> ya yb (yo (ex,ey) (fx,fy) (gx,gy))) (fun y=>[]) (fun y=>[]):=by
 refine zo Tryz.func55 rfl rfl rfl (fun c=> ?_)
 show RunC _ _ _ _ _ [(0,.agg #[ya yb ex,ya yb ey]),(1,.agg #[ya yb fx,ya yb fy]),(2,.agg #[ya yb gx,ya yb gy])] [] []
 have hue:(-0x100000≤ex∧ex≤0x100000)∧(-0x100000≤ey∧ey≤0x100000):=hre
 have huf:(-0x100000≤fx∧fx≤0x100000)∧(-0x100000≤fy∧fy≤0x100000):=hrf
 have hug:(-0x100000≤gx∧gx≤0x100000)∧(-0x100000≤gy∧gy≤0x100000):=hrg
 obtain ⟨hk1,hk2,hk3⟩:=Pg.cb hre hrf hrg
 dsimp only [yo] at hk1 hk2 hk3
 refine zh<|za<|zP rfl rfl (zS rfl rfl) (fun b1=> ?_)
 refine zP rfl rfl (zS rfl rfl) (fun b2=> ?_)
 refine zP rfl rfl (zS rfl rfl) (fun b3=> ?_)
 refine e_p (zd rfl)<|zi<|ze<|zh<|za<|e_p (zf yf rfl sz3 rfl rfl)<|e_ru (zg 1 ty3 rfl rfl rfl)<|e_p (zf yf rfl sz3 rfl rfl)<|e_ru (zg 2 ty3 rfl rfl rfl)<|e_p (zna (z:=(fx - ex)) rfl rfl (w64 om))<|e_p (zf yf rfl sz3 rfl rfl)<|e_ru (zg 0 ty3 rfl rfl rfl)<|e_p (zf yf rfl sz3 rfl rfl)<|e_ru (zg 2 ty3 rfl rfl rfl)<|e_p (zna (z:=(gy - ey)) rfl rfl (w64 om))<|e_p (zEa (z:=((fx - ex)*(gy - ey))) rfl rfl (w64 om))<|e_p (zf yf rfl sz3 rfl rfl)<|e_ru (zg 1 ty3 rfl rfl rfl)<|e_p (zf yf rfl sz3 rfl rfl)<|e_ru (zg 2 ty3 rfl rfl rfl)<|e_p (zna (z:=(fy - ey)) rfl rfl (w64 om))<|e_p (zf yf rfl sz3 rfl rfl)<|e_ru (zg 0 ty3 rfl rfl rfl)<|e_p (zf yf rfl sz3 rfl rfl)<|e_ru (zg 2 ty3 rfl rfl rfl)<|e_p (zna (z:=(gx - ex)) rfl rfl (w64 om))<|e_p (zEa (z:=((fy - ey)*(gx - ex))) rfl rfl (w64 om))<|e_p (zna (z:=(((fx - ex)*(gy - ey)) - ((fy - ey)*(gx - ex)))) rfl rfl (w64 om))<|e_p (zd rfl)<|zi<|ze<|zL ?_
 exact zx Tryz.results55 () trivial (zl rfl) rfl (ho:=oN) sN
theorem zBb {z:Int} (hz: -9223372036854775808≤z∧z≤9223372036854775807):Con yh 65 [ya yb z] [] [] (Y:=Unit) (fun y=>True) (fun y=> ya yb (z.sign)) (fun y=>[]) (fun y=>[]):=by
 refine zo Tryz.func65 rfl rfl rfl (fun c=> ?_)
 show RunC _ _ _ _ _ [(0,ya yb z)] [] []
 refine zh<|za<|e_p (zd rfl)<|zi<|ze<|zh<|zh<|za<|e_mv rfl<|e_p (zda rfl rfl)<|zi<|ze<|zJ rfl (fun hneg=> ?_) (fun hneg=> ?_)
 ·
  refine zh<|za<|e_p (zd rfl)<|zi<|ze<|zL<|zj ?_
  exact zx Tryz.results65 () trivial (zl rfl) (congrArg (Value.int .i64) (Int.sign_eq_neg_one_of_neg hneg)) (ho:=oN) sN
 ·
  refine zC<|ze<|zh<|zh<|za<|e_mv rfl<|e_p (zDa rfl rfl)<|zi<|ze<|zJ rfl (fun hpos=> ?_) (fun hpos=> ?_)
  ·
   refine zh<|za<|e_p (zd rfl)<|zi<|ze<|zL<|zj ?_
   exact zx Tryz.results65 () trivial (zl rfl) (congrArg (Value.int .i64) (Int.sign_eq_one_of_pos hpos)) (ho:=oN) sN
  ·
   refine zC<|ze<|zh<|za<|e_p (zd rfl)<|zi<|ze<|zL ?_
   exact zx Tryz.results65 () trivial (zl rfl) (congrArg (Value.int .i64) (Int.sign_eq_zero_iff_zero.2 (show z=0 by omega))) (ho:=oN) sN
theorem zVf {ex:Int} {ey:Int} {fx:Int} {fy:Int} {gx:Int} {gy:Int}:Con yh 91 [.agg #[ya yb ex,ya yb ey],.agg #[ya yb fx,ya yb fy],.agg #[ya yb gx,ya yb gy]] [] [] (Y:=Unit) (fun y=>True) (fun y=> .bool (decide (Pg.betw (ex,ey) (fx,fy) (gx,gy)))) (fun y=>[]) (fun y=>[]):=by
 refine zo Tryz.func91 rfl rfl rfl (fun c=> ?_)
 show RunC _ _ _ _ _ [(0,.agg #[ya yb ex,ya yb ey]),(1,.agg #[ya yb fx,ya yb fy]),(2,.agg #[ya yb gx,ya yb gy])] [] []
 refine zh<|za<|zP rfl rfl (zS rfl rfl) (fun b1=> ?_)
 refine zP rfl rfl (zS rfl rfl) (fun b2=> ?_)
 refine zP rfl rfl (zS rfl rfl) (fun b3=> ?_)
 refine e_p (zd rfl)<|zi<|ze<|zGa (X:=Unit) (fun x=>True) (fun x=>[(6,.bool (decide (((((min ex fx)≤gx)∧(gx≤(max ex fx)))∧((min ey fy)≤gy))∧(gy≤(max ey fy)))))]) (fun x=>[boxA b3 30 [ya yb gx,ya yb gy],boxA b2 30 [ya yb fx,ya yb fy],boxA b1 30 [ya yb ex,ya yb ey]]) (fun x=>[]) ?_ ?_
 ·
  refine za<|e_p (zf yf rfl sz3 rfl rfl)<|e_ru (zg 2 ty3 rfl rfl rfl)<|e_p (zf yf rfl sz3 rfl rfl)<|e_ru (zg 1 ty3 rfl rfl rfl)<|e_p (zig rfl rfl)<|e_p (zf yf rfl sz3 rfl rfl)<|e_ru (zg 0 ty3 rfl rfl rfl)<|e_p (zWa rfl rfl)<|zZ rfl rfl (zaa rfl) (fun h4=> ?_) (fun h4=> ?_)
  ·
   refine e_p (zf yf rfl sz3 rfl rfl)<|e_ru (zg 0 ty3 rfl rfl rfl)<|e_p (zf yf rfl sz3 rfl rfl)<|e_ru (zg 2 ty3 rfl rfl rfl)<|e_p (zf yf rfl sz3 rfl rfl)<|e_ru (zg 1 ty3 rfl rfl rfl)<|e_p (zhf rfl rfl)<|e_p (zWa rfl rfl)<|e_p (zp rfl rfl)<|zZ rfl rfl (zaa rfl) (fun h5=> ?_) (fun h5=> ?_)
   ·
    refine e_p (zf yf rfl sz3 rfl rfl)<|e_ru (zg 2 ty3 rfl rfl rfl)<|e_p (zf yf rfl sz3 rfl rfl)<|e_ru (zg 1 ty3 rfl rfl rfl)<|e_p (zig rfl rfl)<|e_p (zf yf rfl sz3 rfl rfl)<|e_ru (zg 0 ty3 rfl rfl rfl)<|e_p (zWa rfl rfl)<|e_p (zp rfl rfl)<|zZ rfl rfl (zaa rfl) (fun h6=> ?_) (fun h6=> ?_)
    ·
     refine e_p (zf yf rfl sz3 rfl rfl)<|e_ru (zg 0 ty3 rfl rfl rfl)<|e_p (zf yf rfl sz3 rfl rfl)<|e_ru (zg 2 ty3 rfl rfl rfl)<|e_p (zf yf rfl sz3 rfl rfl)<|e_ru (zg 1 ty3 rfl rfl rfl)<|e_p (zhf rfl rfl)<|e_p (zWa rfl rfl)<|e_p (zp rfl rfl)<|e_p (zd rfl)<|zi ?_
     exact zha () tt9 ((.e rfl (congrArg Value.bool cbu) .n):SubM _ _) (ho:=((.of [0,0,0] rfl):PickO _ _ _)) sN
    ·
     refine e_no<|e_no<|e_no<|e_no<|e_no<|e_no<|e_no<|e_no<|e_p (zp rfl rfl)<|e_p (zd rfl)<|zi ?_
     exact zha () tt9 ((.e rfl (congrArg Value.bool cbu) .n):SubM _ _) (ho:=((.of [0,0,0] rfl):PickO _ _ _)) sN
   ·
    refine e_no<|e_no<|e_no<|e_no<|e_no<|e_no<|e_no<|e_no<|e_p (zp rfl rfl)<|e_mv rfl<|e_no<|e_no<|e_no<|e_no<|e_no<|e_no<|e_no<|e_no<|e_p (zp rfl rfl)<|e_p (zd rfl)<|zi ?_
    exact zha () tt9 ((.e rfl (congrArg Value.bool cbu) .n):SubM _ _) (ho:=((.of [0,0,0] rfl):PickO _ _ _)) sN
  ·
   refine e_no<|e_no<|e_no<|e_no<|e_no<|e_no<|e_no<|e_no<|e_p (zp rfl rfl)<|e_mv rfl<|e_no<|e_no<|e_no<|e_no<|e_no<|e_no<|e_no<|e_no<|e_p (zp rfl rfl)<|e_mv rfl<|e_no<|e_no<|e_no<|e_no<|e_no<|e_no<|e_no<|e_no<|e_p (zp rfl rfl)<|e_p (zd rfl)<|zi ?_
   exact zha () tt9 ((.e rfl (congrArg Value.bool cbu) .n):SubM _ _) (ho:=((.of [0,0,0] rfl):PickO _ _ _)) sN
 ·
  rintro ⟨⟩ -
  try dsimp only
  refine zL ?_
  exact zx Tryz.results91 () trivial (zl rfl) (congrArg Value.bool (by first|rfl|(rw [Bool.eq_iff_iff,decide_eq_true_iff];simp [Pg.betw,and_assoc,or_assoc];done)|(rw [Bool.eq_iff_iff,decide_eq_true_iff];simp_all [Pg.betw]))) (ho:=oN) sN
theorem zyf {ex:Int} {ey:Int} {fx:Int}:Con yh 81 [ya yb ex,ya yb ey,ya yb fx] [] [] (Y:=Unit) (fun y=>True) (fun y=> .bool (decide (Pg.wi ex ey fx))) (fun y=>[]) (fun y=>[]):=by
 refine zo Tryz.func81 rfl rfl rfl (fun c=> ?_)
 show RunC _ _ _ _ _ [(0,ya yb ex),(1,ya yb ey),(2,ya yb fx)] [] []
 refine zh<|za<|e_p (zd rfl)<|zi<|ze<|zGa (X:=Unit) (fun x=>True) (fun x=>[(6,.bool (decide (((ex≤fx)∧(fx≤ey))∨((ey≤fx)∧(fx≤ex)))))]) (fun x=>[]) (fun x=>[]) ?_ ?_
 ·
  refine za<|e_mv rfl<|e_mv rfl<|e_p (zWa rfl rfl)<|zZ rfl rfl (zaa rfl) (fun h1=> ?_) (fun h1=> ?_)
  ·
   refine e_mv rfl<|e_mv rfl<|e_p (zWa rfl rfl)<|e_p (zp rfl rfl)<|zZ rfl rfl (zaa rfl) (fun h2=> ?_) (fun h2=> ?_)
   ·
    refine e_no<|e_no<|e_no<|e_no<|e_no<|e_no<|e_no<|e_no<|e_p (zp rfl rfl)<|e_p (zd rfl)<|zi ?_
    exact zha () tt9 ((.e rfl (congrArg Value.bool cbu) .n):SubM _ _) (ho:=oN) sN
   ·
    refine e_mv rfl<|e_mv rfl<|e_p (zWa rfl rfl)<|zZ rfl rfl (zaa rfl) (fun h3=> ?_) (fun h3=> ?_)
    ·
     refine e_mv rfl<|e_mv rfl<|e_p (zWa rfl rfl)<|e_p (zp rfl rfl)<|e_p (zp rfl rfl)<|e_p (zd rfl)<|zi ?_
     exact zha () tt9 ((.e rfl (congrArg Value.bool cbu) .n):SubM _ _) (ho:=oN) sN
    ·
     refine e_no<|e_no<|e_no<|e_p (zp rfl rfl)<|e_p (zp rfl rfl)<|e_p (zd rfl)<|zi ?_
     exact zha () tt9 ((.e rfl (congrArg Value.bool cbu) .n):SubM _ _) (ho:=oN) sN
  ·
   refine e_no<|e_no<|e_no<|e_p (zp rfl rfl)<|e_mv rfl<|e_mv rfl<|e_mv rfl<|e_p (zWa rfl rfl)<|zZ rfl rfl (zaa rfl) (fun h4=> ?_) (fun h4=> ?_)
   ·
    refine e_mv rfl<|e_mv rfl<|e_p (zWa rfl rfl)<|e_p (zp rfl rfl)<|e_p (zp rfl rfl)<|e_p (zd rfl)<|zi ?_
    exact zha () tt9 ((.e rfl (congrArg Value.bool cbu) .n):SubM _ _) (ho:=oN) sN
   ·
    refine e_no<|e_no<|e_no<|e_p (zp rfl rfl)<|e_p (zp rfl rfl)<|e_p (zd rfl)<|zi ?_
    exact zha () tt9 ((.e rfl (congrArg Value.bool cbu) .n):SubM _ _) (ho:=oN) sN
 ·
  rintro ⟨⟩ -
  try dsimp only
  refine zL ?_
  exact zx Tryz.results81 () trivial (zl rfl) (congrArg Value.bool (by first|rfl|(simp [Pg.wi];done)|simp_all [Pg.wi])) (ho:=oN) sN
theorem zac {ex:Int} {ey:Int} {fx:Int} {fy:Int} {gx:Int} {gy:Int} (hre:yw (ex,ey)) (hrf:yw (fx,fy)) (hrg:yw (gx,gy)):Con yh 50 [.agg #[ya yb ex,ya yb ey],.agg #[ya yb fx,ya yb fy],.agg #[ya yb gx,ya yb gy]] [] [] (Y:=Unit) (fun y=>True) (fun y=> .bool (decide (yz (ex,ey) (fx,fy) (gx,gy)))) (fun y=>[]) (fun y=>[]):=by
 refine zo Tryz.func50 rfl rfl rfl (fun c=> ?_)
 show RunC _ _ _ _ _ [(0,.agg #[ya yb ex,ya yb ey]),(1,.agg #[ya yb fx,ya yb fy]),(2,.agg #[ya yb gx,ya yb gy])] [] []
 refine zh<|za<|zP rfl rfl (zS rfl rfl) (fun b1=> ?_)
 refine zP rfl rfl (zS rfl rfl) (fun b2=> ?_)
 refine zP rfl rfl (zS rfl rfl) (fun b3=> ?_)
 refine e_p (zd rfl)<|zi<|ze<|zGa (X:=Unit) (fun x=>True) (fun x=>[(6,.bool (decide (((yo (ex,ey) (fx,fy) (gx,gy)).sign=0)∧(Pg.betw (ex,ey) (fx,fy) (gx,gy)))))]) (fun x=>[boxA b3 30 [ya yb gx,ya yb gy],boxA b2 30 [ya yb fx,ya yb fy],boxA b1 30 [ya yb ex,ya yb ey]]) (fun x=>[]) ?_ ?_
 ·
  refine za<|e_ru (zb 2 ty30 rfl rfl (.t2 .nil))<|e_ru (zb 1 ty30 rfl rfl (.t2 .nil))<|e_ru (zb 0 ty30 rfl rfl (.t2 .nil))<|zQ rfl rfl (.c rfl (.c rfl (.c rfl .n))) ce54 (zib (ex:=ex) (ey:=ey) (fx:=fx) (fy:=fy) (gx:=gx) (gy:=gy) (hre:=ass) (hrf:=ass) (hrg:=ass)) (.n)<|e_p (zxa rfl rfl)<|zZ rfl rfl (zaa rfl) (fun h4=> ?_) (fun h4=> ?_)
  ·
   refine e_ru (zb 2 ty30 rfl rfl (.t2 .nil))<|e_ru (zb 1 ty30 rfl rfl (.t2 .nil))<|e_ru (zb 0 ty30 rfl rfl (.t2 .nil))<|zQ rfl rfl (.c rfl (.c rfl (.c rfl .n))) ce91 (zVf (ex:=ex) (ey:=ey) (fx:=fx) (fy:=fy) (gx:=gx) (gy:=gy)) (.n)<|e_p (zp rfl rfl)<|e_p (zd rfl)<|zi ?_
   exact zha () tt9 ((.e rfl (congrArg Value.bool cbu) .n):SubM _ _) (ho:=((.of [0,0,0] rfl):PickO _ _ _)) sN
  ·
   refine e_no<|e_no<|e_no<|e_no<|e_p (zp rfl rfl)<|e_p (zd rfl)<|zi ?_
   exact zha () tt9 ((.e rfl (congrArg Value.bool cbu) .n):SubM _ _) (ho:=((.of [0,0,0] rfl):PickO _ _ _)) sN
 ·
  rintro ⟨⟩ -
  try dsimp only
  refine zL ?_
  exact zx Tryz.results50 () trivial (zl rfl) (congrArg Value.bool (by first|rfl|(rw [Bool.eq_iff_iff,decide_eq_true_iff];simp [yz,Int.sign_eq_zero_iff_zero,and_assoc,or_assoc];done)|(rw [Bool.eq_iff_iff,decide_eq_true_iff];simp_all [yz,Int.sign_eq_zero_iff_zero]))) (ho:=oN) sN
theorem zSb {ex:Int} {ey:Int} {fx:Int} {fy:Int} {gx:Int} {gy:Int} (hre:yw (ex,ey)) (hrf:yw (fx,fy)) (hrg:yw (gx,gy)):Con yh 35 [.agg #[ya yb ex,ya yb ey],.agg #[ya yb fx,ya yb fy],.agg #[ya yb gx,ya yb gy]] [] [] (Y:=Unit) (fun y=>True) (fun y=> .bool (decide (yz (ex,ey) (fx,fy) (gx,gy)))) (fun y=>[]) (fun y=>[]):=by
 refine zo Tryz.func35 rfl rfl rfl (fun c=> ?_)
 show RunC _ _ _ _ _ [(0,.agg #[ya yb ex,ya yb ey]),(1,.agg #[ya yb fx,ya yb fy]),(2,.agg #[ya yb gx,ya yb gy])] [] []
 refine zh<|za<|zP rfl rfl (zS rfl rfl) (fun b1=> ?_)
 refine zP rfl rfl (zS rfl rfl) (fun b2=> ?_)
 refine zP rfl rfl (zS rfl rfl) (fun b3=> ?_)
 refine e_p (zd rfl)<|zi<|ze<|zGa (X:=Unit) (fun x=>True) (fun x=>[(6,.bool (decide (((yo (ex,ey) (fx,fy) (gx,gy)=0)∧(Pg.wi ex fx gx))∧(Pg.wi ey fy gy))))]) (fun x=>[boxA b3 30 [ya yb gx,ya yb gy],boxA b2 30 [ya yb fx,ya yb fy],boxA b1 30 [ya yb ex,ya yb ey]]) (fun x=>[]) ?_ ?_
 ·
  refine za<|e_ru (zb 2 ty30 rfl rfl (.t2 .nil))<|e_ru (zb 1 ty30 rfl rfl (.t2 .nil))<|e_ru (zb 0 ty30 rfl rfl (.t2 .nil))<|zQ rfl rfl (.c rfl (.c rfl (.c rfl .n))) ce55 (zAb (ex:=ex) (ey:=ey) (fx:=fx) (fy:=fy) (gx:=gx) (gy:=gy) (hre:=ass) (hrf:=ass) (hrg:=ass)) (.n)<|e_p (zxa rfl rfl)<|zZ rfl rfl (zaa rfl) (fun h4=> ?_) (fun h4=> ?_)
  ·
   refine e_p (zf yf rfl sz3 rfl rfl)<|e_ru (zg 2 ty3 rfl rfl rfl)<|e_p (zf yf rfl sz3 rfl rfl)<|e_ru (zg 1 ty3 rfl rfl rfl)<|e_p (zf yf rfl sz3 rfl rfl)<|e_ru (zg 0 ty3 rfl rfl rfl)<|zQ rfl rfl (.c rfl (.c rfl (.c rfl .n))) ce81 (zyf (ex:=ex) (ey:=fx) (fx:=gx)) (.n)<|e_p (zp rfl rfl)<|zZ rfl rfl (zaa rfl) (fun h5=> ?_) (fun h5=> ?_)
   ·
    refine e_p (zf yf rfl sz3 rfl rfl)<|e_ru (zg 2 ty3 rfl rfl rfl)<|e_p (zf yf rfl sz3 rfl rfl)<|e_ru (zg 1 ty3 rfl rfl rfl)<|e_p (zf yf rfl sz3 rfl rfl)<|e_ru (zg 0 ty3 rfl rfl rfl)<|zQ rfl rfl (.c rfl (.c rfl (.c rfl .n))) ce81 (zyf (ex:=ey) (ey:=fy) (fx:=gy)) (.n)<|e_p (zp rfl rfl)<|e_p (zd rfl)<|zi ?_
    exact zha () tt9 ((.e rfl (congrArg Value.bool cbu) .n):SubM _ _) (ho:=((.of [0,0,0] rfl):PickO _ _ _)) sN
   ·
    refine e_no<|e_no<|e_no<|e_no<|e_no<|e_no<|e_no<|e_p (zp rfl rfl)<|e_p (zd rfl)<|zi ?_
    exact zha () tt9 ((.e rfl (congrArg Value.bool cbu) .n):SubM _ _) (ho:=((.of [0,0,0] rfl):PickO _ _ _)) sN
  ·
   refine e_no<|e_no<|e_no<|e_no<|e_no<|e_no<|e_no<|e_p (zp rfl rfl)<|e_mv rfl<|e_no<|e_no<|e_no<|e_no<|e_no<|e_no<|e_no<|e_p (zp rfl rfl)<|e_p (zd rfl)<|zi ?_
   exact zha () tt9 ((.e rfl (congrArg Value.bool cbu) .n):SubM _ _) (ho:=((.of [0,0,0] rfl):PickO _ _ _)) sN
 ·
  rintro ⟨⟩ -
  try dsimp only
  refine zL ?_
  exact zx Tryz.results35 () trivial (zl rfl) (congrArg Value.bool (by first|rfl|(rw [Bool.eq_iff_iff,decide_eq_true_iff];simp [yz,Pg.betw_wi,and_assoc,or_assoc];done)|(rw [Bool.eq_iff_iff,decide_eq_true_iff];simp_all [yz,Pg.betw_wi]))) (ho:=oN) sN
theorem zzf {ex:Int} {ey:Int} {fx:Int} {fy:Int}:Con yh 52 [.agg #[ya yb ex,ya yb ey],.agg #[ya yb fx,ya yb fy]] [] [] (Y:=Unit) (fun y=>True) (fun y=> .bool (decide ((ex,ey)=(fx,fy)))) (fun y=>[]) (fun y=>[]):=by
 refine zo Tryz.func52 rfl rfl rfl (fun c=> ?_)
 show RunC _ _ _ _ _ [(0,.agg #[ya yb ex,ya yb ey]),(1,.agg #[ya yb fx,ya yb fy])] [] []
 refine zh<|za<|zP rfl rfl (zS rfl rfl) (fun b1=> ?_)
 refine zP rfl rfl (zS rfl rfl) (fun b2=> ?_)
 refine e_p (zd rfl)<|zi<|ze<|zGa (X:=Unit) (fun x=>True) (fun x=>[(4,.bool (decide ((ex=fx)∧(ey=fy))))]) (fun x=>[boxA b2 30 [ya yb fx,ya yb fy],boxA b1 30 [ya yb ex,ya yb ey]]) (fun x=>[]) ?_ ?_
 ·
  refine za<|e_p (zf yf rfl sz3 rfl rfl)<|e_ru (zg 1 ty3 rfl rfl rfl)<|e_p (zf yf rfl sz3 rfl rfl)<|e_ru (zg 0 ty3 rfl rfl rfl)<|e_p (zxa rfl rfl)<|zZ rfl rfl (zaa rfl) (fun h3=> ?_) (fun h3=> ?_)
  ·
   refine e_p (zf yf rfl sz3 rfl rfl)<|e_ru (zg 1 ty3 rfl rfl rfl)<|e_p (zf yf rfl sz3 rfl rfl)<|e_ru (zg 0 ty3 rfl rfl rfl)<|e_p (zxa rfl rfl)<|e_p (zp rfl rfl)<|e_p (zd rfl)<|zi ?_
   exact zha () tt9 ((.e rfl (congrArg Value.bool cbu) .n):SubM _ _) (ho:=((.of [0,0] rfl):PickO _ _ _)) sN
  ·
   refine e_no<|e_no<|e_no<|e_no<|e_no<|e_p (zp rfl rfl)<|e_p (zd rfl)<|zi ?_
   exact zha () tt9 ((.e rfl (congrArg Value.bool cbu) .n):SubM _ _) (ho:=((.of [0,0] rfl):PickO _ _ _)) sN
 ·
  rintro ⟨⟩ -
  try dsimp only
  refine zL ?_
  exact zx Tryz.results52 () trivial (zl rfl) (congrArg Value.bool (by first|rfl|(simp;done)|simp_all)) (ho:=oN) sN
theorem zAf {ex:Int} {ey:Int} {fx:Int} {fy:Int} {gx:Int} {gy:Int} {hx:Int} {hy:Int} (hre:yw (ex,ey)) (hrf:yw (fx,fy)) (hrg:yw (gx,gy)) (hrh:yw (hx,hy)):Con yh 51 [.agg #[ya yb ex,ya yb ey],.agg #[ya yb fx,ya yb fy],.agg #[ya yb gx,ya yb gy],.agg #[ya yb hx,ya yb hy]] [] [] (Y:=Unit) (fun y=>True) (fun y=> .bool (decide (Pg.mt (ex,ey) (fx,fy) (gx,gy) (hx,hy)))) (fun y=>[]) (fun y=>[]):=by
 refine zo Tryz.func51 rfl rfl rfl (fun c=> ?_)
 show RunC _ _ _ _ _ [(0,.agg #[ya yb ex,ya yb ey]),(1,.agg #[ya yb fx,ya yb fy]),(2,.agg #[ya yb gx,ya yb gy]),(3,.agg #[ya yb hx,ya yb hy])] [] []
 have hs0:=Pg.sgn_mul (yo (ex,ey) (fx,fy) (gx,gy)) (yo (ex,ey) (fx,fy) (hx,hy))
 have hs1:=Pg.sgn_mul (yo (gx,gy) (hx,hy) (ex,ey)) (yo (gx,gy) (hx,hy) (fx,fy))
 have hc0:=(Pg.cb hre hrf hrg).c
 have hc1:=(Pg.cb hre hrf hrh).c
 have hc2:=(Pg.cb hrg hrh hre).c
 have hc3:=(Pg.cb hrg hrh hrf).c
 refine zh<|za<|zP rfl rfl (zS rfl rfl) (fun b1=> ?_)
 refine zP rfl rfl (zS rfl rfl) (fun b2=> ?_)
 refine zP rfl rfl (zS rfl rfl) (fun b3=> ?_)
 refine zP rfl rfl (zS rfl rfl) (fun b4=> ?_)
 refine e_p (zd rfl)<|zi<|ze<|zh<|zGa (X:=Unit) (fun x=>True) (fun x=>[(30,.bool (decide ((((yo (ex,ey) (fx,fy) (gx,gy)).sign*(yo (ex,ey) (fx,fy) (hx,hy)).sign)<0)∧(((yo (gx,gy) (hx,hy) (ex,ey)).sign*(yo (gx,gy) (hx,hy) (fx,fy)).sign)<0)))),(8,.bool false),(7,yc (some ⟨b4,0,none⟩)),(6,yc (some ⟨b3,0,none⟩)),(5,yc (some ⟨b2,0,none⟩)),(4,yc (some ⟨b1,0,none⟩))]) (fun x=>[boxA b4 30 [ya yb hx,ya yb hy],boxA b3 30 [ya yb gx,ya yb gy],boxA b2 30 [ya yb fx,ya yb fy],boxA b1 30 [ya yb ex,ya yb ey]]) (fun x=>[]) ?_ ?_
 ·
  refine zY (OW:=[]) (O:=[boxA b4 30 [ya yb hx,ya yb hy],boxA b3 30 [ya yb gx,ya yb gy],boxA b2 30 [ya yb fx,ya yb fy],boxA b1 30 [ya yb ex,ya yb ey]]) 100000 mixed (.then (.then .ret)) kr<|e_u 0 rfl rfl (zb 3 ty30 rfl rfl (.t2 .nil))<|e_u 1 rfl rfl (zb 2 ty30 rfl rfl (.t2 .nil))<|e_u 2 rfl rfl (zb 1 ty30 rfl rfl (.t2 .nil))<|e_u 4 rfl rfl (zb 3 ty30 rfl rfl (.t2 .nil))<|e_u 5 rfl rfl (zb 2 ty30 rfl rfl (.t2 .nil))<|e_u 6 rfl rfl (zb 0 ty30 rfl rfl (.t2 .nil))<|e_one 3 (zta rfl rfl rfl rfl (.c rfl (.c rfl (.c rfl .n))) ce54 (zib (ex:=ex) (ey:=ey) (fx:=fx) (fy:=fy) (gx:=gx) (gy:=gy) (hre:=ass) (hrf:=ass) (hrg:=ass)) (.n) ?_)
  refine e_one 7 (zta rfl rfl rfl rfl (.c rfl (.c rfl (.c rfl .n))) ce54 (zib (ex:=ex) (ey:=ey) (fx:=fx) (fy:=fy) (gx:=hx) (gy:=hy) (hre:=ass) (hrf:=ass) (hrg:=ass)) (.n) ?_)
  refine e_pv 8 rfl rfl (zEa (z:=((yo (ex,ey) (fx,fy) (gx,gy)).sign*(yo (ex,ey) (fx,fy) (hx,hy)).sign)) rfl rfl (w64 om))<|e_pv 9 rfl rfl (zda rfl rfl)<|zGb 10 rfl rfl kr kr rfl rfl (zaa rfl) (fun h5=> ?_) (fun h5=> ?_)
  ·
   refine e_u 11 rfl rfl (zb 1 ty30 rfl rfl (.t2 .nil))<|e_u 12 rfl rfl (zb 0 ty30 rfl rfl (.t2 .nil))<|e_u 13 rfl rfl (zb 3 ty30 rfl rfl (.t2 .nil))<|e_u 15 rfl rfl (zb 1 ty30 rfl rfl (.t2 .nil))<|e_u 16 rfl rfl (zb 0 ty30 rfl rfl (.t2 .nil))<|e_u 17 rfl rfl (zb 2 ty30 rfl rfl (.t2 .nil))<|e_one 14 (zta rfl rfl rfl rfl (.c rfl (.c rfl (.c rfl .n))) ce54 (zib (ex:=gx) (ey:=gy) (fx:=hx) (fy:=hy) (gx:=ex) (gy:=ey) (hre:=ass) (hrf:=ass) (hrg:=ass)) (.n) ?_)
   refine e_one 18 (zta rfl rfl rfl rfl (.c rfl (.c rfl (.c rfl .n))) ce54 (zib (ex:=gx) (ey:=gy) (fx:=hx) (fy:=hy) (gx:=fx) (gy:=fy) (hre:=ass) (hrf:=ass) (hrg:=ass)) (.n) ?_)
   refine e_pv 19 rfl rfl (zEa (z:=((yo (gx,gy) (hx,hy) (ex,ey)).sign*(yo (gx,gy) (hx,hy) (fx,fy)).sign)) rfl rfl (w64 om))<|e_pv 20 rfl rfl (zda rfl rfl)<|e_pv 21 rfl rfl (zp rfl rfl)<|zW kr ?_
   exact zha () tt9 ((.e rfl (congrArg Value.bool cbu) (.of rfl)):SubM _ _) (ho:=((.of [0,0,0,0] rfl):PickO _ _ _)) sN
  ·
   refine e_skip 11 rfl rfl<|e_skip 12 rfl rfl<|e_skip 13 rfl rfl<|e_skip 14 rfl rfl<|e_skip 15 rfl rfl<|e_skip 16 rfl rfl<|e_skip 17 rfl rfl<|e_skip 18 rfl rfl<|e_skip 19 rfl rfl<|e_skip 20 rfl rfl<|e_pv 21 rfl rfl (zp rfl rfl)<|zW kr ?_
   exact zha () tt9 ((.e rfl (congrArg Value.bool cbu) (.of rfl)):SubM _ _) (ho:=((.of [0,0,0,0] rfl):PickO _ _ _)) sN
 ·
  rintro ⟨⟩ -
  try dsimp only
  refine zJ rfl (fun hm=> ?_) (fun hm=> ?_)
  ·
   refine zh<|za<|e_p (zd rfl)<|zi<|ze<|zL<|zj ?_
   exact zx Tryz.results51 () trivial (zl rfl) (congrArg Value.bool (decide_eq_true (Or.inl hm))) (ho:=oN) sN
  ·
   refine zC<|ze<|zGa (X:=Unit) (fun x=>True) (fun x=>[(8,.bool (decide ((((yz (ex,ey) (fx,fy) (gx,gy))∨(yz (ex,ey) (fx,fy) (hx,hy)))∨(yz (gx,gy) (hx,hy) (ex,ey)))∨(yz (gx,gy) (hx,hy) (fx,fy)))))]) (fun x=>[boxA b4 30 [ya yb hx,ya yb hy],boxA b3 30 [ya yb gx,ya yb gy],boxA b2 30 [ya yb fx,ya yb fy],boxA b1 30 [ya yb ex,ya yb ey]]) (fun x=>[]) ?_ ?_
   ·
    refine za<|e_ru (zb 3 ty30 rfl rfl (.t2 .nil))<|e_ru (zb 2 ty30 rfl rfl (.t2 .nil))<|e_ru (zb 1 ty30 rfl rfl (.t2 .nil))<|zQ rfl rfl (.c rfl (.c rfl (.c rfl .n))) ce50 (zac (ex:=ex) (ey:=ey) (fx:=fx) (fy:=fy) (gx:=gx) (gy:=gy) (hre:=ass) (hrf:=ass) (hrg:=ass)) (.n)<|zZ rfl rfl (zaa rfl) (fun h6=> ?_) (fun h6=> ?_)
    ·
     refine e_no<|e_no<|e_no<|e_no<|e_p (zp rfl rfl)<|e_mv rfl<|e_no<|e_no<|e_no<|e_no<|e_p (zp rfl rfl)<|e_mv rfl<|e_no<|e_no<|e_no<|e_no<|e_p (zp rfl rfl)<|e_p (zd rfl)<|zi ?_
     exact zha () tt9 ((.e rfl (congrArg Value.bool cbu) .n):SubM _ _) (ho:=((.of [0,0,0,0] rfl):PickO _ _ _)) sN
    ·
     refine e_ru (zb 3 ty30 rfl rfl (.t2 .nil))<|e_ru (zb 2 ty30 rfl rfl (.t2 .nil))<|e_ru (zb 0 ty30 rfl rfl (.t2 .nil))<|zQ rfl rfl (.c rfl (.c rfl (.c rfl .n))) ce50 (zac (ex:=ex) (ey:=ey) (fx:=fx) (fy:=fy) (gx:=hx) (gy:=hy) (hre:=ass) (hrf:=ass) (hrg:=ass)) (.n)<|e_p (zp rfl rfl)<|zZ rfl rfl (zaa rfl) (fun h7=> ?_) (fun h7=> ?_)
     ·
      refine e_no<|e_no<|e_no<|e_no<|e_p (zp rfl rfl)<|e_mv rfl<|e_no<|e_no<|e_no<|e_no<|e_p (zp rfl rfl)<|e_p (zd rfl)<|zi ?_
      exact zha () tt9 ((.e rfl (congrArg Value.bool cbu) .n):SubM _ _) (ho:=((.of [0,0,0,0] rfl):PickO _ _ _)) sN
     ·
      refine e_ru (zb 1 ty30 rfl rfl (.t2 .nil))<|e_ru (zb 0 ty30 rfl rfl (.t2 .nil))<|e_ru (zb 3 ty30 rfl rfl (.t2 .nil))<|zQ rfl rfl (.c rfl (.c rfl (.c rfl .n))) ce50 (zac (ex:=gx) (ey:=gy) (fx:=hx) (fy:=hy) (gx:=ex) (gy:=ey) (hre:=ass) (hrf:=ass) (hrg:=ass)) (.n)<|e_p (zp rfl rfl)<|zZ rfl rfl (zaa rfl) (fun h8=> ?_) (fun h8=> ?_)
      ·
       refine e_no<|e_no<|e_no<|e_no<|e_p (zp rfl rfl)<|e_p (zd rfl)<|zi ?_
       exact zha () tt9 ((.e rfl (congrArg Value.bool cbu) .n):SubM _ _) (ho:=((.of [0,0,0,0] rfl):PickO _ _ _)) sN
      ·
       refine e_ru (zb 1 ty30 rfl rfl (.t2 .nil))<|e_ru (zb 0 ty30 rfl rfl (.t2 .nil))<|e_ru (zb 2 ty30 rfl rfl (.t2 .nil))<|zQ rfl rfl (.c rfl (.c rfl (.c rfl .n))) ce50 (zac (ex:=gx) (ey:=gy) (fx:=hx) (fy:=hy) (gx:=fx) (gy:=fy) (hre:=ass) (hrf:=ass) (hrg:=ass)) (.n)<|e_p (zp rfl rfl)<|e_p (zd rfl)<|zi ?_
       exact zha () tt9 ((.e rfl (congrArg Value.bool cbu) .n):SubM _ _) (ho:=((.of [0,0,0,0] rfl):PickO _ _ _)) sN
   ·
    rintro ⟨⟩ -
    try dsimp only
    refine zL ?_
    exact zx Tryz.results51 () trivial (zl rfl) (congrArg Value.bool (by rw [Bool.eq_iff_iff,decide_eq_true_iff];show Pg.mt0 _ _ _ _∨Pg.mt1 _ _ _ _↔_;rw [or_iff_right (show ¬Pg.mt0 _ _ _ _ from hm)];simp [Pg.mt1,or_assoc])) (ho:=oN) sN
theorem zBf {ex:Int} {ey:Int} {fx:Int} {fy:Int} {gx:Int} {gy:Int} {hx:Int} {hy:Int} (hre:yw (ex,ey)) (hrf:yw (fx,fy)) (hrg:yw (gx,gy)) (hrh:yw (hx,hy)):Con yh 92 [.agg #[ya yb ex,ya yb ey],.agg #[ya yb fx,ya yb fy],.agg #[ya yb gx,ya yb gy],.agg #[ya yb hx,ya yb hy]] [] [] (Y:=Unit) (fun y=>True) (fun y=> .bool (decide (Pg.mt (ex,ey) (fx,fy) (gx,gy) (hx,hy)))) (fun y=>[]) (fun y=>[]):=by
 refine zo Tryz.func92 rfl rfl rfl (fun c=> ?_)
 show RunC _ _ _ _ _ [(0,.agg #[ya yb ex,ya yb ey]),(1,.agg #[ya yb fx,ya yb fy]),(2,.agg #[ya yb gx,ya yb gy]),(3,.agg #[ya yb hx,ya yb hy])] [] []
 have hs0:=Pg.sgn_mul (yo (ex,ey) (fx,fy) (gx,gy)) (yo (ex,ey) (fx,fy) (hx,hy))
 have hs1:=Pg.sgn_mul (yo (gx,gy) (hx,hy) (ex,ey)) (yo (gx,gy) (hx,hy) (fx,fy))
 have hc0:=(Pg.cb hre hrf hrg).c
 have hc1:=(Pg.cb hre hrf hrh).c
 have hc2:=(Pg.cb hrg hrh hre).c
 have hc3:=(Pg.cb hrg hrh hrf).c
 refine zh<|za<|zP rfl rfl (zS rfl rfl) (fun b1=> ?_)
 refine zP rfl rfl (zS rfl rfl) (fun b2=> ?_)
 refine zP rfl rfl (zS rfl rfl) (fun b3=> ?_)
 refine zP rfl rfl (zS rfl rfl) (fun b4=> ?_)
 refine e_p (zd rfl)<|zi<|ze<|zh<|zGa (X:=Unit) (fun x=>True) (fun x=>[(30,.bool (decide ((((yz (ex,ey) (fx,fy) (gx,gy))∨(yz (ex,ey) (fx,fy) (hx,hy)))∨(yz (gx,gy) (hx,hy) (ex,ey)))∨(yz (gx,gy) (hx,hy) (fx,fy))))),(8,.bool false),(7,yc (some ⟨b4,0,none⟩)),(6,yc (some ⟨b3,0,none⟩)),(5,yc (some ⟨b2,0,none⟩)),(4,yc (some ⟨b1,0,none⟩))]) (fun x=>[boxA b4 30 [ya yb hx,ya yb hy],boxA b3 30 [ya yb gx,ya yb gy],boxA b2 30 [ya yb fx,ya yb fy],boxA b1 30 [ya yb ex,ya yb ey]]) (fun x=>[]) ?_ ?_
 ·
  refine za<|e_ru (zb 3 ty30 rfl rfl (.t2 .nil))<|e_ru (zb 2 ty30 rfl rfl (.t2 .nil))<|e_ru (zb 1 ty30 rfl rfl (.t2 .nil))<|zQ rfl rfl (.c rfl (.c rfl (.c rfl .n))) ce35 (zSb (ex:=ex) (ey:=ey) (fx:=fx) (fy:=fy) (gx:=gx) (gy:=gy) (hre:=ass) (hrf:=ass) (hrg:=ass)) (.n)<|zZ rfl rfl (zaa rfl) (fun h5=> ?_) (fun h5=> ?_)
  ·
   refine e_no<|e_no<|e_no<|e_no<|e_p (zp rfl rfl)<|e_mv rfl<|e_no<|e_no<|e_no<|e_no<|e_p (zp rfl rfl)<|e_mv rfl<|e_no<|e_no<|e_no<|e_no<|e_p (zp rfl rfl)<|zi ?_
   exact zha () tt9 ((.e rfl (congrArg Value.bool cbu) (.of rfl)):SubM _ _) (ho:=((.of [0,0,0,0] rfl):PickO _ _ _)) sN
  ·
   refine e_ru (zb 3 ty30 rfl rfl (.t2 .nil))<|e_ru (zb 2 ty30 rfl rfl (.t2 .nil))<|e_ru (zb 0 ty30 rfl rfl (.t2 .nil))<|zQ rfl rfl (.c rfl (.c rfl (.c rfl .n))) ce35 (zSb (ex:=ex) (ey:=ey) (fx:=fx) (fy:=fy) (gx:=hx) (gy:=hy) (hre:=ass) (hrf:=ass) (hrg:=ass)) (.n)<|e_p (zp rfl rfl)<|zZ rfl rfl (zaa rfl) (fun h6=> ?_) (fun h6=> ?_)
   ·
    refine e_no<|e_no<|e_no<|e_no<|e_p (zp rfl rfl)<|e_mv rfl<|e_no<|e_no<|e_no<|e_no<|e_p (zp rfl rfl)<|zi ?_
    exact zha () tt9 ((.e rfl (congrArg Value.bool cbu) (.of rfl)):SubM _ _) (ho:=((.of [0,0,0,0] rfl):PickO _ _ _)) sN
   ·
    refine e_ru (zb 1 ty30 rfl rfl (.t2 .nil))<|e_ru (zb 0 ty30 rfl rfl (.t2 .nil))<|e_ru (zb 3 ty30 rfl rfl (.t2 .nil))<|zQ rfl rfl (.c rfl (.c rfl (.c rfl .n))) ce35 (zSb (ex:=gx) (ey:=gy) (fx:=hx) (fy:=hy) (gx:=ex) (gy:=ey) (hre:=ass) (hrf:=ass) (hrg:=ass)) (.n)<|e_p (zp rfl rfl)<|zZ rfl rfl (zaa rfl) (fun h7=> ?_) (fun h7=> ?_)
    ·
     refine e_no<|e_no<|e_no<|e_no<|e_p (zp rfl rfl)<|zi ?_
     exact zha () tt9 ((.e rfl (congrArg Value.bool cbu) (.of rfl)):SubM _ _) (ho:=((.of [0,0,0,0] rfl):PickO _ _ _)) sN
    ·
     refine e_ru (zb 1 ty30 rfl rfl (.t2 .nil))<|e_ru (zb 0 ty30 rfl rfl (.t2 .nil))<|e_ru (zb 2 ty30 rfl rfl (.t2 .nil))<|zQ rfl rfl (.c rfl (.c rfl (.c rfl .n))) ce35 (zSb (ex:=gx) (ey:=gy) (fx:=hx) (fy:=hy) (gx:=fx) (gy:=fy) (hre:=ass) (hrf:=ass) (hrg:=ass)) (.n)<|e_p (zp rfl rfl)<|zi ?_
     exact zha () tt9 ((.e rfl (congrArg Value.bool cbu) (.of rfl)):SubM _ _) (ho:=((.of [0,0,0,0] rfl):PickO _ _ _)) sN
 ·
  rintro ⟨⟩ -
  try dsimp only
  refine zJ rfl (fun hm=> ?_) (fun hm=> ?_)
  ·
   refine zh<|za<|e_p (zd rfl)<|zi<|ze<|zL<|zj ?_
   exact zx Tryz.results92 () trivial (zl rfl) (congrArg Value.bool (by rw [decide_eq_true_iff];refine Or.inr ?_;unfold Pg.mt1;simpa [or_assoc] using hm)) (ho:=oN) sN
  ·
   refine zC<|ze<|zGa (X:=Unit) (fun x=>True) (fun x=>[(8,.bool (decide ((((yo (ex,ey) (fx,fy) (gx,gy)).sign*(yo (ex,ey) (fx,fy) (hx,hy)).sign)<0)∧(((yo (gx,gy) (hx,hy) (ex,ey)).sign*(yo (gx,gy) (hx,hy) (fx,fy)).sign)<0))))]) (fun x=>[boxA b4 30 [ya yb hx,ya yb hy],boxA b3 30 [ya yb gx,ya yb gy],boxA b2 30 [ya yb fx,ya yb fy],boxA b1 30 [ya yb ex,ya yb ey]]) (fun x=>[]) ?_ ?_
   ·
    refine zY (OW:=[]) (O:=[boxA b4 30 [ya yb hx,ya yb hy],boxA b3 30 [ya yb gx,ya yb gy],boxA b2 30 [ya yb fx,ya yb fy],boxA b1 30 [ya yb ex,ya yb ey]]) 100000 mixed (.then .ret) kr<|e_u 0 rfl rfl (zb 3 ty30 rfl rfl (.t2 .nil))<|e_u 1 rfl rfl (zb 2 ty30 rfl rfl (.t2 .nil))<|e_u 2 rfl rfl (zb 1 ty30 rfl rfl (.t2 .nil))<|e_u 5 rfl rfl (zb 3 ty30 rfl rfl (.t2 .nil))<|e_u 6 rfl rfl (zb 2 ty30 rfl rfl (.t2 .nil))<|e_u 7 rfl rfl (zb 0 ty30 rfl rfl (.t2 .nil))<|e_one 3 (zta rfl rfl rfl rfl (.c rfl (.c rfl (.c rfl .n))) ce55 (zAb (ex:=ex) (ey:=ey) (fx:=fx) (fy:=fy) (gx:=gx) (gy:=gy) (hre:=ass) (hrf:=ass) (hrg:=ass)) (.n) ?_)
    refine e_one 4 (zta rfl rfl rfl rfl (.c rfl .n) ce65 (zBb (z:=yo (ex,ey) (fx,fy) (gx,gy)) (hz:=cbo)) (.n) ?_)
    refine e_one 8 (zta rfl rfl rfl rfl (.c rfl (.c rfl (.c rfl .n))) ce55 (zAb (ex:=ex) (ey:=ey) (fx:=fx) (fy:=fy) (gx:=hx) (gy:=hy) (hre:=ass) (hrf:=ass) (hrg:=ass)) (.n) ?_)
    refine e_one 9 (zta rfl rfl rfl rfl (.c rfl .n) ce65 (zBb (z:=yo (ex,ey) (fx,fy) (hx,hy)) (hz:=cbo)) (.n) ?_)
    refine e_pv 10 rfl rfl (zEa (z:=((yo (ex,ey) (fx,fy) (gx,gy)).sign*(yo (ex,ey) (fx,fy) (hx,hy)).sign)) rfl rfl (w64 om))<|e_pv 11 rfl rfl (zda rfl rfl)<|zGb 12 rfl rfl kr kr rfl rfl (zaa rfl) (fun h8=> ?_) (fun h8=> ?_)
    ·
     refine e_u 13 rfl rfl (zb 1 ty30 rfl rfl (.t2 .nil))<|e_u 14 rfl rfl (zb 0 ty30 rfl rfl (.t2 .nil))<|e_u 15 rfl rfl (zb 3 ty30 rfl rfl (.t2 .nil))<|e_u 18 rfl rfl (zb 1 ty30 rfl rfl (.t2 .nil))<|e_u 19 rfl rfl (zb 0 ty30 rfl rfl (.t2 .nil))<|e_u 20 rfl rfl (zb 2 ty30 rfl rfl (.t2 .nil))<|e_one 16 (zta rfl rfl rfl rfl (.c rfl (.c rfl (.c rfl .n))) ce55 (zAb (ex:=gx) (ey:=gy) (fx:=hx) (fy:=hy) (gx:=ex) (gy:=ey) (hre:=ass) (hrf:=ass) (hrg:=ass)) (.n) ?_)
     refine e_one 17 (zta rfl rfl rfl rfl (.c rfl .n) ce65 (zBb (z:=yo (gx,gy) (hx,hy) (ex,ey)) (hz:=cbo)) (.n) ?_)
     refine e_one 21 (zta rfl rfl rfl rfl (.c rfl (.c rfl (.c rfl .n))) ce55 (zAb (ex:=gx) (ey:=gy) (fx:=hx) (fy:=hy) (gx:=fx) (gy:=fy) (hre:=ass) (hrf:=ass) (hrg:=ass)) (.n) ?_)
     refine e_one 22 (zta rfl rfl rfl rfl (.c rfl .n) ce65 (zBb (z:=yo (gx,gy) (hx,hy) (fx,fy)) (hz:=cbo)) (.n) ?_)
     refine e_pv 23 rfl rfl (zEa (z:=((yo (gx,gy) (hx,hy) (ex,ey)).sign*(yo (gx,gy) (hx,hy) (fx,fy)).sign)) rfl rfl (w64 om))<|e_pv 24 rfl rfl (zda rfl rfl)<|e_pv 25 rfl rfl (zp rfl rfl)<|e_pv 26 rfl rfl (zd rfl)<|zW kr ?_
     exact zha () tt9 ((.e rfl (congrArg Value.bool cbu) .n):SubM _ _) (ho:=((.of [0,0,0,0] rfl):PickO _ _ _)) sN
    ·
     refine e_skip 13 rfl rfl<|e_skip 14 rfl rfl<|e_skip 15 rfl rfl<|e_skip 16 rfl rfl<|e_skip 17 rfl rfl<|e_skip 18 rfl rfl<|e_skip 19 rfl rfl<|e_skip 20 rfl rfl<|e_skip 21 rfl rfl<|e_skip 22 rfl rfl<|e_skip 23 rfl rfl<|e_skip 24 rfl rfl<|e_pv 25 rfl rfl (zp rfl rfl)<|e_pv 26 rfl rfl (zd rfl)<|zW kr ?_
     exact zha () tt9 ((.e rfl (congrArg Value.bool cbu) .n):SubM _ _) (ho:=((.of [0,0,0,0] rfl):PickO _ _ _)) sN
   ·
    rintro ⟨⟩ -
    try dsimp only
    refine zL ?_
    exact zx Tryz.results92 () trivial (zl rfl) (congrArg Value.bool (by rw [Bool.eq_iff_iff,decide_eq_true_iff];show Pg.mt0 _ _ _ _∨Pg.mt1 _ _ _ _↔_;rw [or_iff_left (fun k=>hm (by unfold Pg.mt1 at k;simpa [or_assoc] using k))];simp [Pg.mt0])) (ho:=oN) sN
end Go.Proofs.YtjcpbhlijoigfaaGreat.Sp
namespace Go.Proofs.YtjcpbhlijoigfaaGreat.Sp
open Go
set_option linter.unusedVariables false
def rR:Rp (Rat×Rat):=⟨8,Wd×Wd×Wd×Wd,fun _ w=>[w.1.b,w.1.l,w.2.1.b,w.2.1.l,w.2.2.1.b,w.2.2.1.l,w.2.2.2.b,w.2.2.2.l],fun g q w=>(qF true w.1 w.2.1 q.1).on g∧(qF true w.2.2.1 w.2.2.2 q.2).on g,fun _ _ _ _ h k=>⟨(qF true _ _ _).mono _ _ h k.1,(qF true _ _ _).mono _ _ h k.2⟩,fun _ _=>rfl,fun _ _=>rfl⟩
theorem open_rR {A:Fa} {q:Rat×Rat} {w1 w2 w3 w4:Wd} {R:List Fa}:∀g,Holds g (A :: okF rR q (w1,w2,w3,w4) :: R)→Holds g (A :: qF true w1 w2 q.1 :: qF true w3 w4 q.2 :: R):=fun g ⟨h,a,r⟩=>⟨h,a.1,a.2,r⟩
section
variable {P : Program} {c : Cx} {O : List As} {R : List Fa} {α : Type} {T e : TypeId} {r : Rp α} {l : List α} {b : Nat}
end
end Go.Proofs.YtjcpbhlijoigfaaGreat.Sp
namespace Go.Proofs.YtjcpbhlijoigfaaGreat.Sp
open Go
set_option linter.unusedVariables false
set_option maxRecDepth 100000
set_option maxHeartbeats 8000000
theorem zHb {p:Option Addr} {n:Nat} {cap:Nat} {l:List Int} (hn:l.length=n):Con yh 134 [.slice p n cap] [] [slF (rI .u32) p cap l] (Y:=Unit) (fun y=>True) (fun y=> .slice p ((yk l).length) cap) (fun y=>[]) (fun y=>[slF (rI .u32) p cap (yk l)]):=by
 refine zo Tryz.func134 rfl rfl rfl (fun c=> ?_)
 show RunC _ _ _ _ _ [(0,.slice p n cap)] [] [slF (rI .u32) p cap l]
 refine zea 0 rfl (fun hL0=> ?_)
 refine zh<|za<|e_p (zd rfl)<|zi<|ze<|zh<|zE<|zra (X:=Nat) (fun x:Nat=>x≤l.length∧yk (l.take x)=yk l) (fun x=>[(0,.slice p x cap),(2,.slice none 0 0)]) (fun x=>[]) (fun x=>[slF (rI .u32) p cap (l.take x),slF (rI .u32) p cap l]) (fun x:Nat=>x) n (show n≤l.length∧yk (l.take n)=yk l from by exact ⟨by omega,by rw [List.take_of_length_le om]⟩) ((.c rfl (.c rfl .n)):SubM _ _) (ho:=oN) ((.e (j:=0) rfl (by rw [List.take_of_length_le om]) (.c (j:=0) rfl .n)):SelR _ _ _) ?_
 rintro k hI
 replace hI:k≤l.length∧yk (l.take k)=yk l:=hI
 try dsimp only
 obtain ⟨hk,hT⟩:=hI
 have hlt:(l.take k).length=k:=by rw [List.length_take];omega
 refine zh<|zGa (X:=Unit) (fun x=>True) (fun x=>[(14,.bool (decide (0<k∧l.getD (k - 1) 0=0))),(0,.slice p k cap),(2,.slice none 0 0)]) (fun x=>[]) (fun x=>[slF (rI .u32) p cap (l.take k),slF (rI .u32) p cap l]) ?_ ?_
 ·
  refine za<|e_mv rfl<|e_p (zR ye rfl)<|e_p (zDa rfl rfl)<|zZ rfl rfl (zaa rfl) (fun h1=> ?_) (fun h1=> ?_)
  ·
   refine e_mv rfl<|e_mv rfl<|e_p (zR ye rfl)<|e_p (zna (z:=(((k:Nat):Int) - 1)) rfl rfl (w64 om))<|zX (x0:=((l.take k).getD ((((k:Nat):Int) - 1).toNat) 0)) 0 ((((k:Nat):Int) - 1).toNat) rfl ye sz121 rfl rfl rfl cbs rfl om (gD (d:=0) om) (fun b2 o3 hok4=> ?_)
   replace hok4:=zI.1 hok4
   refine e_ru (zB (j:=0) 0 ty121 rfl rfl rfl rfl)<|e_p (zxa rfl rfl)<|e_p (zp rfl rfl)<|zi ?_
   exact zha () tt9 ((.e rfl (congrArg Value.bool (by rw [Big.getD_take l om];have h1:0<k:=om;have h2:((k:Int) - 1).toNat=k - 1:=om;simp [h1,h2])) (.c rfl (.c rfl .n))):SubM _ _) (ho:=oN) ((.of [1,2] rfl):SelR _ _ _)
  ·
   refine e_no<|e_no<|e_no<|e_no<|e_no<|e_no<|e_no<|e_p (zp rfl rfl)<|zi ?_
   exact zha () tt9 ((.e rfl (congrArg Value.bool (by have h1:¬0<k:=om;simp [h1])) (.c rfl (.c rfl .n))):SubM _ _) (ho:=oN) ((.of [0,1] rfl):SelR _ _ _)
 ·
  rintro ⟨⟩ -
  try dsimp only
  refine zJ rfl (fun hc=> ?_) (fun hc=> ?_)
  ·
   refine zC<|ze<|zE<|za<|e_mv rfl<|e_mv rfl<|e_p (zR ye rfl)<|e_p (zna (z:=(((k - 1):Nat):Int)) rfl rfl (w64 om))<|e_p (zzb (hi:=(k - 1)) ye sz121 rfl (.s rfl) (.inr ⟨_,rfl⟩) om)<|zCc (zgc 0 rfl (k - 1) om) (fun _ _=> ?_)
   refine e_p (zd rfl)<|zi<|zT<|zla (k - 1) (show (k - 1)≤l.length∧yk (l.take (k - 1))=yk l from by exact ⟨by omega,by rw [← hT,Big.trim_go l hc.1 hk hc.2]⟩) (by show k - 1<k;omega) ((.e rfl cgs (.c rfl .n)):SubM _ _) (ho:=oN) ((.e (j:=0) rfl (by rw [List.take_take];congr 2;omega) (.c (j:=2) rfl .n)):SelR _ _ _)
  ·
   refine zqa<|zk<|zk<|zD<|ze<|zh<|za<|e_mv rfl<|e_p (zd rfl)<|zi<|ze<|zL ?_
   have hfin:yk l=l.take k:=by rw [← hT];exact Big.trim_stop l hk hc
   exact zx Tryz.results134 () trivial (zl rfl) (by rw [hfin,hlt]) (ho:=oN) ((.e (j:=0) rfl (by rw [hfin]) .n):SelR _ _ _)
theorem zHe {p:Option Addr} {n:Nat} {cap:Nat} {l:List Int} {i:Nat} (hn:l.length=n) (hi:i≤4611686018427387904):Con yh 147 [.slice p n cap,ya yb ((i:Nat):Int)] [] [slF (rI .u32) p cap l] (Y:=Unit) (fun y=>True) (fun y=> .int .u32 (l.getD i 0)) (fun y=>[]) (fun y=>[]):=by
 refine zo Tryz.func147 rfl rfl rfl (fun c=> ?_)
 show RunC _ _ _ _ _ [(0,.slice p n cap),(1,ya yb ((i:Nat):Int))] [] [slF (rI .u32) p cap l]
 refine zea 0 rfl (fun hL0=> ?_)
 refine zh<|za<|e_p (zd rfl)<|zi<|ze<|zh<|zh<|za<|e_mv rfl<|e_mv rfl<|e_p (zR ye rfl)<|e_p (zda rfl rfl)<|zi<|ze<|zJ rfl (fun h1=> ?_) (fun h1=> ?_)
 ·
  refine zh<|za<|e_mv rfl<|e_mv rfl<|zX (x0:=(l.getD i 0)) 0 i rfl ye sz121 rfl rfl rfl cbs rfl rfl (gD (d:=0) om) (fun b2 o3 hok4=> ?_)
  replace hok4:=zI.1 hok4
  refine e_ru (zB (j:=0) 0 ty121 rfl rfl rfl rfl)<|e_p (zd rfl)<|zi<|ze<|zL<|zj ?_
  exact zx Tryz.results147 () trivial (zl rfl) rfl (ho:=oN) sN
 ·
  refine zC<|ze<|zh<|za<|e_p (zd rfl)<|zi<|ze<|zL ?_
  exact zx Tryz.results147 () trivial (zl rfl) (by rw [show l.getD i 0=0 by simp [List.getD,List.getElem?_eq_none (show l.length≤i by omega)]]) (ho:=oN) sN
theorem zWf {p1:Option Addr} {n1:Nat} {c1:Nat} {l1:List Int} {p2:Option Addr} {n2:Nat} {c2:Nat} {l2:List Int} (hn1:l1.length=n1) (hn2:l2.length=n2) (hb1:n1≤4398046511104) (hb2:n2≤4398046511104) (ho1:yp l1) (ho2:yp l2):Con yh 135 [.slice p1 n1 c1,.slice p2 n2 c2] [] [slF (rI .u32) p1 c1 l1,slF (rI .u32) p2 c2 l2] (Y:=(Option Addr)×Nat) (fun y=>True) (fun y=> .slice (y.1) ((yd (yg l1+yg l2).toNat).length) (y.2)) (fun y=>[]) (fun y=>[slF (rI .u32) (y.1) (y.2) (yd (yg l1+yg l2).toNat)]):=by
 refine zo Tryz.func135 rfl rfl rfl (fun c=> ?_)
 show RunC _ _ _ _ _ [(0,.slice p1 n1 c1),(1,.slice p2 n2 c2)] [] [slF (rI .u32) p1 c1 l1,slF (rI .u32) p2 c2 l2]
 refine zea 0 rfl (fun hL0=> ?_)
 refine zea 1 rfl (fun hL1=> ?_)
 refine zh<|za<|e_p (zd rfl)<|zi<|ze<|zh<|za<|e_mv rfl<|e_p (zR ye rfl)<|e_mv rfl<|e_p (zR ye rfl)<|e_p (v:= ya yb (((max n1 n2):Nat):Int)) (by rw [show ((((max n1 n2):Nat):Int):Int)=max ((n1:Nat):Int) ((n2:Nat):Int) by omega];exact zhf rfl rfl)<|e_p (zO (z:=((((max n1 n2)+1):Nat):Int)) rfl rfl (w64 om))<|zKa rfl rfl (zyb (r:=rI .u32) (k:=((max n1 n2)+1)) (x0:=0) (γ0:=()) ye inf121 rfl rfl rfl rfl om om rfl (fun g _=>by exact zI.2 dd) dd) (fun b1 _=> ?_)
 refine e_p (zd rfl)<|zi<|ze<|zh<|za<|e_p (zd rfl)<|zi<|ze<|zh<|zh<|za<|e_mv rfl<|e_p (zR ye rfl)<|e_mv rfl<|zi<|ze<|zE<|zra (X:=Nat×(List Int)×Int) (fun x:Nat×(List Int)×Int=>x.1≤max n1 n2+1∧x.2.1.length=x.1∧0≤x.2.2∧x.2.2≤1∧yp x.2.1∧yg x.2.1+yr x.1*x.2.2=yg (l1.take x.1)+yg (l2.take x.1)) (fun x=>[(6,.int .u32 (x.2.2)),(18,ya yb ((x.1:Nat):Int)),(17,ya yb ((((max n1 n2)+1):Nat):Int)),(5,.slice (some ⟨b1,0,none⟩) ((max n1 n2)+1) ((max n1 n2)+1)),(4,.slice none 0 0),(0,.slice p1 n1 c1),(1,.slice p2 n2 c2)]) (fun x=>[rowA 121 (rI .u32) (some ⟨b1,0,none⟩) ((max n1 n2)+1) (x.2.1++List.replicate (max n1 n2+1 - x.1) 0)]) (fun x=>[slF (rI .u32) p1 c1 l1,slF (rI .u32) p2 c2 l2]) (fun x:Nat×(List Int)×Int=>max n1 n2+1 - x.1) (0,[],0) (show 0≤max n1 n2+1∧([]).length=0∧0≤0∧0≤1∧yp ([])∧yg ([])+yr 0*0=yg (l1.take 0)+yg (l2.take 0) from by exact ⟨by omega,rfl,by decide,by decide,Big.okL_nil,by simp [yg]⟩) ((.c rfl (.e rfl cgs (.of rfl))):SubM _ _) (ho:=((.e (i:=0) rfl (by simp) .n):PickO _ _ _)) ((.of [0,1] rfl):SelR _ _ _) ?_
 rintro ⟨i,os,cy⟩ hI
 replace hI:i≤max n1 n2+1∧os.length=i∧0≤cy∧cy≤1∧yp os∧yg os+yr i*cy=yg (l1.take i)+yg (l2.take i):=hI
 try dsimp only
 obtain ⟨hi,hol,hc0,hc1,hok,hv⟩:=hI
 have hg1:=yn ho1 i
 have hg2:=yn ho2 i
 refine zh<|za<|e_p (zda rfl rfl)<|zi<|ze<|zh<|zJ rfl (fun h2=> ?_) (fun h2=> ?_)
 ·
  refine zC<|ze<|zh<|zE<|zh<|za<|e_mv rfl<|e_p (zd rfl)<|zi<|ze<|zh<|za<|e_mv rfl<|e_mv rfl<|zQ rfl rfl (.c rfl (.c rfl .n)) ce147 (zHe (p:=p1) (n:=n1) (cap:=c1) (l:=l1) (i:=i) (hn:=ass) (hi:=cbb)) (.c (j:=0) rfl .n)<|e_mv rfl<|e_mv rfl<|zQ rfl rfl (.c rfl (.c rfl .n)) ce147 (zHe (p:=p2) (n:=n2) (cap:=c2) (l:=l2) (i:=i) (hn:=ass) (hi:=cbb)) (.c (j:=1) rfl .n)<|e_p (zO (z:=(l1.getD i 0+l2.getD i 0)) rfl rfl (wu32 om))<|e_mv rfl<|e_p (zO (z:=((l1.getD i 0+l2.getD i 0)+cy)) rfl rfl (wu32 om))<|e_p (zd rfl)<|zi<|ze<|zh<|za<|e_p (zd rfl)<|zi<|ze<|zh<|zh<|za<|e_mv rfl<|e_p (zNa rfl rfl)<|zi<|ze<|zJ rfl (fun hc=> ?_) (fun hc=> ?_)
  ·
   refine za<|e_mv rfl<|e_p (zna (z:=(((l1.getD i 0+l2.getD i 0)+cy) - 1000000000)) rfl rfl (wu32 om))<|e_p (zd rfl)<|e_p (zd rfl)<|zi<|ze<|za<|e_mv rfl<|e_mv rfl<|e_mv rfl<|e_p (zoa (j:=i) ye sz121 rfl rfl rfl om)<|zQa 0 rfl rfl rfl (zia (j:=i) (x0:=(((l1.getD i 0+l2.getD i 0)+cy) - 1000000000)) (γ0:=()) rfl rfl (by first|omega|(rw [List.length_map];omega)|(simp only [List.length_set];omega)|(simp;done)|(simp;omega)) rfl rfl sz121 (fun _ _=>by exact zI.2 om)) (fun _=> .z) (fun _ _=> ?_)
   refine zi<|zT<|ze<|za<|e_p (zO (z:=(((i+1):Nat):Int)) rfl rfl (w64 om))<|e_mv rfl<|zi<|zla ((i+1),os++[l1.getD i 0+l2.getD i 0+cy - 1000000000],1) (show (i+1)≤max n1 n2+1∧(os++[l1.getD i 0+l2.getD i 0+cy - 1000000000]).length=(i+1)∧0≤1∧1≤1∧yp (os++[l1.getD i 0+l2.getD i 0+cy - 1000000000])∧yg (os++[l1.getD i 0+l2.getD i 0+cy - 1000000000])+yr (i+1)*1=yg (l1.take (i+1))+yg (l2.take (i+1)) from by exact ⟨by omega,by simp [hol],by decide,by decide,yA hok om om,Big.plus_step hol hv om⟩) (by show max n1 n2+1 - (i+1)<max n1 n2+1 - i;omega) (mR rfl) (ho:=((.e (i:=0) rfl (by rw [Big.set_pad hol om]) .n):PickO _ _ _)) ((.of [0,1] rfl):SelR _ _ _)
  ·
   refine zC<|ze<|za<|e_mv rfl<|e_mv rfl<|e_mv rfl<|e_p (zoa (j:=i) ye sz121 rfl rfl rfl om)<|zQa 0 rfl rfl rfl (zia (j:=i) (x0:=((l1.getD i 0+l2.getD i 0)+cy)) (γ0:=()) rfl rfl (by first|omega|(rw [List.length_map];omega)|(simp only [List.length_set];omega)|(simp;done)|(simp;omega)) rfl rfl sz121 (fun _ _=>by exact zI.2 om)) (fun _=> .z) (fun _ _=> ?_)
   refine zi<|zT<|ze<|za<|e_p (zO (z:=(((i+1):Nat):Int)) rfl rfl (w64 om))<|e_mv rfl<|zi<|zla ((i+1),os++[l1.getD i 0+l2.getD i 0+cy],0) (show (i+1)≤max n1 n2+1∧(os++[l1.getD i 0+l2.getD i 0+cy]).length=(i+1)∧0≤0∧0≤1∧yp (os++[l1.getD i 0+l2.getD i 0+cy])∧yg (os++[l1.getD i 0+l2.getD i 0+cy])+yr (i+1)*0=yg (l1.take (i+1))+yg (l2.take (i+1)) from by exact ⟨by omega,by simp [hol],by decide,by decide,yA hok om om,Big.plus_step hol hv om⟩) (by show max n1 n2+1 - (i+1)<max n1 n2+1 - i;omega) (mR rfl) (ho:=((.e (i:=0) rfl (by rw [Big.set_pad hol om]) .n):PickO _ _ _)) ((.of [0,1] rfl):SelR _ _ _)
 ·
  have e3:os++List.replicate (max n1 n2+1 - i) 0=os:=by rw [show max n1 n2+1 - i=0 by omega];simp
  rw [e3]
  have hfin:=Big.plus_fin ho1 ho2 hok hc0 hol om hv
  have htr:yk os=yd (yg l1+yg l2).toNat:=by rw [Big.digs_valL hok,hfin]
  refine zqa<|zk<|zk<|zD<|ze<|zh<|za<|e_mv rfl<|zka 0 rfl .z<|zG rfl rfl (.c rfl .n) ce134 (zHb (p:=some ⟨b1,0,none⟩) (n:=((max n1 n2)+1)) (cap:=((max n1 n2)+1)) (l:=os) (hn:=cbb)) (.c (j:=0) rfl .n) ?_
  rintro ⟨⟩ -
  dsimp only [aq,nq,cq]
  refine e_p (zd rfl)<|zi<|ze<|zL ?_
  exact zx Tryz.results135 ((some ⟨b1,0,none⟩),((max n1 n2)+1)) trivial (zl rfl) (by rw [htr]) (ho:=oN) ((.e (j:=0) rfl (by rw [htr]) .n):SelR _ _ _)
theorem zMd {a:Nat} {b:Nat} {p1:Option Addr} {c1:Nat} {p2:Option Addr} {c2:Nat} (hb1:(yd (a)).length≤4398046511104) (hb2:(yd (b)).length≤4398046511104):Con yh 135 [.slice (p1) ((yd (a)).length) (c1),.slice (p2) ((yd (b)).length) (c2)] [] [slF (rI .u32) (p1) (c1) (yd (a)),slF (rI .u32) (p2) (c2) (yd (b))] (Y:=(Option Addr)×(Nat)) (fun y=>True) (fun y=> .slice (y.1) ((yd (a+b)).length) (y.2)) (fun y=>[]) (fun y=>[slF (rI .u32) (y.1) (y.2) (yd (a+b))]):=by
  have h:= @zWf p1 (yd a).length c1 (yd a) p2 (yd b).length c2 (yd b) rfl rfl hb1 hb2 (yq a) (yq b)
  rw [yu,yu,show ((a:Int)+(b:Int)).toNat=a+b by omega] at h
  exact h
theorem zmc {x:Int}:Con yh 156 [ya yb x] [] [] (Y:=Unit) (fun y=>True) (fun y=> .bool false) (fun y=>[]) (fun y=>[]):=by
 refine zo Tryz.func156 rfl rfl rfl (fun c=> ?_)
 show RunC _ _ _ _ _ [(0,ya yb x)] [] []
 refine zh<|za<|e_p (zd rfl)<|zi<|ze<|zh<|za<|e_mv rfl<|e_mv rfl<|e_p (zXa rfl rfl)<|e_p (zd rfl)<|zi<|ze<|zL ?_
 exact zx Tryz.results156 () trivial (zl rfl) (by simp) (ho:=oN) sN
theorem znc {x:Int}:Con yh 158 [.int .u32 x] [] [] (Y:=Unit) (fun y=>True) (fun y=> .bool false) (fun y=>[]) (fun y=>[]):=by
 refine zo Tryz.func158 rfl rfl rfl (fun c=> ?_)
 show RunC _ _ _ _ _ [(0,.int .u32 x)] [] []
 refine zh<|za<|e_p (zd rfl)<|zi<|ze<|zh<|za<|e_mv rfl<|e_mv rfl<|e_p (zXa rfl rfl)<|e_p (zd rfl)<|zi<|ze<|zL ?_
 exact zx Tryz.results158 () trivial (zl rfl) (by simp) (ho:=oN) sN
theorem zUc {u:Int} {v:Int}:Con yh 148 [ya yb u,ya yb v] [] [] (Y:=Unit) (fun y=>True) (fun y=> ya yb (yB u v)) (fun y=>[]) (fun y=>[]):=by
 refine zo Tryz.func148 rfl rfl rfl (fun c=> ?_)
 show RunC _ _ _ _ _ [(0,ya yb u),(1,ya yb v)] [] []
 refine zh<|za<|e_p (zd rfl)<|zi<|ze<|zh<|za<|e_mv rfl<|zQ rfl rfl (.c rfl .n) ce156 (zmc (x:=u)) (.n)<|e_p (zd rfl)<|zi<|ze<|zh<|za<|e_mv rfl<|zQ rfl rfl (.c rfl .n) ce156 (zmc (x:=v)) (.n)<|e_p (zd rfl)<|zi<|ze<|zh<|zh<|za<|e_mv rfl<|zi<|ze<|zbb rfl rfl<|zC<|ze<|zh<|zh<|za<|e_mv rfl<|zi<|ze<|zbb rfl rfl<|zC<|ze<|zh<|zh<|za<|e_mv rfl<|e_mv rfl<|e_p (zda rfl rfl)<|zi<|ze<|zJ rfl (fun h1=> ?_) (fun h1=> ?_)
 ·
  refine zh<|za<|e_p (zd rfl)<|zi<|ze<|zL<|zj ?_
  exact zx Tryz.results148 () trivial (zl rfl) (by rw [Big.cmp_lt om]) (ho:=oN) sN
 ·
  refine zC<|ze<|zh<|zh<|za<|e_mv rfl<|e_mv rfl<|e_p (zDa rfl rfl)<|zi<|ze<|zJ rfl (fun h2=> ?_) (fun h2=> ?_)
  ·
   refine zh<|za<|e_p (zd rfl)<|zi<|ze<|zL<|zj ?_
   exact zx Tryz.results148 () trivial (zl rfl) (by rw [Big.cmp_gt om]) (ho:=oN) sN
  ·
   refine zC<|ze<|zh<|za<|e_p (zd rfl)<|zi<|ze<|zL ?_
   exact zx Tryz.results148 () trivial (zl rfl) (by rw [show yB u v=0 by simp [yB];omega]) (ho:=oN) sN
theorem zje {u:Int} {v:Int}:Con yh 150 [.int .u32 u,.int .u32 v] [] [] (Y:=Unit) (fun y=>True) (fun y=> ya yb (yB u v)) (fun y=>[]) (fun y=>[]):=by
 refine zo Tryz.func150 rfl rfl rfl (fun c=> ?_)
 show RunC _ _ _ _ _ [(0,.int .u32 u),(1,.int .u32 v)] [] []
 refine zh<|za<|e_p (zd rfl)<|zi<|ze<|zh<|za<|e_mv rfl<|zQ rfl rfl (.c rfl .n) ce158 (znc (x:=u)) (.n)<|e_p (zd rfl)<|zi<|ze<|zh<|za<|e_mv rfl<|zQ rfl rfl (.c rfl .n) ce158 (znc (x:=v)) (.n)<|e_p (zd rfl)<|zi<|ze<|zh<|zh<|za<|e_mv rfl<|zi<|ze<|zbb rfl rfl<|zC<|ze<|zh<|zh<|za<|e_mv rfl<|zi<|ze<|zbb rfl rfl<|zC<|ze<|zh<|zh<|za<|e_mv rfl<|e_mv rfl<|e_p (zda rfl rfl)<|zi<|ze<|zJ rfl (fun h1=> ?_) (fun h1=> ?_)
 ·
  refine zh<|za<|e_p (zd rfl)<|zi<|ze<|zL<|zj ?_
  exact zx Tryz.results150 () trivial (zl rfl) (by rw [Big.cmp_lt om]) (ho:=oN) sN
 ·
  refine zC<|ze<|zh<|zh<|za<|e_mv rfl<|e_mv rfl<|e_p (zDa rfl rfl)<|zi<|ze<|zJ rfl (fun h2=> ?_) (fun h2=> ?_)
  ·
   refine zh<|za<|e_p (zd rfl)<|zi<|ze<|zL<|zj ?_
   exact zx Tryz.results150 () trivial (zl rfl) (by rw [Big.cmp_gt om]) (ho:=oN) sN
  ·
   refine zC<|ze<|zh<|za<|e_p (zd rfl)<|zi<|ze<|zL ?_
   exact zx Tryz.results150 () trivial (zl rfl) (by rw [show yB u v=0 by simp [yB];omega]) (ho:=oN) sN
theorem back_u32 {b:Nat} {p:Option Addr} {n cap:Nat} {l:List Int} (hn:l.length=n):Back yh 157 [yc (some ⟨b,0,none⟩)] [atF b 0 [.slice p n cap],slF (rI .u32) p cap l] n (fun k=>[ya yb ((k:Nat):Int),.int .u32 (l.getD k 0)]):=by
  refine back_intro Tryz.func157 rfl rfl rfl (fun l0 c X Y φ ψ OO RR OS RS H x0 hx0=> ?_)
  show RunC _ _ _ _ _ [(0,.func (.yield l0) #[] #[]),(1,yc (some ⟨b,0,none⟩))] (OO x0) (atF b 0 [.slice p n cap] :: slF (rI .u32) p cap l :: RR x0)
  refine zea 1 rfl (fun hL=> ?_)
  refine zh<|za<|e_ru (zB (j:=0) 0 ty39 rfl rfl rfl rfl)<|e_p (zR ye rfl)<|e_p (zna (z:=(((n:Nat):Int) - 1)) rfl rfl (w64 om))<|e_p (zd rfl)<|zi<|ze<|zE<|zff (X:=X×Nat) (fun z=>φ z.1 z.2∧z.2≤n) (fun z=>[(3,ya yb (((z.2:Nat):Int) - 1)),(1,yc (some ⟨b,0,none⟩)),(0,.func (.yield l0) #[] #[])]) (fun z=>OO z.1) (fun z=>atF b 0 [.slice p n cap] :: slF (rI .u32) p cap l :: RR z.1) (fun z=>z.2) (x0,n) ⟨hx0,Nat.le_refl _⟩ (.c rfl (.c rfl (.c rfl .n)):SubM _ _) (fun w m=>m) ?_
  rintro ⟨x,k⟩ ⟨hx,hk⟩
  dsimp only at hx hk
  try dsimp only
  refine zh<|zh<|za<|e_mv rfl<|e_p (zNa rfl rfl)<|zi<|ze<|zJ rfl (fun h=> ?_) (fun h=> ?_)
  · refine zC ?_
    refine ze ?_
    obtain ⟨j,rfl⟩:∃j,k=j+1:=⟨k - 1,by omega⟩
    rw [show (((j+1:Nat):Int) - 1)=(j:Int) by omega]
    refine zh<|zE<|zh<|za<|e_mv rfl<|e_mv rfl<|e_ru (zB (j:=0) 0 ty39 rfl rfl rfl rfl)<|e_mv rfl<|zX (x0:=l.getD j 0) 1 j rfl ye sz121 rfl rfl rfl hn rfl rfl (gD (d:=0) om) (fun b2 o3 hok=> ?_)
    refine e_ru (zB (j:=0) 0 ty121 rfl rfl rfl rfl)<|zmg (X:=X) (Y:=Y) (φ:=fun x'=>φ x' j) (ψ:=ψ) (OO:=OO) (RR:=fun x'=>[atF b 0 [.slice p n cap],slF (rI .u32) p cap l]++RR x') (OS:=OS) (RS:=RS) (vs:=[ya yb ((j:Nat):Int),.int .u32 (l.getD j 0)]) rfl rfl rfl (.c rfl (.c rfl .n)) (fun w m=>H x j w om hx (m.weaken fun h g s r a=>⟨h,g,s,r.2,Hp.le_refl _,Hp.le_refl _,a,fun _ _ e=> .inl e⟩)) (fun x' hx'=> ?_) (fun y hy=> ?_)
    · refine e_p (zOb rfl) ?_
      refine zi<|ze<|zbb rfl rfl<|zC<|zT<|ze<|za<|e_mv rfl<|e_p (zna (z:=((j:Int) - 1)) rfl rfl (w64 om))<|e_p (zd rfl)<|zi ?_
      exact zlg (x',j) ⟨hx',by show j≤n;omega⟩ (by show j<j+1;omega) (.c rfl (.c rfl (.c rfl .n)):SubM _ _) (fun w m=>m)
    · refine e_p (zOb rfl) ?_
      refine zi<|ze<|zub rfl rfl<|zL<|zy<|zj<|zj<|zy ?_
      exact zce rfl y hy (fun w m=>m)
  · have hk0 : k = 0 := by omega
    subst hk0
    refine zqa<|zk<|zk<|zD<|p_endI ?_
    exact zbe rfl x hx (fun w m=>m)
theorem zTb {p:Option Addr} {n:Nat} {cap:Nat}:Con yh 149 [.slice p n cap] [] [] (Y:=Nat) (fun y=>True) (fun y=> .func (.func 157) #[] #[yc (some ⟨y,0,none⟩)]) (fun y=>[]) (fun y=>[atF y 0 [.slice p n cap]]):=by
 refine zo Tryz.func149 rfl rfl rfl (fun c=> ?_)
 show RunC _ _ _ _ _ [(0,.slice p n cap)] [] []
 refine zh<|za<|zP rfl rfl (zS rfl rfl) (fun b1=> ?_)
 refine e_p (zd rfl)<|zi<|ze<|zh<|za<|e_p (zcb .n (.c rfl .n))<|e_p (zd rfl)<|zi<|ze<|zL<|zjf 0 rfl .z ?_
 exact zx Tryz.results149 b1 trivial (zl rfl) rfl (ho:=oN) (s0 rfl)
theorem zbc {a:Nat} {b:Nat} {p1:Option Addr} {c1:Nat} {p2:Option Addr} {c2:Nat}:Con yh 136 [.slice p1 ((yd a).length) c1,.slice p2 ((yd b).length) c2] [] [slF (rI .u32) p1 c1 (yd a),slF (rI .u32) p2 c2 (yd b)] (Y:=Unit) (fun y=>True) (fun y=> ya yb (yB (a:Int) (b:Int))) (fun y=>[]) (fun y=>[]):=by
 refine zuc Tryz.func136 rfl rfl rfl (fun c=> ?_)
 show RunC _ _ _ _ _ [(0,.slice p1 ((yd a).length) c1),(1,.slice p2 ((yd b).length) c2)] [] [slF (rI .u32) p1 c1 (yd a),slF (rI .u32) p2 c2 (yd b)]
 refine zea 0 rfl (fun hL0=> ?_)
 refine zea 1 rfl (fun hL1=> ?_)
 refine zh<|za<|zP rfl rfl (zS rfl rfl) (fun b1=> ?_)
 refine zP rfl rfl (zn zr3 rfl) (fun b2=> ?_)
 refine zi<|ze<|zh<|zh<|za<|e_mv rfl<|e_p (zR ye rfl)<|e_ru (zg 1 ty39 rfl rfl rfl)<|e_p (zR ye rfl)<|e_p (zXa rfl rfl)<|zi<|ze<|zJ rfl (fun hlen=> ?_) (fun hlen=> ?_)
 ·
  refine zh<|za<|e_mv rfl<|e_p (zR ye rfl)<|e_ru (zg 1 ty39 rfl rfl rfl)<|e_p (zR ye rfl)<|zQ rfl rfl (.c rfl (.c rfl .n)) ce148 (zUc (u:=(((yd a).length:Nat):Int)) (v:=(((yd b).length:Nat):Int))) (.n)<|zm 0 rfl rfl rfl rfl rfl sz3 rfl (.take .nil) .z<|zi<|ze<|zL<|zj<|zkf ?_
  exact zx Tryz.results136 () trivial (zFb 0 ty3 rfl rfl rfl) (by rw [Big.cmp_len om]) (ho:=oN) sN
 ·
  replace hlen:(yd a).length=(yd b).length:=by omega
  refine zC<|ze<|zh<|zh<|za<|e_mv rfl<|zG rfl rfl (.c rfl .n) ce149 (zTb (p:=p1) (n:=(yd a).length) (cap:=c1)) (.n) ?_
  rintro b3 -
  dsimp only [aq,nq,cq]
  refine zi<|ze<|zE<|zfe (fa:=[atF b3 0 [.slice p1 ((yd a).length) c1],slF (rI .u32) p1 c1 (yd a)]) (N:=((yd a).length)) (encs:=fun k=>[ya yb ((k:Nat):Int),.int .u32 ((yd a).getD k 0)]) rfl ce157 (back_u32 cbs) (fun _=>rfl) rfl (X:=Unit) (Y:=Unit) (fun x k=>k≤(yd a).length∧(yd a).drop k=(yd b).drop k) (fun y=>True) (fun x=>[boxA b2 3 [ya yb 0],boxA b1 39 [.slice p2 ((yd b).length) c2]]) (fun x=>[slF (rI .u32) p2 c2 (yd b)]) (fun y=>[boxA b2 3 [ya yb (yB (a:Int) (b:Int))],boxA b1 39 [.slice p2 ((yd b).length) c2]]) (fun y=>[atF b3 0 [.slice p1 ((yd a).length) c1],slF (rI .u32) p1 c1 (yd a),slF (rI .u32) p2 c2 (yd b)]) (fun k=>[(6,.int .u32 ((yd a).getD k 0)),(5,ya yb ((k:Nat):Int)),(20,.int .u32 ((yd a).getD k 0)),(19,ya yb ((k:Nat):Int)),(18,.func (.func 157) #[] #[yc (some ⟨b3,0,none⟩)]),(17,.slice p1 ((yd a).length) c1),(11,.bool (decide ((((yd a).length:Nat):Int)≠(((yd b).length:Nat):Int)))),(10,ya yb (((yd b).length:Nat):Int)),(9,.slice p2 ((yd b).length) c2),(8,ya yb (((yd a).length:Nat):Int)),(7,.slice p1 ((yd a).length) c1),(4,yc (some ⟨b2,0,none⟩)),(3,yc (some ⟨b1,0,none⟩)),(0,.slice p1 ((yd a).length) c1),(1,.slice p2 ((yd b).length) c2)]) () (show ((yd a).length)≤(yd a).length∧(yd a).drop ((yd a).length)=(yd b).drop ((yd a).length) from by exact ⟨Nat.le_refl _,by rw [List.drop_length,hlen,List.drop_length]⟩) (ho:=((.of [0,0] rfl):PickO _ _ _)) ((.of [0,1,2] rfl):SelR _ _ _) ?_ ?_ ?_ ?_
  ·
   intro l k O' R' Q' hP
   refine zh<|za<|e_p (zd rfl)<|zi<|ze<|za<|e_p (zd rfl)<|zi ?_
   exact hP
  ·
   rintro l4 D5 o6 o7 ⟨⟩ k hkN hI
   replace hI:(k+1)≤(yd a).length∧(yd a).drop (k+1)=(yd b).drop (k+1):=hI
   try dsimp only
   have hg1:=yn (yq a) k
   have hg2:=yn (yq b) k
   refine zE<|zh<|za<|e_mv rfl<|e_ru (zg 3 ty39 rfl rfl rfl)<|e_mv rfl<|zX (x0:=((yd b).getD k 0)) 2 k rfl ye sz121 rfl rfl rfl cbs rfl rfl (gD (d:=0) om) (fun b8 o9 hok10=> ?_)
   replace hok10:=zI.1 hok10
   refine e_ru (zB (j:=0) 0 ty121 rfl rfl rfl rfl)<|e_p (zXa rfl rfl)<|zi<|ze<|zJ rfl (fun hne=> ?_) (fun hne=> ?_)
   ·
    refine zh<|za<|e_mv rfl<|e_ru (zg 3 ty39 rfl rfl rfl)<|e_mv rfl<|zX (x0:=((yd b).getD k 0)) 3 k rfl ye sz121 rfl rfl rfl cbs rfl rfl (gD (d:=0) om) (fun b11 o12 hok13=> ?_)
    replace hok13:=zI.1 hok13
    refine e_ru (zB (j:=0) 0 ty121 rfl rfl rfl rfl)<|zQ rfl rfl (.c rfl (.c rfl .n)) ce150 (zje (u:=((yd a).getD k 0)) (v:=((yd b).getD k 0))) (.n)<|zm 2 rfl rfl rfl rfl rfl sz3 rfl (.take .nil) (.s (.s .z))<|zi<|ze<|zL<|zy ?_
    exact zee () (show True from by first|trivial|omega) (ho:=((.c (i:=0) rfl (.c (i:=0) rfl (.e (i:=0) rfl (by rw [Big.cmp_at hlen om hI.2 hne]) (.c (i:=0) rfl .n)))):PickO _ _ _)) ((.of [2,3,4] rfl):SelR _ _ _)
   ·
    refine zC<|zT ?_
    exact zde () (show k≤(yd a).length∧(yd a).drop k=(yd b).drop k from by exact ⟨by omega,Big.drop_more om om hI.2 (Decidable.not_not.1 hne)⟩) (ho:=((.of [0,0,0,0] rfl):PickO _ _ _)) ((.of [1,2,3] rfl):SelR _ _ _)
  ·
   rintro D14 ⟨⟩ hI
   replace hI:0≤(yd a).length∧(yd a).drop 0=(yd b).drop 0:=hI
   try dsimp only
   have heq:(yd a)=(yd b):=by simpa using hI.2
   have hab:=Big.cmp_eq heq
   refine zT<|ze<|zh<|za<|zm 1 rfl rfl rfl rfl rfl sz3 rfl (.take .nil) (.s .z)<|zi<|ze<|zL<|zEe 0 rfl rfl ?_
   exact zx Tryz.results136 () trivial (zFb 0 ty3 rfl rfl rfl) (by rw [hab];simp [yB]) (ho:=oN) sN
  ·
   rintro D15 ⟨⟩ hS
   replace hS:True:=hS
   try dsimp only
   refine zy<|zj<|zEe 0 rfl rfl ?_
   exact zx Tryz.results136 () trivial (zFb 0 ty3 rfl rfl rfl) rfl (ho:=oN) sN
theorem zUe {g:Int}:Con yh 152 [.int .u32 g] [] [] (Y:=Unit) (fun y=>True) (fun y=> .bool (decide (1000000000≤g))) (fun y=>[]) (fun y=>[]):=by
 refine zo Tryz.func152 rfl rfl rfl (fun c=> ?_)
 show RunC _ _ _ _ _ [(0,.int .u32 g)] [] []
 refine zh<|za<|e_p (zd rfl)<|zi<|ze<|zh<|za<|e_mv rfl<|e_p (zNa rfl rfl)<|e_p (zd rfl)<|zi<|ze<|zL ?_
 exact zx Tryz.results152 () trivial (zl rfl) rfl (ho:=oN) sN
theorem zhd {p:Option Addr} {n:Nat} {cap:Nat} {l:List Int} (hn:l.length=n):Con yh 159 [.slice p n cap,.func (.func 152) #[] #[]] [] [slF (rI .u32) p cap l] (Y:=Int) (fun y=>(0≤y↔∃g∈l,1000000000≤g)) (fun y=> ya yb y) (fun y=>[]) (fun y=>[]):=by
 refine zo Tryz.func159 rfl rfl rfl (fun c=> ?_)
 show RunC _ _ _ _ _ [(0,.slice p n cap),(1,.func (.func 152) #[] #[])] [] [slF (rI .u32) p cap l]
 refine zea 0 rfl (fun hL0=> ?_)
 refine zh<|za<|e_p (zd rfl)<|zi<|ze<|zh<|zh<|za<|e_mv rfl<|e_p (zR ye rfl)<|e_mv rfl<|zi<|ze<|zE<|zra (X:=Nat) (fun x:Nat=>x≤n∧∀j,j<x→l.getD j 0<1000000000) (fun x=>[(8,ya yb ((x:Nat):Int)),(7,ya yb ((n:Nat):Int)),(0,.slice p n cap),(1,.func (.func 152) #[] #[])]) (fun x=>[]) (fun x=>[slF (rI .u32) p cap l]) (fun x:Nat=>n - x) 0 (show 0≤n∧∀j,j<0→l.getD j 0<1000000000 from by exact ⟨by omega,fun j h=>by omega⟩) ((.e rfl cgs (.of rfl)):SubM _ _) (ho:=oN) (s0 rfl) ?_
 rintro i hI
 replace hI:i≤n∧∀j,j<i→l.getD j 0<1000000000:=hI
 try dsimp only
 obtain ⟨hi,hall⟩:=hI
 refine zh<|za<|e_p (zda rfl rfl)<|zi<|ze<|zh<|zJ rfl (fun h1=> ?_) (fun h1=> ?_)
 ·
  refine zC<|ze<|zh<|zE<|zh<|za<|e_mv rfl<|e_p (zd rfl)<|zi<|ze<|zh<|za<|e_mv rfl<|e_mv rfl<|e_mv rfl<|zX (x0:=(l.getD i 0)) 0 i rfl ye sz121 rfl rfl rfl cbs rfl rfl (gD (d:=0) om) (fun b2 o3 hok4=> ?_)
  replace hok4:=zI.1 hok4
  refine e_ru (zB (j:=0) 0 ty121 rfl rfl rfl rfl)<|zFc (first:=[]) (cap:=[]) rfl rfl rfl (.c rfl .n) ce152 (zUe (g:=(l.getD i 0))) (.n) ?_
  rintro ⟨⟩ -
  dsimp only [aq,nq,cq]
  refine zi<|ze<|zJ rfl (fun hb=> ?_) (fun hb=> ?_)
  ·
   refine zh<|za<|e_mv rfl<|e_p (zd rfl)<|zi<|ze<|zL<|zy<|zj<|zj<|zy<|zj ?_
   exact zx Tryz.results159 ((i:Nat):Int) (⟨fun _=>⟨l.getD i 0,Big.getD_mem om,hb⟩,fun _=>by omega⟩) (zl rfl) rfl (ho:=oN) sN
  ·
   refine zC<|zT<|ze<|za<|e_p (zO (z:=(((i+1):Nat):Int)) rfl rfl (w64 om))<|e_mv rfl<|zi<|zla (i+1) (show (i+1)≤n∧∀j,j<(i+1)→l.getD j 0<1000000000 from by refine ⟨by omega,fun j hj=> ?_⟩;by_cases e:j=i;subst e;omega;exact hall j om) (by show n - (i+1)<n - i;omega) (mR rfl) (ho:=oN) ((.c (j:=1) rfl .n):SelR _ _ _)
 ·
  refine zqa<|zk<|zk<|zD<|ze<|zh<|za<|e_p (zd rfl)<|zi<|ze<|zL ?_
  exact zx Tryz.results159 (-1) (⟨fun h=>by omega,fun ⟨g,hg,hb⟩=>by obtain ⟨j,hj,e⟩:=Big.mem_getD hg;have:=hall j om;omega⟩) (zl rfl) rfl (ho:=oN) sN
theorem zwc {p:Option Addr} {n:Nat} {cap:Nat} {l:List Int} (hn:l.length=n):Con yh 151 [.slice p n cap,.func (.func 152) #[] #[]] [] [slF (rI .u32) p cap l] (Y:=Unit) (fun y=>True) (fun y=> .bool (decide (∃g∈l,1000000000≤g))) (fun y=>[]) (fun y=>[]):=by
 refine zo Tryz.func151 rfl rfl rfl (fun c=> ?_)
 show RunC _ _ _ _ _ [(0,.slice p n cap),(1,.func (.func 152) #[] #[])] [] [slF (rI .u32) p cap l]
 refine zea 0 rfl (fun hL0=> ?_)
 refine zh<|za<|e_p (zd rfl)<|zi<|ze<|zh<|za<|e_mv rfl<|e_mv rfl<|zG rfl rfl (.c rfl (.c rfl .n)) ce159 (zhd (p:=p) (n:=n) (cap:=cap) (l:=l) (hn:=ass)) (.c (j:=0) rfl .n) ?_
 rintro r1 hr
 dsimp only [aq,nq,cq]
 replace hr:(0≤r1↔∃g∈l,1000000000≤g):=hr
 refine e_p (zNa rfl rfl)<|e_p (zd rfl)<|zi<|ze<|zL ?_
 exact zx Tryz.results151 () trivial (zl rfl) (congrArg Value.bool (decide_eq_decide.2 hr.symm)) (ho:=oN) sN
theorem zVc {s:Bool} {p:Option Addr} {n:Nat} {cap:Nat} {l:List Int} (hn:l.length=n):Con yh 138 [.agg #[.bool s,.slice p n cap]] [] [slF (rI .u32) p cap l] (Y:=Unit) (fun y=>True) (fun y=> .bool (decide (Big.canon s l))) (fun y=>[]) (fun y=>[]):=by
 refine zo Tryz.func138 rfl rfl rfl (fun c=> ?_)
 show RunC _ _ _ _ _ [(0,.agg #[.bool s,.slice p n cap])] [] [slF (rI .u32) p cap l]
 refine zea 0 rfl (fun hL0=> ?_)
 refine zh<|za<|zP rfl rfl (zS rfl rfl) (fun b1=> ?_)
 refine e_p (zd rfl)<|zi<|ze<|zh<|za<|e_p (zf yl rfl sz39 rfl rfl)<|e_ru (zg 0 ty39 rfl rfl rfl)<|e_p (zR ye rfl)<|e_p (zd rfl)<|zi<|ze<|zh<|zh<|za<|e_mv rfl<|e_p (zxa rfl rfl)<|zi<|ze<|zJ rfl (fun h0=> ?_) (fun h0=> ?_)
 ·
  refine zh<|za<|e_p (zf yl rfl sz4 rfl rfl)<|e_ru (zg 0 ty4 rfl rfl rfl)<|e_p (zOb rfl)<|e_p (zd rfl)<|zi<|ze<|zL<|zj ?_
  exact zx Tryz.results138 () trivial (zl rfl) (congrArg Value.bool (by have:l.length=0:=om;cases s <;> simp [Big.canon,this])) (ho:=oN) sN
 ·
  refine zC<|ze<|zGa (X:=Unit) (fun x=>True) (fun x=>[(2,.bool (decide (((l.getD ((((n:Nat):Int) - 1).toNat) 0)≠0)∧(¬(∃g∈l,1000000000≤g)))))]) (fun x=>[boxA b1 41 [.bool s,.slice p n cap]]) (fun x=>[slF (rI .u32) p cap l]) ?_ ?_
  ·
   refine za<|e_p (zf yl rfl sz39 rfl rfl)<|e_ru (zg 0 ty39 rfl rfl rfl)<|e_mv rfl<|e_p (zna (z:=(((n:Nat):Int) - 1)) rfl rfl (w64 om))<|zX (x0:=(l.getD ((((n:Nat):Int) - 1).toNat) 0)) 0 ((((n:Nat):Int) - 1).toNat) rfl ye sz121 rfl rfl rfl cbs rfl om (gD (d:=0) om) (fun b2 o3 hok4=> ?_)
   replace hok4:=zI.1 hok4
   refine e_ru (zB (j:=0) 0 ty121 rfl rfl rfl rfl)<|e_p (zXa rfl rfl)<|zZ rfl rfl (zaa rfl) (fun h5=> ?_) (fun h5=> ?_)
   ·
    refine e_p (zf yl rfl sz39 rfl rfl)<|e_ru (zg 0 ty39 rfl rfl rfl)<|zQ rfl rfl (.c rfl (.c rfl .n)) ce151 (zwc (p:=p) (n:=n) (cap:=cap) (l:=l) (hn:=ass)) (.c (j:=1) rfl .n)<|e_p (zgb rfl)<|e_p (zp rfl rfl)<|e_p (zd rfl)<|zi ?_
    exact zha () tt9 ((.e rfl (congrArg Value.bool (by simp_all)) .n):SubM _ _) (ho:=(o0 rfl)) ((.c (j:=1) rfl .n):SelR _ _ _)
   ·
    refine e_no<|e_no<|e_no<|e_no<|e_p (zp rfl rfl)<|e_p (zd rfl)<|zi ?_
    exact zha () tt9 ((.e rfl (congrArg Value.bool (by simp_all)) .n):SubM _ _) (ho:=(o0 rfl)) ((.c (j:=1) rfl .n):SelR _ _ _)
  ·
   rintro ⟨⟩ -
   try dsimp only
   refine zL ?_
   exact zx Tryz.results138 () trivial (zl rfl) (congrArg Value.bool (decide_eq_decide.2 (by rw [Big.canon_more om,hn];have e:((n:Int) - 1).toNat=n - 1:=om;simp [e]))) (ho:=oN) sN
theorem zUa {s:Bool} {p:Option Addr} {n:Nat} {cap:Nat} {l:List Int} (hn:l.length=n):Con yh 117 [.agg #[.bool s,.slice p n cap]] [] [slF (rI .u32) p cap l] (Y:=(Option Addr)×Nat) (fun y=>True) (fun y=> .slice (y.1) ((yd ((ym s l).natAbs)).length) (y.2)) (fun y=>[]) (fun y=>[slF (rI .u32) (y.1) (y.2) (yd ((ym s l).natAbs))]):=by
 refine zo Tryz.func117 rfl rfl rfl (fun c=> ?_)
 show RunC _ _ _ _ _ [(0,.agg #[.bool s,.slice p n cap])] [] [slF (rI .u32) p cap l]
 refine zea 0 rfl (fun hL0=> ?_)
 refine zZa 0 rfl (fun hE0=> ?_)
 have hnn:Big.nn l:=fun g hg=>(zI.1 (hE0 g hg)).1
 refine zh<|za<|zP rfl rfl (zS rfl rfl) (fun b1=> ?_)
 refine e_p (zd rfl)<|zi<|ze<|zh<|zh<|za<|e_ru (zb 0 ty41 rfl rfl (.t2 .nil))<|zQ rfl rfl (.c rfl .n) ce138 (zVc (s:=s) (p:=p) (n:=n) (cap:=cap) (l:=l) (hn:=ass)) (.c (j:=0) rfl .n)<|e_p (zgb rfl)<|zi<|ze<|zJ rfl (fun hc=> ?_) (fun hc=> ?_)
 ·
  refine zh<|za<|e_p (zd rfl)<|zi<|ze<|zL<|zj ?_
  have hd:yd (ym s l).natAbs=[]:=by rw [Big.raw_digs hnn,if_neg hc]
  refine zGd (rI .u32) ?_
  exact zx Tryz.results117 (none,0) trivial (zl rfl) (by rw [hd];rfl) (ho:=oN) ((.e (j:=0) rfl (by rw [hd]) .n):SelR _ _ _)
 ·
  refine zC<|ze<|zh<|za<|e_p (zf yl rfl sz39 rfl rfl)<|e_ru (zg 0 ty39 rfl rfl rfl)<|e_p (zd rfl)<|zi<|ze<|zL ?_
  have hd:yd (ym s l).natAbs=l:=by rw [Big.raw_digs hnn,if_pos (Decidable.not_not.1 hc)]
  exact zx Tryz.results117 (p,cap) trivial (zl rfl) (by rw [hd,hn]) (ho:=oN) ((.e (j:=0) rfl (by rw [hd]) .n):SelR _ _ _)
theorem zIb {z:Int} {p:Option Addr} {cap:Nat}:Con yh 117 [.agg #[.bool (decide ((z)<0)),.slice (p) ((yd ((z).natAbs)).length) (cap)]] [] [slF (rI .u32) (p) (cap) (yd ((z).natAbs))] (Y:=(Option Addr)×(Nat)) (fun y=>True) (fun y=> .slice (y.1) ((yd ((z).natAbs)).length) (y.2)) (fun y=>[]) (fun y=>[slF (rI .u32) (y.1) (y.2) (yd ((z).natAbs))]):=by
  have h:= @zUa (decide ((z)<0)) p (yd (z).natAbs).length cap (yd (z).natAbs) rfl
  rw [yv] at h
  exact h
theorem zXf {s:Bool} {p:Option Addr} {n:Nat} {cap:Nat} {l:List Int} (hn:l.length=n) (ho:yp l):Con yh 114 [.bool s,.slice p n cap] [] [slF (rI .u32) p cap l] (Y:=(Option Addr)×Nat) (fun y=>True) (fun y=> .agg #[.bool (decide ((yt s (yg l))<0)),.slice (y.1) ((yd ((yt s (yg l)).natAbs)).length) (y.2)]) (fun y=>[]) (fun y=>[slF (rI .u32) (y.1) (y.2) (yd ((yt s (yg l)).natAbs))]):=by
 refine zo Tryz.func114 rfl rfl rfl (fun c=> ?_)
 show RunC _ _ _ _ _ [(0,.bool s),(1,.slice p n cap)] [] [slF (rI .u32) p cap l]
 refine zea 0 rfl (fun hL0=> ?_)
 have htr:yk l=yd (yt s (yg l)).natAbs:=by rw [Big.sg_abs (Big.valL_nonneg ho),Big.digs_valL ho]
 refine zh<|za<|zP rfl rfl (zn zr41 rfl) (fun b1=> ?_)
 refine zi<|ze<|zh<|za<|e_mv rfl<|zG rfl rfl (.c rfl .n) ce134 (zHb (p:=p) (n:=n) (cap:=cap) (l:=l) (hn:=ass)) (.c (j:=0) rfl .n) ?_
 rintro ⟨⟩ -
 dsimp only [aq,nq,cq]
 refine e_p (zd rfl)<|zi<|ze<|zh<|zh<|za<|e_mv rfl<|e_p (zR ye rfl)<|e_p (zxa rfl rfl)<|zi<|ze<|zJ rfl (fun h0=> ?_) (fun h0=> ?_)
 ·
  refine zh<|za<|e_p (zK zr41 rfl yl (.c sz4 (.c sz39 .n)) .n .n)<|zm 0 rfl rfl rfl rfl rfl sz41 rfl (.t2 .nil) .z<|zi<|ze<|zL<|zj ?_
  have hz:yg l=0:=Big.trim_zero ho om
  refine zGd (rI .u32) ?_
  exact zx Tryz.results114 (none,0) trivial (zv 0 ty41 rfl rfl (.t2 .nil)) (by rw [hz,Big.sg_zero];rfl) (ho:=oN) ((.e (j:=0) rfl (by rw [hz,Big.sg_zero];rfl) .n):SelR _ _ _)
 ·
  refine zC<|ze<|zh<|za<|e_mv rfl<|e_mv rfl<|e_p (zK zr41 rfl yl (.c sz4 (.c sz39 .n)) (.c rfl (.c rfl .n)) (.c rfl rfl rfl (.take .nil) (.c rfl rfl rfl (.skip (.take .nil)) .n)))<|zm 0 rfl rfl rfl rfl rfl sz41 rfl (.t2 .nil) .z<|zi<|ze<|zL ?_
  have hp:0<yg l:=Big.valL_pos ho (fun e=>h0 (by rw [e];rfl))
  exact zx Tryz.results114 (p,cap) trivial (zv 0 ty41 rfl rfl (.t2 .nil)) (by rw [Big.sg_pos hp,htr]) (ho:=oN) ((.e (j:=0) rfl (by rw [htr]) .n):SelR _ _ _)
theorem zHa {s:Bool} {a:Nat} {p:Option Addr} {cap:Nat}:Con yh 114 [.bool (s),.slice (p) ((yd (a)).length) (cap)] [] [slF (rI .u32) (p) (cap) (yd (a))] (Y:=(Option Addr)×(Nat)) (fun y=>True) (fun y=> .agg #[.bool (decide ((yt s (a:Int))<0)),.slice (y.1) ((yd ((yt s (a:Int)).natAbs)).length) (y.2)]) (fun y=>[]) (fun y=>[slF (rI .u32) (y.1) (y.2) (yd ((yt s (a:Int)).natAbs))]):=by
  have h:= @zXf s p (yd a).length cap (yd a) rfl (yq a)
  rw [yu] at h
  exact h
theorem zCb {n0:Nat} (hn0:n0<18446744073709551616):Con yh 115 [.int .u64 ((n0:Nat):Int)] [] [] (Y:=(Option Addr)×Nat) (fun y=>True) (fun y=> .slice (y.1) ((yd n0).length) (y.2)) (fun y=>[]) (fun y=>[slF (rI .u32) (y.1) (y.2) (yd n0)]):=by
 refine zo Tryz.func115 rfl rfl rfl (fun c=> ?_)
 show RunC _ _ _ _ _ [(0,.int .u64 ((n0:Nat):Int))] [] []
 refine zh<|za<|e_p (zd rfl)<|zi<|ze<|zh<|za<|e_p (zd rfl)<|zi<|ze<|zh<|zE<|zqb 121 (rI .u32)<|zra (X:=Nat×(Option Addr)×Nat×(List Int)) (fun x:Nat×(Option Addr)×Nat×(List Int)=>x.1≤n0∧x.2.2.2++yd x.1=yd n0) (fun x=>[(3,.slice (x.2.1) (x.2.2.2.length) (x.2.2.1)),(0,.int .u64 ((x.1:Nat):Int)),(2,.slice none 0 0)]) (fun x=>[rowA 121 (rI .u32) (x.2.1) (x.2.2.1) (x.2.2.2)]) (fun x=>[]) (fun x:Nat×(Option Addr)×Nat×(List Int)=>x.1) (n0,none,0,[]) (show n0≤n0∧([])++yd n0=yd n0 from by exact ⟨Nat.le_refl _,rfl⟩) ((.e rfl cgs (.c rfl (.c rfl .n))):SubM _ _) (ho:=(o0 rfl)) sN ?_
 rintro ⟨n,p,c,os⟩ hI
 replace hI:n≤n0∧os++yd n=yd n0:=hI
 try dsimp only
 obtain ⟨hnn,hos⟩:=hI
 have hlen:os.length+(yd n).length≤3:=by have:=congrArg List.length hos;rw [List.length_append] at this;have:=Big.ztf hn0;omega
 refine zh<|zh<|za<|e_mv rfl<|e_p (zDa rfl rfl)<|zi<|ze<|zJ rfl (fun hc=> ?_) (fun hc=> ?_)
 ·
  refine zC<|ze<|zh<|zE<|za<|e_mv rfl<|e_mv rfl<|e_p (zza (z:=(((n%1000000000):Nat):Int)) rfl rfl om (remN om om))<|e_p (zN (z:=(((n%1000000000):Nat):Int)) rfl (by rw [yi];rfl) yj (wu32 om))<|zKa rfl rfl (zba (enc:=fun z:Int=>[.int .u32 z]) (ok:=InK .u32) (h1:=fun _=>rfl) (h2:=fun _=>rfl) (k:=1) ye inf121 rfl dd dd dd (.c (x:=(((n%1000000000):Nat):Int)) rfl rfl (fun _ _=>by exact zI.2 om) .n)) (fun b1 _=> ?_)
  refine zka 0 rfl .z<|zQa 1 rfl rfl rfl (zua 0 rfl ye inf121 dd rfl rfl cbs rfl cbs om om) (fun _=>(.s .z)) ?_
  rintro ⟨p2,c3⟩ -
  dsimp only [aq,nq,cq]
  refine e_p (zd rfl)<|zi<|zT<|ze<|za<|e_mv rfl<|e_p (zmb (z:=(((n / 1000000000):Nat):Int)) rfl rfl om (by rw [quoN (z:=(((n / 1000000000):Nat):Int)) om om];exact wu64 om))<|e_p (zd rfl)<|zi<|zla ((n / 1000000000),p2,c3,os++[((n%1000000000:Nat):Int)]) (show (n / 1000000000)≤n0∧(os++[((n%1000000000:Nat):Int)])++yd (n / 1000000000)=yd n0 from by exact ⟨by omega,Big.split_step om hos⟩) (by show n / 1000000000<n;omega) ((.e rfl (by simp) (.c rfl (.c rfl .n))):SubM _ _) (ho:=((.e (i:=1) rfl cgs .n):PickO _ _ _)) sN
 ·
  refine zqa<|zk<|zk<|zD<|ze<|zh<|za<|e_mv rfl<|e_p (zd rfl)<|zi<|ze<|zL ?_
  have hz:n=0:=by omega
  subst hz
  have hd:os=yd n0:=by simpa [Big.digs_zero] using hos
  refine zVb 0 rfl .z ?_
  exact zx Tryz.results115 (p,c) trivial (zl rfl) (by rw [hd]) (ho:=oN) ((.e (j:=0) rfl (by rw [hd]) .n):SelR _ _ _)
theorem zkg {z:Int} (hz: -9223372036854775808≤z∧z≤9223372036854775807):Con yh 84 [ya yb z] [] [] (Y:=(Option Addr)×Nat) (fun y=>True) (fun y=> .agg #[.bool (decide (z<0)),.slice (y.1) ((yd ((z).natAbs)).length) (y.2)]) (fun y=>[]) (fun y=>[slF (rI .u32) (y.1) (y.2) (yd ((z).natAbs))]):=by
 refine zo Tryz.func84 rfl rfl rfl (fun c=> ?_)
 show RunC _ _ _ _ _ [(0,ya yb z)] [] []
 refine zh<|za<|zP rfl rfl (zn zr41 rfl) (fun b1=> ?_)
 refine zi<|ze<|zh<|za<|e_mv rfl<|e_p (zN (z:=(z%18446744073709551616)) rfl (by rw [Tryz.underlying3];rfl) yi (wu64m om))<|e_p (zd rfl)<|zi<|ze<|zh<|zh<|za<|e_mv rfl<|e_p (zda rfl rfl)<|zi<|ze<|zJ rfl (fun hs=> ?_) (fun hs=> ?_)
 ·
  refine za<|e_mv rfl<|e_p (zDd (z:=((z.natAbs:Nat):Int)) rfl (wu64m om))<|e_p (zd rfl)<|zi<|ze<|zh<|za<|e_mv rfl<|e_p (zda rfl rfl)<|e_mv rfl<|zG rfl rfl (.c rfl .n) ce115 (zCb (n0:=z.natAbs) (hn0:=om)) (.n) ?_
  rintro ⟨p22,c23⟩ -
  dsimp only [aq,nq,cq]
  refine zG rfl rfl (.c rfl (.c rfl .n)) ce114 (zHa (s:=decide (z<0)) (a:=z.natAbs) (p:=p22) (cap:=c23)) (.c (j:=0) rfl .n) ?_
  rintro ⟨p24,c25⟩ -
  dsimp only [aq,nq,cq]
  refine zm 0 rfl rfl rfl rfl rfl sz41 rfl (.t2 .nil) .z<|zi<|ze<|zL ?_
  have hsg:yt (decide (z<0)) (z.natAbs:Int)=z:=Big.sg_big z
  exact zx Tryz.results84 (p24,c25) trivial (zv 0 ty41 rfl rfl (.t2 .nil)) (by rw [hsg]) (ho:=oN) ((.e (j:=0) rfl (by rw [hsg]) .n):SelR _ _ _)
 ·
  have e6:((z%18446744073709551616):Int)=((z.natAbs:Nat):Int):=by omega
  rw [e6]
  refine zC<|ze<|zh<|za<|e_mv rfl<|e_p (zda rfl rfl)<|e_mv rfl<|zG rfl rfl (.c rfl .n) ce115 (zCb (n0:=z.natAbs) (hn0:=om)) (.n) ?_
  rintro ⟨p27,c28⟩ -
  dsimp only [aq,nq,cq]
  refine zG rfl rfl (.c rfl (.c rfl .n)) ce114 (zHa (s:=decide (z<0)) (a:=z.natAbs) (p:=p27) (cap:=c28)) (.c (j:=0) rfl .n) ?_
  rintro ⟨p29,c210⟩ -
  dsimp only [aq,nq,cq]
  refine zm 0 rfl rfl rfl rfl rfl sz41 rfl (.t2 .nil) .z<|zi<|ze<|zL ?_
  have hsg:yt (decide (z<0)) (z.natAbs:Int)=z:=Big.sg_big z
  exact zx Tryz.results84 (p29,c210) trivial (zv 0 ty41 rfl rfl (.t2 .nil)) (by rw [hsg]) (ho:=oN) ((.e (j:=0) rfl (by rw [hsg]) .n):SelR _ _ _)
theorem zCf {z:Int} (hz: -9223372036854775808≤z∧z≤9223372036854775807):Con yh 84 [ya yb (z)] [] [] (Y:=(Wd)) (fun y=>True) (fun y=> .agg #[y.b,y.l]) (fun y=>[]) (fun y=>[zF y (z)]):=by
  exact zZb (zkg hz)
theorem zWc {a:Nat} {b:Nat} {p1:Option Addr} {c1:Nat} {p2:Option Addr} {c2:Nat} (hb1:(yd a).length≤4398046511104) (hb2:(yd b).length≤4398046511104) (hab:b≤a):Con yh 137 [.slice p1 ((yd a).length) c1,.slice p2 ((yd b).length) c2] [] [slF (rI .u32) p1 c1 (yd a),slF (rI .u32) p2 c2 (yd b)] (Y:=(Option Addr)×Nat) (fun y=>True) (fun y=> .slice (y.1) ((yd (a - b)).length) (y.2)) (fun y=>[]) (fun y=>[slF (rI .u32) (y.1) (y.2) (yd (a - b))]):=by
 refine zo Tryz.func137 rfl rfl rfl (fun c=> ?_)
 show RunC _ _ _ _ _ [(0,.slice p1 ((yd a).length) c1),(1,.slice p2 ((yd b).length) c2)] [] [slF (rI .u32) p1 c1 (yd a),slF (rI .u32) p2 c2 (yd b)]
 refine zea 0 rfl (fun hL0=> ?_)
 refine zea 1 rfl (fun hL1=> ?_)
 refine zh<|za<|e_p (zd rfl)<|zi<|ze<|zh<|za<|e_mv rfl<|e_p (zR ye rfl)<|zKa rfl rfl (zyb (r:=rI .u32) (k:=(yd a).length) (x0:=0) (γ0:=()) ye inf121 rfl rfl rfl rfl om om rfl (fun g _=>by exact zI.2 dd) dd) (fun b1 _=> ?_)
 refine e_p (zd rfl)<|zi<|ze<|zh<|za<|e_p (zd rfl)<|zi<|ze<|zh<|zh<|za<|e_mv rfl<|e_p (zR ye rfl)<|e_mv rfl<|zi<|ze<|zE<|zra (X:=Nat×(List Int)×Int) (fun x:Nat×(List Int)×Int=>x.1≤(yd a).length∧x.2.1.length=x.1∧0≤x.2.2∧x.2.2≤1∧yp x.2.1∧yg x.2.1+yg ((yd b).take x.1)=yg ((yd a).take x.1)+yr x.1*x.2.2) (fun x=>[(6,.int .u32 (x.2.2)),(14,ya yb ((x.1:Nat):Int)),(13,ya yb (((yd a).length:Nat):Int)),(5,.slice (some ⟨b1,0,none⟩) ((yd a).length) ((yd a).length)),(4,.slice none 0 0),(0,.slice p1 ((yd a).length) c1),(1,.slice p2 ((yd b).length) c2)]) (fun x=>[rowA 121 (rI .u32) (some ⟨b1,0,none⟩) ((yd a).length) (x.2.1++List.replicate ((yd a).length - x.1) 0)]) (fun x=>[slF (rI .u32) p1 c1 (yd a),slF (rI .u32) p2 c2 (yd b)]) (fun x:Nat×(List Int)×Int=>(yd a).length - x.1) (0,[],0) (show 0≤(yd a).length∧([]).length=0∧0≤0∧0≤1∧yp ([])∧yg ([])+yg ((yd b).take 0)=yg ((yd a).take 0)+yr 0*0 from by exact ⟨by omega,rfl,by decide,by decide,Big.okL_nil,by simp [yg]⟩) ((.c rfl (.e rfl cgs (.of rfl))):SubM _ _) (ho:=((.e (i:=0) rfl (by simp) .n):PickO _ _ _)) ((.of [0,1] rfl):SelR _ _ _) ?_
 rintro ⟨i,os,bo⟩ hI
 replace hI:i≤(yd a).length∧os.length=i∧0≤bo∧bo≤1∧yp os∧yg os+yg ((yd b).take i)=yg ((yd a).take i)+yr i*bo:=hI
 try dsimp only
 obtain ⟨hi,hol,hc0,hc1,hok,hv⟩:=hI
 have hg1:=yn (yq a) i
 have hg2:=yn (yq b) i
 refine zh<|za<|e_p (zda rfl rfl)<|zi<|ze<|zh<|zJ rfl (fun h2=> ?_) (fun h2=> ?_)
 ·
  refine zC<|ze<|zh<|zE<|zh<|za<|e_mv rfl<|e_p (zd rfl)<|zi<|ze<|zh<|za<|e_mv rfl<|e_mv rfl<|zQ rfl rfl (.c rfl (.c rfl .n)) ce147 (zHe (p:=p2) (n:=(yd b).length) (cap:=c2) (l:=yd b) (i:=i) (hn:=cbb) (hi:=cbb)) (.c (j:=1) rfl .n)<|e_mv rfl<|e_p (zO (z:=((yd b).getD i 0+bo)) rfl rfl (wu32 om))<|e_p (zd rfl)<|zi<|ze<|zh<|za<|e_p (zd rfl)<|zi<|ze<|zh<|za<|e_mv rfl<|e_mv rfl<|zX (x0:=((yd a).getD i 0)) 0 i rfl ye sz121 rfl rfl rfl (by first|rfl|assumption|(simp;omega)) rfl rfl (gD (d:=0) om) (fun b3 o4 hok5=> ?_)
  replace hok5:=zI.1 hok5
  refine e_ru (zB (j:=0) 0 ty121 rfl rfl rfl rfl)<|e_mv rfl<|e_p (zda rfl rfl)<|zi<|ze<|zJ rfl (fun hc=> ?_) (fun hc=> ?_)
  ·
   refine za<|e_mv rfl<|e_mv rfl<|e_mv rfl<|e_mv rfl<|zX (x0:=((yd a).getD i 0)) 1 i rfl ye sz121 rfl rfl rfl (by first|rfl|assumption|(simp;omega)) rfl rfl (gD (d:=0) om) (fun b6 o7 hok8=> ?_)
   replace hok8:=zI.1 hok8
   refine e_ru (zB (j:=0) 0 ty121 rfl rfl rfl rfl)<|e_p (zO (z:=(((yd a).getD i 0)+1000000000)) rfl rfl (wu32 om))<|e_mv rfl<|e_p (zna (z:=((((yd a).getD i 0)+1000000000) - ((yd b).getD i 0+bo))) rfl rfl (wu32 om))<|e_p (zoa (j:=i) ye sz121 rfl rfl rfl om)<|zQa 0 rfl rfl rfl (zia (j:=i) (x0:=((((yd a).getD i 0)+1000000000) - ((yd b).getD i 0+bo))) (γ0:=()) rfl rfl (by first|omega|(rw [List.length_map];omega)|(simp only [List.length_set];omega)|(simp;done)|(simp;omega)) rfl rfl sz121 (fun _ _=>by exact zI.2 om)) (fun _=> .z) (fun _ _=> ?_)
   refine e_p (zd rfl)<|zi<|zT<|ze<|za<|e_p (zO (z:=(((i+1):Nat):Int)) rfl rfl (w64 om))<|e_mv rfl<|zi<|zla ((i+1),os++[(yd a).getD i 0+1000000000 - ((yd b).getD i 0+bo)],1) (show (i+1)≤(yd a).length∧(os++[(yd a).getD i 0+1000000000 - ((yd b).getD i 0+bo)]).length=(i+1)∧0≤1∧1≤1∧yp (os++[(yd a).getD i 0+1000000000 - ((yd b).getD i 0+bo)])∧yg (os++[(yd a).getD i 0+1000000000 - ((yd b).getD i 0+bo)])+yg ((yd b).take (i+1))=yg ((yd a).take (i+1))+yr (i+1)*1 from by exact ⟨by omega,by simp [hol],by decide,by decide,yA hok om om,Big.minus_step hol hv om⟩) (by show (yd a).length - (i+1)<(yd a).length - i;omega) (mR rfl) (ho:=((.e (i:=0) rfl (by rw [Big.set_pad hol om]) .n):PickO _ _ _)) ((.of [2,3] rfl):SelR _ _ _)
  ·
   refine za<|e_mv rfl<|e_mv rfl<|e_mv rfl<|e_mv rfl<|zX (x0:=((yd a).getD i 0)) 1 i rfl ye sz121 rfl rfl rfl (by first|rfl|assumption|(simp;omega)) rfl rfl (gD (d:=0) om) (fun b9 o10 hok11=> ?_)
   replace hok11:=zI.1 hok11
   refine e_ru (zB (j:=0) 0 ty121 rfl rfl rfl rfl)<|e_mv rfl<|e_p (zna (z:=(((yd a).getD i 0) - ((yd b).getD i 0+bo))) rfl rfl (wu32 om))<|e_p (zoa (j:=i) ye sz121 rfl rfl rfl om)<|zQa 0 rfl rfl rfl (zia (j:=i) (x0:=(((yd a).getD i 0) - ((yd b).getD i 0+bo))) (γ0:=()) rfl rfl (by first|omega|(rw [List.length_map];omega)|(simp only [List.length_set];omega)|(simp;done)|(simp;omega)) rfl rfl sz121 (fun _ _=>by exact zI.2 om)) (fun _=> .z) (fun _ _=> ?_)
   refine zi<|zT<|ze<|za<|e_p (zO (z:=(((i+1):Nat):Int)) rfl rfl (w64 om))<|e_mv rfl<|zi<|zla ((i+1),os++[(yd a).getD i 0 - ((yd b).getD i 0+bo)],0) (show (i+1)≤(yd a).length∧(os++[(yd a).getD i 0 - ((yd b).getD i 0+bo)]).length=(i+1)∧0≤0∧0≤1∧yp (os++[(yd a).getD i 0 - ((yd b).getD i 0+bo)])∧yg (os++[(yd a).getD i 0 - ((yd b).getD i 0+bo)])+yg ((yd b).take (i+1))=yg ((yd a).take (i+1))+yr (i+1)*0 from by exact ⟨by omega,by simp [hol],by decide,by decide,yA hok om om,Big.minus_step hol hv om⟩) (by show (yd a).length - (i+1)<(yd a).length - i;omega) (mR rfl) (ho:=((.e (i:=0) rfl (by rw [Big.set_pad hol om]) .n):PickO _ _ _)) ((.of [2,3] rfl):SelR _ _ _)
 ·
  have e12:os++List.replicate ((yd a).length - i) 0=os:=by rw [show (yd a).length - i=0 by omega];simp
  rw [e12]
  have htr:yk os=yd (a - b):=Big.minus_fin hab hok hc0 hol om hv
  refine zqa<|zk<|zk<|zD<|ze<|zh<|za<|e_mv rfl<|zka 0 rfl .z<|zG rfl rfl (.c rfl .n) ce134 (zHb (p:=some ⟨b1,0,none⟩) (n:=(yd a).length) (cap:=(yd a).length) (l:=os) (hn:=cbb)) (.c (j:=0) rfl .n) ?_
  rintro ⟨⟩ -
  dsimp only [aq,nq,cq]
  refine e_p (zd rfl)<|zi<|ze<|zL ?_
  exact zx Tryz.results137 ((some ⟨b1,0,none⟩),((yd a).length)) trivial (zl rfl) (by rw [htr]) (ho:=oN) ((.e (j:=0) rfl (by rw [htr]) .n):SelR _ _ _)
theorem ztg {s:Bool} {t:Bool} {a:Nat} {b:Nat} {p1:Option Addr} {c1:Nat} {p2:Option Addr} {c2:Nat} (hb1:(yd a).length≤4398046511104) (hb2:(yd b).length≤4398046511104):Con yh 116 [.bool s,.slice p1 ((yd a).length) c1,.bool t,.slice p2 ((yd b).length) c2] [] [slF (rI .u32) p1 c1 (yd a),slF (rI .u32) p2 c2 (yd b)] (Y:=(Option Addr)×Nat) (fun y=>True) (fun y=> .agg #[.bool (decide ((yt s (a:Int)+yt t (b:Int))<0)),.slice (y.1) ((yd ((yt s (a:Int)+yt t (b:Int)).natAbs)).length) (y.2)]) (fun y=>[]) (fun y=>[slF (rI .u32) (y.1) (y.2) (yd ((yt s (a:Int)+yt t (b:Int)).natAbs))]):=by
 refine zo Tryz.func116 rfl rfl rfl (fun c=> ?_)
 show RunC _ _ _ _ _ [(0,.bool s),(1,.slice p1 ((yd a).length) c1),(2,.bool t),(3,.slice p2 ((yd b).length) c2)] [] [slF (rI .u32) p1 c1 (yd a),slF (rI .u32) p2 c2 (yd b)]
 refine zea 0 rfl (fun hL0=> ?_)
 refine zea 1 rfl (fun hL1=> ?_)
 refine zh<|za<|zP rfl rfl (zn zr41 rfl) (fun b1=> ?_)
 refine zi<|ze<|zh<|zE<|zh<|za<|e_mv rfl<|e_mv rfl<|e_p (zOc Tryz.underlying4 rfl rfl)<|e_p (zd rfl)<|zi<|ze<|zJ rfl (fun hst=> ?_) (fun hst=> ?_)
 ·
  refine zh<|za<|e_mv rfl<|e_mv rfl<|e_mv rfl<|zG rfl rfl (.c rfl (.c rfl .n)) ce135 (zMd (a:=a) (b:=b) (p1:=p1) (c1:=c1) (p2:=p2) (c2:=c2) (hb1:=ass) (hb2:=ass)) (.c (j:=0) rfl (.c (j:=1) rfl .n)) ?_
  rintro ⟨p32,c33⟩ -
  dsimp only [aq,nq,cq]
  refine zG rfl rfl (.c rfl (.c rfl .n)) ce114 (zHa (s:=s) (a:=a+b) (p:=p32) (cap:=c33)) (.c (j:=0) rfl .n) ?_
  rintro ⟨p24,c25⟩ -
  dsimp only [aq,nq,cq]
  refine zm 0 rfl rfl rfl rfl rfl sz41 rfl (.t2 .nil) .z<|zi<|ze<|zL<|zy<|zj ?_
  have hz:yt s ((a+b:Nat):Int)=yt s (a:Int)+yt t (b:Int):=by rw [← hst];unfold yt;split <;> omega
  exact zx Tryz.results116 (p24,c25) trivial (zv 0 ty41 rfl rfl (.t2 .nil)) (by rw [hz]) (ho:=oN) ((.e (j:=0) rfl (by rw [hz]) .n):SelR _ _ _)
 ·
  refine zh<|za<|e_mv rfl<|e_mv rfl<|zQ rfl rfl (.c rfl (.c rfl .n)) ce136 (zbc (a:=a) (b:=b) (p1:=p1) (c1:=c1) (p2:=p2) (c2:=c2)) (.c (j:=0) rfl (.c (j:=1) rfl .n))<|e_p (zNa rfl rfl)<|e_p (zd rfl)<|zi<|ze<|zJ rfl (fun hcmp=> ?_) (fun hcmp=> ?_)
  ·
   have hab:b≤a:=by have:=Big.cmp_ge.1 hcmp;omega
   refine zh<|za<|e_mv rfl<|e_mv rfl<|e_mv rfl<|zG rfl rfl (.c rfl (.c rfl .n)) ce137 (zWc (a:=a) (b:=b) (p1:=p1) (c1:=c1) (p2:=p2) (c2:=c2) (hb1:=ass) (hb2:=ass) (hab:=cbb)) (.c (j:=0) rfl (.c (j:=1) rfl .n)) ?_
   rintro ⟨p36,c37⟩ -
   dsimp only [aq,nq,cq]
   refine zG rfl rfl (.c rfl (.c rfl .n)) ce114 (zHa (s:=s) (a:=a - b) (p:=p36) (cap:=c37)) (.c (j:=0) rfl .n) ?_
   rintro ⟨p28,c29⟩ -
   dsimp only [aq,nq,cq]
   refine zm 0 rfl rfl rfl rfl rfl sz41 rfl (.t2 .nil) .z<|zi<|ze<|zL<|zy<|zj ?_
   have hz:yt s ((a - b:Nat):Int)=yt s (a:Int)+yt t (b:Int):=by revert hst;unfold yt;cases s <;> cases t <;> simp <;> omega
   exact zx Tryz.results116 (p28,c29) trivial (zv 0 ty41 rfl rfl (.t2 .nil)) (by rw [hz]) (ho:=oN) ((.e (j:=0) rfl (by rw [hz]) .n):SelR _ _ _)
  ·
   have hab:a≤b:=by have:¬(b:Int)≤a:=fun h=>hcmp (Big.cmp_ge.2 h);omega
   refine zC<|zT<|ze<|zh<|za<|e_mv rfl<|e_mv rfl<|e_mv rfl<|zG rfl rfl (.c rfl (.c rfl .n)) ce137 (zWc (a:=b) (b:=a) (p1:=p2) (c1:=c2) (p2:=p1) (c2:=c1) (hb1:=ass) (hb2:=ass) (hab:=cbb)) (.c (j:=1) rfl (.c (j:=0) rfl .n)) ?_
   rintro ⟨p310,c311⟩ -
   dsimp only [aq,nq,cq]
   refine zG rfl rfl (.c rfl (.c rfl .n)) ce114 (zHa (s:=t) (a:=b - a) (p:=p310) (cap:=c311)) (.c (j:=0) rfl .n) ?_
   rintro ⟨p212,c213⟩ -
   dsimp only [aq,nq,cq]
   refine zm 0 rfl rfl rfl rfl rfl sz41 rfl (.t2 .nil) .z<|zi<|ze<|zL ?_
   have hz:yt t ((b - a:Nat):Int)=yt s (a:Int)+yt t (b:Int):=by revert hst;unfold yt;cases s <;> cases t <;> simp <;> omega
   exact zx Tryz.results116 (p212,c213) trivial (zv 0 ty41 rfl rfl (.t2 .nil)) (by rw [hz]) (ho:=oN) ((.e (j:=0) rfl (by rw [hz]) .n):SelR _ _ _)
theorem zNd {a:Nat} {b:Nat} {p1:Option Addr} {c1:Nat} {p2:Option Addr} {c2:Nat} (hb1:(yd a).length≤4398046511104) (hb2:(yd b).length≤4398046511104):Con yh 118 [.slice p1 ((yd a).length) c1,.slice p2 ((yd b).length) c2] [] [slF (rI .u32) p1 c1 (yd a),slF (rI .u32) p2 c2 (yd b)] (Y:=(Option Addr)×Nat) (fun y=>True) (fun y=> .slice (y.1) ((yd (a*b)).length) (y.2)) (fun y=>[]) (fun y=>[slF (rI .u32) (y.1) (y.2) (yd (a*b))]):=by
 refine zo Tryz.func118 rfl rfl rfl (fun c=> ?_)
 show RunC _ _ _ _ _ [(0,.slice p1 ((yd a).length) c1),(1,.slice p2 ((yd b).length) c2)] [] [slF (rI .u32) p1 c1 (yd a),slF (rI .u32) p2 c2 (yd b)]
 refine zea 0 rfl (fun hL0=> ?_)
 refine zea 1 rfl (fun hL1=> ?_)
 have hoa:=yq a
 have hob:=yq b
 refine zh<|za<|e_p (zd rfl)<|zi<|ze<|zh<|za<|e_mv rfl<|e_p (zR ye rfl)<|e_mv rfl<|e_p (zR ye rfl)<|e_p (zO (z:=(((((yd a).length)+((yd b).length)):Nat):Int)) rfl rfl (w64 om))<|zKa rfl rfl (zyb (r:=rI .u32) (k:=(((yd a).length)+((yd b).length))) (x0:=0) (γ0:=()) ye inf121 rfl rfl rfl rfl om om rfl (fun g _=>by exact zI.2 dd) dd) (fun b1 _=> ?_)
 refine e_p (zd rfl)<|zi<|ze<|zh<|zh<|za<|e_mv rfl<|e_p (zR ye rfl)<|e_mv rfl<|zi<|ze<|zE<|zra (X:=Nat×(List Int)) (fun x:Nat×(List Int)=>x.1≤(yd a).length∧x.2.length=(yd a).length+(yd b).length∧yp x.2∧(∀k,x.1+(yd b).length≤k→x.2.getD k 0=0)∧yg x.2=yg ((yd a).take x.1)*yg (yd b)) (fun x=>[(20,ya yb ((x.1:Nat):Int)),(19,ya yb (((yd a).length:Nat):Int)),(18,.slice p1 ((yd a).length) c1),(5,.slice (some ⟨b1,0,none⟩) (((yd a).length)+((yd b).length)) (((yd a).length)+((yd b).length))),(4,.slice none 0 0),(1,.slice p2 ((yd b).length) c2)]) (fun x=>[rowA 121 (rI .u32) (some ⟨b1,0,none⟩) (((yd a).length)+((yd b).length)) (x.2)]) (fun x=>[slF (rI .u32) p1 c1 (yd a),slF (rI .u32) p2 c2 (yd b)]) (fun x:Nat×(List Int)=>(yd a).length - x.1) (0,List.replicate ((yd a).length+(yd b).length) 0) (show 0≤(yd a).length∧(List.replicate ((yd a).length+(yd b).length) 0).length=(yd a).length+(yd b).length∧yp (List.replicate ((yd a).length+(yd b).length) 0)∧(∀k,0+(yd b).length≤k→(List.replicate ((yd a).length+(yd b).length) 0).getD k 0=0)∧yg (List.replicate ((yd a).length+(yd b).length) 0)=yg ((yd a).take 0)*yg (yd b) from by exact ⟨by omega,by simp,Big.okL_zeros _,fun k _=>Big.getD_zeros _ k,by simp [Big.valL_zeros,yg]⟩) ((.e rfl cgs (.of rfl)):SubM _ _) (ho:=((.e (i:=0) rfl cgs .n):PickO _ _ _)) ((.of [0,1] rfl):SelR _ _ _) ?_
 rintro ⟨i,os⟩ hI
 replace hI:i≤(yd a).length∧os.length=(yd a).length+(yd b).length∧yp os∧(∀k,i+(yd b).length≤k→os.getD k 0=0)∧yg os=yg ((yd a).take i)*yg (yd b):=hI
 try dsimp only
 obtain ⟨hi,hol,hok,hz,hv⟩:=hI
 have hg1:=yn hoa i
 refine zh<|za<|e_p (zda rfl rfl)<|zi<|ze<|zh<|zJ rfl (fun h2=> ?_) (fun h2=> ?_)
 ·
  refine zC<|ze<|zh<|zE<|zh<|za<|e_mv rfl<|zX (x0:=((yd a).getD i 0)) 0 i rfl ye sz121 rfl rfl rfl (by first|rfl|assumption|(simp;omega)|omega) rfl rfl (gD (d:=0) om) (fun b3 o4 hok5=> ?_)
  replace hok5:=zI.1 hok5
  refine e_ru (zB (j:=0) 0 ty121 rfl rfl rfl rfl)<|e_p (zd rfl)<|e_p (zd rfl)<|zi<|ze<|zh<|za<|e_p (zd rfl)<|zi<|ze<|zh<|zh<|za<|e_mv rfl<|e_p (zR ye rfl)<|e_mv rfl<|zi<|ze<|zE<|zra (X:=Nat×(List Int)×Int) (fun x:Nat×(List Int)×Int=>x.1≤(yd b).length∧x.2.1.length=(yd a).length+(yd b).length∧yp x.2.1∧0≤x.2.2∧x.2.2<1000000000∧(∀k,i+(yd b).length≤k→x.2.1.getD k 0=0)∧yg x.2.1+yr (i+x.1)*x.2.2=yg ((yd a).take i)*yg (yd b)+yr i*(yd a).getD i 0*yg ((yd b).take x.1)) (fun x=>[(8,.int .u64 (x.2.2)),(27,ya yb ((x.1:Nat):Int)),(26,ya yb (((yd b).length:Nat):Int)),(25,.slice p2 ((yd b).length) c2),(7,.int .u32 ((yd a).getD i 0)),(6,ya yb ((i:Nat):Int)),(20,ya yb ((i:Nat):Int)),(19,ya yb (((yd a).length:Nat):Int)),(18,.slice p1 ((yd a).length) c1),(5,.slice (some ⟨b1,0,none⟩) (((yd a).length)+((yd b).length)) (((yd a).length)+((yd b).length))),(4,.slice none 0 0),(1,.slice p2 ((yd b).length) c2)]) (fun x=>[rowA 121 (rI .u32) (some ⟨b1,0,none⟩) (((yd a).length)+((yd b).length)) (x.2.1)]) (fun x=>[atF b3 o4 [.int .u32 ((yd a).getD i 0)],slF (rI .u32) p1 c1 (yd a),slF (rI .u32) p2 c2 (yd b)]) (fun x:Nat×(List Int)×Int=>(yd b).length - x.1) (0,os,0) (show 0≤(yd b).length∧os.length=(yd a).length+(yd b).length∧yp os∧0≤0∧0<1000000000∧(∀k,i+(yd b).length≤k→os.getD k 0=0)∧yg os+yr (i+0)*0=yg ((yd a).take i)*yg (yd b)+yr i*(yd a).getD i 0*yg ((yd b).take 0) from by exact ⟨by omega,hol,hok,by decide,by decide,hz,by rw [hv];simp [yg]⟩) ((.c rfl (.e rfl cgs (.of rfl))):SubM _ _) (ho:=(o0 rfl)) ((.of [0,1,2] rfl):SelR _ _ _) ?_
  rintro ⟨j,os2,cy⟩ hJ
  replace hJ:j≤(yd b).length∧os2.length=(yd a).length+(yd b).length∧yp os2∧0≤cy∧cy<1000000000∧(∀k,i+(yd b).length≤k→os2.getD k 0=0)∧yg os2+yr (i+j)*cy=yg ((yd a).take i)*yg (yd b)+yr i*(yd a).getD i 0*yg ((yd b).take j):=hJ
  try dsimp only
  obtain ⟨hj,hol2,hok2,hcy0,hcy1,hz2,hv2⟩:=hJ
  have hg2:=yn hob j
  have hg3:=yn hok2 (i+j)
  have hpq:=Big.mul_lim hg1 hg2
  refine zh<|za<|e_p (zda rfl rfl)<|zi<|ze<|zh<|zJ rfl (fun h6=> ?_) (fun h6=> ?_)
  ·
   refine zC<|ze<|zh<|zE<|zh<|za<|e_mv rfl<|zX (x0:=((yd b).getD j 0)) 2 j rfl ye sz121 rfl rfl rfl (by first|rfl|assumption|(simp;omega)|omega) rfl rfl (gD (d:=0) om) (fun b7 o8 hok9=> ?_)
   replace hok9:=zI.1 hok9
   refine e_ru (zB (j:=0) 0 ty121 rfl rfl rfl rfl)<|e_p (zd rfl)<|e_p (zd rfl)<|zi<|ze<|zh<|za<|e_mv rfl<|e_mv rfl<|e_mv rfl<|e_p (zO (z:=(((i+j):Nat):Int)) rfl rfl (w64 om))<|e_p (zoa (j:=(i+j)) ye sz121 rfl rfl rfl om)<|r_vl rfl rfl (zpa 0 (i+j) rfl ty121 rfl rfl (gD (d:=0) om) rfl) (fun _ hok10=> ?_)
   replace hok10:=zI.1 hok10
   refine e_p (zN (z:=(os2.getD (i+j) 0)) rfl (by rw [yj];rfl) yi (wu64 om))<|e_mv rfl<|e_p (zN (z:=((yd a).getD i 0)) rfl (by rw [yj];rfl) yi (wu64 om))<|e_mv rfl<|e_p (zN (z:=((yd b).getD j 0)) rfl (by rw [yj];rfl) yi (wu64 om))<|e_p (zEa (z:=(((yd a).getD i 0)*((yd b).getD j 0))) rfl rfl (wu64 om))<|e_p (zO (z:=((os2.getD (i+j) 0)+(((yd a).getD i 0)*((yd b).getD j 0)))) rfl rfl (wu64 om))<|e_mv rfl<|e_p (zO (z:=(((os2.getD (i+j) 0)+(((yd a).getD i 0)*((yd b).getD j 0)))+cy)) rfl rfl (wu64 om))<|e_p (zd rfl)<|zi<|ze<|za<|e_mv rfl<|e_mv rfl<|e_mv rfl<|e_p (zO (z:=(((i+j):Nat):Int)) rfl rfl (w64 om))<|e_mv rfl<|e_p (zza (z:=((((os2.getD (i+j) 0)+(((yd a).getD i 0)*((yd b).getD j 0)))+cy)%1000000000)) rfl rfl om (remN om om))<|e_p (zN (z:=((((os2.getD (i+j) 0)+(((yd a).getD i 0)*((yd b).getD j 0)))+cy)%1000000000)) rfl (by rw [yi];rfl) yj (wu32 om))<|e_mv rfl<|e_p (zmb (z:=((((os2.getD (i+j) 0)+(((yd a).getD i 0)*((yd b).getD j 0)))+cy) / 1000000000)) rfl rfl om (by rw [quoN (z:=((((os2.getD (i+j) 0)+(((yd a).getD i 0)*((yd b).getD j 0)))+cy) / 1000000000)) om om];exact wu64 om))<|e_p (zoa (j:=(i+j)) ye sz121 rfl rfl rfl om)<|zQa 0 rfl rfl rfl (zia (j:=(i+j)) (x0:=((((os2.getD (i+j) 0)+(((yd a).getD i 0)*((yd b).getD j 0)))+cy)%1000000000)) (γ0:=()) rfl rfl (by first|omega|(rw [List.length_map];omega)|(simp only [List.length_set];omega)|(simp;done)|(simp;omega)) rfl rfl sz121 (fun _ _=>by exact zI.2 om)) (fun _=> .z) (fun _ _=> ?_)
   refine e_p (zd rfl)<|zi<|zT<|ze<|za<|e_p (zO (z:=(((j+1):Nat):Int)) rfl rfl (w64 om))<|e_mv rfl<|zi<|zla ((j+1),os2.set (i+j) ((os2.getD (i+j) 0+(yd a).getD i 0*(yd b).getD j 0+cy)%1000000000),(os2.getD (i+j) 0+(yd a).getD i 0*(yd b).getD j 0+cy) / 1000000000) (show (j+1)≤(yd b).length∧(os2.set (i+j) ((os2.getD (i+j) 0+(yd a).getD i 0*(yd b).getD j 0+cy)%1000000000)).length=(yd a).length+(yd b).length∧yp (os2.set (i+j) ((os2.getD (i+j) 0+(yd a).getD i 0*(yd b).getD j 0+cy)%1000000000))∧0≤((os2.getD (i+j) 0+(yd a).getD i 0*(yd b).getD j 0+cy) / 1000000000)∧((os2.getD (i+j) 0+(yd a).getD i 0*(yd b).getD j 0+cy) / 1000000000)<1000000000∧(∀k,i+(yd b).length≤k→(os2.set (i+j) ((os2.getD (i+j) 0+(yd a).getD i 0*(yd b).getD j 0+cy)%1000000000)).getD k 0=0)∧yg (os2.set (i+j) ((os2.getD (i+j) 0+(yd a).getD i 0*(yd b).getD j 0+cy)%1000000000))+yr (i+(j+1))*((os2.getD (i+j) 0+(yd a).getD i 0*(yd b).getD j 0+cy) / 1000000000)=yg ((yd a).take i)*yg (yd b)+yr i*(yd a).getD i 0*yg ((yd b).take (j+1)) from by exact ⟨by omega,by simpa using hol2,Big.okL_set hok2 om om,by omega,by omega,fun k hk=>by rw [yy om];exact hz2 k om,Big.mul_step hv2 om om⟩) (by show (yd b).length - (j+1)<(yd b).length - j;omega) ((.e rfl cgs (.of rfl)):SubM _ _) (ho:=((.e (i:=0) rfl cgs .n):PickO _ _ _)) ((.of [1,2,3] rfl):SelR _ _ _)
  ·
   have hjb:j=(yd b).length:=by omega
   subst hjb
   have hv3:=hv2
   refine zqa<|zk<|zk<|zD<|ze<|za<|e_mv rfl<|e_mv rfl<|e_mv rfl<|e_p (zR ye rfl)<|e_p (zO (z:=(((i+((yd b).length)):Nat):Int)) rfl rfl (w64 om))<|e_mv rfl<|e_p (zN (z:=cy) rfl (by rw [yi];rfl) yj (wu32 om))<|e_p (zoa (j:=(i+((yd b).length))) ye sz121 rfl rfl rfl om)<|zQa 0 rfl rfl rfl (zia (j:=(i+((yd b).length))) (x0:=cy) (γ0:=()) rfl rfl (by first|omega|(rw [List.length_map];omega)|(simp only [List.length_set];omega)|(simp;done)|(simp;omega)) rfl rfl sz121 (fun _ _=>by exact zI.2 om)) (fun _=> .z) (fun _ _=> ?_)
   refine zi<|zT<|ze<|za<|e_p (zO (z:=(((i+1):Nat):Int)) rfl rfl (w64 om))<|e_mv rfl<|zi<|zla ((i+1),os2.set (i+(yd b).length) cy) (show (i+1)≤(yd a).length∧(os2.set (i+(yd b).length) cy).length=(yd a).length+(yd b).length∧yp (os2.set (i+(yd b).length) cy)∧(∀k,(i+1)+(yd b).length≤k→(os2.set (i+(yd b).length) cy).getD k 0=0)∧yg (os2.set (i+(yd b).length) cy)=yg ((yd a).take (i+1))*yg (yd b) from by exact ⟨by omega,by simpa using hol2,Big.okL_set hok2 om om,fun k hk=>by rw [yy om];exact hz2 k om,Big.mul_round hv3 om (hz2 _ (Nat.le_refl _))⟩) (by show (yd a).length - (i+1)<(yd a).length - i;omega) (mR rfl) (ho:=((.e (i:=0) rfl cgs .n):PickO _ _ _)) ((.of [1,2] rfl):SelR _ _ _)
 ·
  have hia:i=(yd a).length:=by omega
  have hfin:yk os=yd (a*b):=Big.trimL_of hok (by rw [hv,hia,List.take_length,yu,yu,Int.natCast_mul])
  refine zqa<|zk<|zk<|zD<|ze<|zh<|za<|e_mv rfl<|zka 0 rfl .z<|zG rfl rfl (.c rfl .n) ce134 (zHb (p:=some ⟨b1,0,none⟩) (n:=(((yd a).length)+((yd b).length))) (cap:=(((yd a).length)+((yd b).length))) (l:=os) (hn:=cbb)) (.c (j:=0) rfl .n) ?_
  rintro ⟨⟩ -
  dsimp only [aq,nq,cq]
  refine e_p (zd rfl)<|zi<|ze<|zL ?_
  exact zx Tryz.results118 ((some ⟨b1,0,none⟩),(((yd a).length)+((yd b).length))) trivial (zl rfl) (by rw [hfin]) (ho:=oN) ((.e (j:=0) rfl (by rw [hfin]) .n):SelR _ _ _)
theorem zIe {s:Bool} {p:Option Addr} {n:Nat} {cap:Nat} {l:List Int} (hn:l.length=n):Con yh 120 [.agg #[.bool s,.slice p n cap]] [] [slF (rI .u32) p cap l] (Y:=Unit) (fun y=>True) (fun y=> ya yb ((ym s l).sign)) (fun y=>[]) (fun y=>[]):=by
 refine zo Tryz.func120 rfl rfl rfl (fun c=> ?_)
 show RunC _ _ _ _ _ [(0,.agg #[.bool s,.slice p n cap])] [] [slF (rI .u32) p cap l]
 refine zea 0 rfl (fun hL0=> ?_)
 refine zZa 0 rfl (fun hE0=> ?_)
 have hnn:Big.nn l:=fun g hg=>(zI.1 (hE0 g hg)).1
 refine zh<|za<|zP rfl rfl (zS rfl rfl) (fun b1=> ?_)
 refine e_p (zd rfl)<|zi<|ze<|zh<|zE<|zh<|za<|e_ru (zb 0 ty41 rfl rfl (.t2 .nil))<|zG rfl rfl (.c rfl .n) ce117 (zUa (s:=s) (p:=p) (n:=n) (cap:=cap) (l:=l) (hn:=ass)) (.c (j:=0) rfl .n) ?_
 rintro ⟨p22,c23⟩ -
 dsimp only [aq,nq,cq]
 refine e_p (zR ye rfl)<|e_p (zxa rfl rfl)<|e_p (zd rfl)<|zi<|ze<|zJ rfl (fun h0=> ?_) (fun h0=> ?_)
 ·
  refine zh<|za<|e_p (zd rfl)<|zi<|ze<|zL<|zy<|zj ?_
  exact zx Tryz.results120 () trivial (zl rfl) (by rw [show ym s l=0 by have:=Big.len_digs_nil.1 (show (yd (ym s l).natAbs).length=0 by omega);omega];rfl) (ho:=oN) sN
 ·
  refine zh<|za<|e_p (zf yl rfl sz4 rfl rfl)<|e_ru (zg 0 ty4 rfl rfl rfl)<|e_p (zd rfl)<|zi<|ze<|zxb rfl (fun hs=> ?_) (fun hs=> ?_)
  ·
   refine zh<|za<|e_p (zd rfl)<|zi<|ze<|zL<|zy<|zj ?_
   exact zx Tryz.results120 () trivial (zl rfl) (by rw [Big.sign_neg hnn hs (by intro e;rw [e] at h0;exact h0 rfl)]) (ho:=oN) sN
  ·
   refine zC<|zT<|ze<|zh<|za<|e_p (zd rfl)<|zi<|ze<|zL ?_
   exact zx Tryz.results120 () trivial (zl rfl) (by rw [Big.sign_pos hnn hs (by intro e;rw [e] at h0;exact h0 rfl)]) (ho:=oN) sN
theorem zXc {z:Int} {p:Option Addr} {cap:Nat}:Con yh 120 [.agg #[.bool (decide ((z)<0)),.slice (p) ((yd ((z).natAbs)).length) (cap)]] [] [slF (rI .u32) (p) (cap) (yd ((z).natAbs))] (Y:=Unit) (fun y=>True) (fun y=> ya yb ((z).sign)) (fun y=>[]) (fun y=>[]):=by
  have h:= @zIe (decide ((z)<0)) p (yd (z).natAbs).length cap (yd (z).natAbs) rfl
  rw [yv] at h
  exact h
theorem zYc {w1:Wd} {x1:Int}:Con yh 120 [.agg #[w1.b,w1.l]] [] [zF w1 (x1)] (Y:=Unit) (fun y=>True) (fun y=> ya yb ((x1).sign)) (fun y=>[]) (fun y=>[]):=by
  exact zFe (fun p c=>zXc)
theorem zug {s:Bool} {p1:Option Addr} {n1:Nat} {c1:Nat} {l1:List Int} {t:Bool} {p2:Option Addr} {n2:Nat} {c2:Nat} {l2:List Int} (hn1:l1.length=n1) (hn2:l2.length=n2) (hb1:yC (ym s l1)≤4398046511104) (hb2:yC (ym t l2)≤4398046511104):Con yh 85 [.agg #[.bool s,.slice p1 n1 c1],.agg #[.bool t,.slice p2 n2 c2]] [] [slF (rI .u32) p1 c1 l1,slF (rI .u32) p2 c2 l2] (Y:=(Option Addr)×Nat) (fun y=>True) (fun y=> .agg #[.bool (decide ((ym s l1+ym t l2)<0)),.slice (y.1) ((yd ((ym s l1+ym t l2).natAbs)).length) (y.2)]) (fun y=>[]) (fun y=>[slF (rI .u32) (y.1) (y.2) (yd ((ym s l1+ym t l2).natAbs))]):=by
 refine zo Tryz.func85 rfl rfl rfl (fun c=> ?_)
 show RunC _ _ _ _ _ [(0,.agg #[.bool s,.slice p1 n1 c1]),(1,.agg #[.bool t,.slice p2 n2 c2])] [] [slF (rI .u32) p1 c1 l1,slF (rI .u32) p2 c2 l2]
 refine zea 0 rfl (fun hL0=> ?_)
 refine zZa 0 rfl (fun hE0=> ?_)
 refine zea 1 rfl (fun hL1=> ?_)
 refine zZa 1 rfl (fun hE1=> ?_)
 have hnn1:Big.nn l1:=fun g hg=>(zI.1 (hE0 g hg)).1
 have hnn2:Big.nn l2:=fun g hg=>(zI.1 (hE1 g hg)).1
 refine zh<|za<|zP rfl rfl (zS rfl rfl) (fun b1=> ?_)
 refine zP rfl rfl (zS rfl rfl) (fun b2=> ?_)
 refine zP rfl rfl (zn zr41 rfl) (fun b3=> ?_)
 refine zi<|ze<|zh<|zY (OW:=[boxA b3 41 [wz.b,wz.l]]) (O:=[boxA b2 41 [.bool t,.slice p2 n2 c2],boxA b1 41 [.bool s,.slice p1 n1 c1]]) 9 mixed (.then .ret) kr<|e_pv 0 rfl rfl (zf yl rfl sz4 rfl rfl)<|e_uw 1 rfl rfl (zg 2 ty4 rfl rfl rfl)<|e_uw 2 rfl rfl (zb 2 ty41 rfl rfl (.t2 .nil))<|e_pv 4 rfl rfl (zf yl rfl sz4 rfl rfl)<|e_uw 5 rfl rfl (zg 1 ty4 rfl rfl rfl)<|e_uw 6 rfl rfl (zb 1 ty41 rfl rfl (.t2 .nil))<|e_one 3 (zq rfl rfl rfl rfl (.c rfl .n) ce117 (zUa (s:=s) (p:=p1) (n:=n1) (cap:=c1) (l:=l1) (hn:=ass)) (.c (j:=0) rfl .n) ?_)
 rintro ⟨p24,c25⟩ -
 dsimp only [aq,nq,cq]
 refine e_one 7 (zq rfl rfl rfl rfl (.c rfl .n) ce117 (zUa (s:=t) (p:=p2) (n:=n2) (cap:=c2) (l:=l2) (hn:=ass)) (.c (j:=2) rfl .n) ?_)
 rintro ⟨p26,c27⟩ -
 dsimp only [aq,nq,cq]
 refine e_one 8 (zq rfl rfl rfl rfl (.c rfl (.c rfl (.c rfl (.c rfl .n)))) ce116 (ztg (s:=s) (t:=t) (a:=(ym s l1).natAbs) (b:=(ym t l2).natAbs) (p1:=p24) (c1:=c25) (p2:=p26) (c2:=c27) (hb1:=cbb) (hb2:=cbb)) (.c (j:=1) rfl (.c (j:=0) rfl .n)) ?_)
 rintro ⟨p38,c39⟩ -
 dsimp only [aq,nq,cq]
 refine e_one 9 (zr kr rfl rfl rfl rfl rfl sz41 rfl (.t2 .nil) ?_)
 refine zW kr<|ze<|zL ?_
 have hz:yt s ((ym s l1).natAbs:Int)+yt t ((ym t l2).natAbs:Int)=ym s l1+ym t l2:=by rw [Big.sg_raw hnn1,Big.sg_raw hnn2]
 exact zx Tryz.results85 (p38,c39) trivial (zv 0 ty41 rfl rfl (.t2 .nil)) (by rw [hz]) (ho:=oN) ((.e (j:=0) rfl (by rw [hz]) .n):SelR _ _ _)
theorem zYf {x1:Int} {x2:Int} {p1:Option Addr} {c1:Nat} {p2:Option Addr} {c2:Nat} (hb1:yC x1≤4398046511104) (hb2:yC x2≤4398046511104):Con yh 85 [.agg #[.bool (decide ((x1)<0)),.slice (p1) ((yd ((x1).natAbs)).length) (c1)],.agg #[.bool (decide ((x2)<0)),.slice (p2) ((yd ((x2).natAbs)).length) (c2)]] [] [slF (rI .u32) (p1) (c1) (yd ((x1).natAbs)),slF (rI .u32) (p2) (c2) (yd ((x2).natAbs))] (Y:=(Option Addr)×(Nat)) (fun y=>True) (fun y=> .agg #[.bool (decide ((x1+x2)<0)),.slice (y.1) ((yd ((x1+x2).natAbs)).length) (y.2)]) (fun y=>[]) (fun y=>[slF (rI .u32) (y.1) (y.2) (yd ((x1+x2).natAbs))]):=by
  have h:= @zug (decide ((x1)<0)) p1 (yd (x1).natAbs).length c1 (yd (x1).natAbs) (decide ((x2)<0)) p2 (yd (x2).natAbs).length c2 (yd (x2).natAbs) rfl rfl (by rw [yv];exact hb1) (by rw [yv];exact hb2)
  rw [yv,yv] at h
  exact h
theorem zZf {w1:Wd} {w2:Wd} {x1:Int} {x2:Int} (hb1:yC x1≤4398046511104) (hb2:yC x2≤4398046511104):Con yh 85 [.agg #[w1.b,w1.l],.agg #[w2.b,w2.l]] [] [zF w1 (x1),zF w2 (x2)] (Y:=(Wd)) (fun y=>True) (fun y=> .agg #[y.b,y.l]) (fun y=>[]) (fun y=>[zF y (x1+x2)]):=by
  exact zZb (zHc (fun p1 c1 p2 c2=>zYf hb1 hb2))
theorem zvg {s:Bool} {p1:Option Addr} {n1:Nat} {c1:Nat} {l1:List Int} {t:Bool} {p2:Option Addr} {n2:Nat} {c2:Nat} {l2:List Int} (hn1:l1.length=n1) (hn2:l2.length=n2) (hb1:yC (ym s l1)≤4398046511104) (hb2:yC (ym t l2)≤4398046511104):Con yh 86 [.agg #[.bool s,.slice p1 n1 c1],.agg #[.bool t,.slice p2 n2 c2]] [] [slF (rI .u32) p1 c1 l1,slF (rI .u32) p2 c2 l2] (Y:=(Option Addr)×Nat) (fun y=>True) (fun y=> .agg #[.bool (decide ((ym s l1*ym t l2)<0)),.slice (y.1) ((yd ((ym s l1*ym t l2).natAbs)).length) (y.2)]) (fun y=>[]) (fun y=>[slF (rI .u32) (y.1) (y.2) (yd ((ym s l1*ym t l2).natAbs))]):=by
 refine zo Tryz.func86 rfl rfl rfl (fun c=> ?_)
 show RunC _ _ _ _ _ [(0,.agg #[.bool s,.slice p1 n1 c1]),(1,.agg #[.bool t,.slice p2 n2 c2])] [] [slF (rI .u32) p1 c1 l1,slF (rI .u32) p2 c2 l2]
 refine zea 0 rfl (fun hL0=> ?_)
 refine zZa 0 rfl (fun hE0=> ?_)
 refine zea 1 rfl (fun hL1=> ?_)
 refine zZa 1 rfl (fun hE1=> ?_)
 have hnn1:Big.nn l1:=fun g hg=>(zI.1 (hE0 g hg)).1
 have hnn2:Big.nn l2:=fun g hg=>(zI.1 (hE1 g hg)).1
 refine zh<|za<|zP rfl rfl (zS rfl rfl) (fun b1=> ?_)
 refine zP rfl rfl (zS rfl rfl) (fun b2=> ?_)
 refine zP rfl rfl (zn zr41 rfl) (fun b3=> ?_)
 refine zi<|ze<|zh<|zY (OW:=[boxA b3 41 [wz.b,wz.l]]) (O:=[boxA b2 41 [.bool t,.slice p2 n2 c2],boxA b1 41 [.bool s,.slice p1 n1 c1]]) 11 mixed (.then .ret) kr<|e_pv 0 rfl rfl (zf yl rfl sz4 rfl rfl)<|e_uw 1 rfl rfl (zg 2 ty4 rfl rfl rfl)<|e_pv 2 rfl rfl (zf yl rfl sz4 rfl rfl)<|e_uw 3 rfl rfl (zg 1 ty4 rfl rfl rfl)<|e_pv 4 rfl rfl (zTa Tryz.underlying4 rfl rfl)<|e_uw 5 rfl rfl (zb 2 ty41 rfl rfl (.t2 .nil))<|e_uw 7 rfl rfl (zb 1 ty41 rfl rfl (.t2 .nil))<|e_one 6 (zq rfl rfl rfl rfl (.c rfl .n) ce117 (zUa (s:=s) (p:=p1) (n:=n1) (cap:=c1) (l:=l1) (hn:=ass)) (.c (j:=0) rfl .n) ?_)
 rintro ⟨p24,c25⟩ -
 dsimp only [aq,nq,cq]
 refine e_one 8 (zq rfl rfl rfl rfl (.c rfl .n) ce117 (zUa (s:=t) (p:=p2) (n:=n2) (cap:=c2) (l:=l2) (hn:=ass)) (.c (j:=2) rfl .n) ?_)
 rintro ⟨p26,c27⟩ -
 dsimp only [aq,nq,cq]
 refine e_one 9 (zq rfl rfl rfl rfl (.c rfl (.c rfl .n)) ce118 (zNd (a:=(ym s l1).natAbs) (b:=(ym t l2).natAbs) (p1:=p24) (c1:=c25) (p2:=p26) (c2:=c27) (hb1:=cbb) (hb2:=cbb)) (.c (j:=1) rfl (.c (j:=0) rfl .n)) ?_)
 rintro ⟨p38,c39⟩ -
 dsimp only [aq,nq,cq]
 refine e_one 10 (zq rfl rfl rfl rfl (.c rfl (.c rfl .n)) ce114 (zHa (s:=decide (s≠t)) (a:=((ym s l1).natAbs)*((ym t l2).natAbs)) (p:=p38) (cap:=c39)) (.c (j:=0) rfl .n) ?_)
 rintro ⟨p210,c211⟩ -
 dsimp only [aq,nq,cq]
 refine e_one 11 (zr kr rfl rfl rfl rfl rfl sz41 rfl (.t2 .nil) ?_)
 refine zW kr<|ze<|zL ?_
 have hz:yt (decide (s≠t)) (((ym s l1).natAbs*(ym t l2).natAbs:Nat):Int)=ym s l1*ym t l2:=by rw [Big.sg_mul,Big.sg_raw hnn1,Big.sg_raw hnn2]
 exact zx Tryz.results86 (p210,c211) trivial (zv 0 ty41 rfl rfl (.t2 .nil)) (by rw [hz]) (ho:=oN) ((.e (j:=0) rfl (by rw [hz]) .n):SelR _ _ _)
theorem zag {x1:Int} {x2:Int} {p1:Option Addr} {c1:Nat} {p2:Option Addr} {c2:Nat} (hb1:yC x1≤4398046511104) (hb2:yC x2≤4398046511104):Con yh 86 [.agg #[.bool (decide ((x1)<0)),.slice (p1) ((yd ((x1).natAbs)).length) (c1)],.agg #[.bool (decide ((x2)<0)),.slice (p2) ((yd ((x2).natAbs)).length) (c2)]] [] [slF (rI .u32) (p1) (c1) (yd ((x1).natAbs)),slF (rI .u32) (p2) (c2) (yd ((x2).natAbs))] (Y:=(Option Addr)×(Nat)) (fun y=>True) (fun y=> .agg #[.bool (decide ((x1*x2)<0)),.slice (y.1) ((yd ((x1*x2).natAbs)).length) (y.2)]) (fun y=>[]) (fun y=>[slF (rI .u32) (y.1) (y.2) (yd ((x1*x2).natAbs))]):=by
  have h:= @zvg (decide ((x1)<0)) p1 (yd (x1).natAbs).length c1 (yd (x1).natAbs) (decide ((x2)<0)) p2 (yd (x2).natAbs).length c2 (yd (x2).natAbs) rfl rfl (by rw [yv];exact hb1) (by rw [yv];exact hb2)
  rw [yv,yv] at h
  exact h
theorem zJb {w1:Wd} {w2:Wd} {x1:Int} {x2:Int} (hb1:yC x1≤4398046511104) (hb2:yC x2≤4398046511104):Con yh 86 [.agg #[w1.b,w1.l],.agg #[w2.b,w2.l]] [] [zF w1 (x1),zF w2 (x2)] (Y:=(Wd)) (fun y=>True) (fun y=> .agg #[y.b,y.l]) (fun y=>[]) (fun y=>[zF y (x1*x2)]):=by
  exact zZb (zHc (fun p1 c1 p2 c2=>zag hb1 hb2))
end Go.Proofs.YtjcpbhlijoigfaaGreat.Sp
namespace Go.Proofs.YtjcpbhlijoigfaaGreat.Sp
open Go
set_option linter.unusedVariables false
set_option maxRecDepth 100000
set_option maxHeartbeats 8000000
theorem zwg {p:Option Addr} {n:Nat} {cap:Nat} {l:List Int} (hn:l.length=n) (hb:n≤8796093022208):Con yh 153 [.slice p n cap] [] [slF (rI .u32) p cap l] (Y:=(Option Addr)×Nat) (fun y=>True) (fun y=> .slice (y.1) (l.length) (y.2)) (fun y=>[]) (fun y=>[slF (rI .u32) (y.1) (y.2) l]):=by
 refine zo Tryz.func153 rfl rfl rfl (fun c=> ?_)
 show RunC _ _ _ _ _ [(0,.slice p n cap)] [] [slF (rI .u32) p cap l]
 refine zea 0 rfl (fun hL0=> ?_)
 refine c_nil 0 rfl (fun hnil=> ?_)
 refine zh<|za<|e_p (zd rfl)<|zi<|ze<|zh<|zh<|za<|e_mv rfl<|e_p (zHd ye rfl rfl)<|zi<|ze<|zxb rfl (fun h0=> ?_) (fun h0=> ?_)
 ·
  refine zh<|za<|e_p (zd rfl)<|zi<|ze<|zL<|zj ?_
  obtain rfl:l=[]:=hnil (by simpa using h0)
  refine zGd (rI .u32) ?_
  exact zx Tryz.results153 (none,0) trivial (zl rfl) rfl (ho:=oN) (s0 rfl)
 ·
  refine zC<|ze<|zh<|za<|zKa rfl rfl (zva (rI .u32) ye inf121) (fun b1 _=> ?_)
  refine e_mv rfl<|zQa 0 rfl rfl rfl (zua 0 rfl ye inf121 dd rfl rfl cbs rfl cbs (by first|omega|(simp;omega)) (by first|omega|(simp;omega))) (fun _=> .z) ?_
  rintro ⟨p2,c3⟩ -
  dsimp only [aq,nq,cq]
  refine e_p (zd rfl)<|zi<|ze<|zL<|zVb 0 rfl .z ?_
  exact zx Tryz.results153 (p2,c3) trivial (zl rfl) (by simp [hn]) (ho:=oN) (s0 rfl)
theorem zvd {a:Nat} {p:Option Addr} {cap:Nat} (hb:(yd (a)).length≤8796093022208):Con yh 153 [.slice (p) ((yd (a)).length) (cap)] [] [slF (rI .u32) (p) (cap) (yd (a))] (Y:=(Option Addr)×(Nat)) (fun y=>True) (fun y=> .slice (y.1) ((yd (a)).length) (y.2)) (fun y=>[]) (fun y=>[slF (rI .u32) (y.1) (y.2) (yd (a))]):=by
  exact zwg rfl hb
theorem zLc {a:Nat} {p:Option Addr} {cap:Nat}:Con yh 154 [.slice p ((yd a).length) cap] [] [slF (rI .u32) p cap (yd a)] (Y:=Unit) (fun y=>True) (fun y=> .tuple #[.int .u64 (((if (yd a).length≤2 then a else 0):Nat):Int),.bool (decide ((yd a).length≤2))]) (fun y=>[]) (fun y=>[]):=by
 refine zuc Tryz.func154 rfl rfl rfl (fun c=> ?_)
 show RunC _ _ _ _ _ [(0,.slice p ((yd a).length) cap)] [] [slF (rI .u32) p cap (yd a)]
 refine zea 0 rfl (fun hL0=> ?_)
 refine zh<|za<|e_p (zd rfl)<|e_p (zd rfl)<|zi<|ze<|zh<|zh<|za<|e_mv rfl<|e_p (zR ye rfl)<|e_p (zDa rfl rfl)<|zi<|ze<|zJ rfl (fun hgt=> ?_) (fun hgt=> ?_)
 ·
  refine zh<|za<|e_p (zd rfl)<|e_p (zd rfl)<|zi<|ze<|zL<|zj<|zkf ?_
  exact zBa Tryz.results154 () trivial (zl rfl) (zl rfl) (by rw [if_neg om,decide_eq_false (show ¬(yd a).length≤2 by omega)];rfl) (ho:=oN) sN
 ·
  have hle:(yd a).length≤2:=by omega
  have h18:=Big.two_lt hle
  refine zC<|ze<|zh<|za<|zP rfl rfl (zn zr120 rfl) (fun b1=> ?_)
  refine zm 0 rfl rfl rfl rfl rfl sz120 rfl (.take .nil) .z<|zi<|ze<|zh<|zh<|za<|e_mv rfl<|zG rfl rfl (.c rfl .n) ce149 (zTb (p:=p) (n:=(yd a).length) (cap:=cap)) (.n) ?_
  rintro b2 -
  dsimp only [aq,nq,cq]
  refine zi<|ze<|zE<|zfe (fa:=[atF b2 0 [.slice p ((yd a).length) cap],slF (rI .u32) p cap (yd a)]) (N:=((yd a).length)) (encs:=fun k=>[ya yb ((k:Nat):Int),.int .u32 ((yd a).getD k 0)]) rfl ce157 (back_u32 cbs) (fun _=>rfl) rfl (X:=Int) (Y:=Unit) (fun x k=>k≤(yd a).length∧x=yg ((yd a).drop k)∧0≤x∧x*yr k≤(a:Int)) (fun y=>False) (fun x=>[boxA b1 120 [.int .u64 x]]) (fun x=>[]) (fun y=>[]) (fun y=>[]) (fun k=>[(6,.int .u32 ((yd a).getD k 0)),(13,.int .u32 ((yd a).getD k 0)),(12,ya yb ((k:Nat):Int)),(11,.func (.func 157) #[] #[yc (some ⟨b2,0,none⟩)]),(10,.slice p ((yd a).length) cap),(4,yc (some ⟨b1,0,none⟩)),(9,.bool (decide (2<(((yd a).length:Nat):Int)))),(8,ya yb (((yd a).length:Nat):Int)),(7,.slice p ((yd a).length) cap),(3,.bool false),(2,.int .u64 0),(0,.slice p ((yd a).length) cap)]) (0:Int) (show ((yd a).length)≤(yd a).length∧(0:Int)=yg ((yd a).drop ((yd a).length))∧0≤(0:Int)∧(0:Int)*yr ((yd a).length)≤(a:Int) from by exact ⟨Nat.le_refl _,by simp [yg],Int.le_refl _,by simp⟩) (ho:=((.e (i:=0) rfl cgs .n):PickO _ _ _)) ((.of [0,1] rfl):SelR _ _ _) ?_ ?_ ?_ ?_
  ·
   intro l k O' R' Q' hP
   refine za<|e_p (zd rfl)<|zi ?_
   exact hP
  ·
   rintro l3 D4 o5 o6 z k hkN hI
   replace hI:(k+1)≤(yd a).length∧z=yg ((yd a).drop (k+1))∧0≤z∧z*yr (k+1)≤(a:Int):=hI
   try dsimp only
   obtain ⟨hk,hz,hz0,hzp⟩:=hI
   have hg:=yn (yq a) k
   have hlim:=Big.word_lim hle (show k+1≤(yd a).length by omega) hz0 hzp
   refine zE<|za<|e_ru (zg 2 ty120 rfl rfl rfl)<|e_p (zEa (z:=(z*1000000000)) rfl rfl (wu64 om))<|e_mv rfl<|e_p (zN (z:=((yd a).getD k 0)) rfl (by rw [yj];rfl) yi (wu64 om))<|e_p (zO (z:=((z*1000000000)+((yd a).getD k 0))) rfl rfl (wu64 om))<|zm 2 rfl rfl rfl rfl rfl sz120 rfl (.take .nil) (.s (.s .z))<|zi<|zT ?_
   exact zde (z*1000000000+(yd a).getD k 0) (show k≤(yd a).length∧(z*1000000000+(yd a).getD k 0)=yg ((yd a).drop k)∧0≤(z*1000000000+(yd a).getD k 0)∧(z*1000000000+(yd a).getD k 0)*yr k≤(a:Int) from by exact ⟨by omega,by rw [hz];exact Big.word_step k,by omega,Big.word_keep (show k+1≤(yd a).length by omega) hz⟩) (ho:=((.c (i:=0) rfl (.c (i:=0) rfl (.e (i:=0) rfl cgs .n))):PickO _ _ _)) ((.of [0,1] rfl):SelR _ _ _)
  ·
   rintro D7 z hI
   replace hI:0≤(yd a).length∧z=yg ((yd a).drop 0)∧0≤z∧z*yr 0≤(a:Int):=hI
   try dsimp only
   have hz9:z=(a:Int):=by rw [hI.2.1,List.drop_zero,yu]
   refine zT<|ze<|zh<|za<|e_ru (zg 1 ty120 rfl rfl rfl)<|e_p (zd rfl)<|e_p (zd rfl)<|zi<|ze<|zL<|zEe 0 rfl rfl ?_
   exact zBa Tryz.results154 () trivial (zl rfl) (zl rfl) (by rw [if_pos hle,decide_eq_true hle,hz9]) (ho:=oN) sN
  ·
   intro _ _ h;exact h.elim
theorem zOd {a:Nat} {mm:Nat} {p:Option Addr} {cap:Nat} (hb:(yd a).length≤4398046511104) (hm0:0<mm) (hm1:mm<4294967296):Con yh 160 [.slice p ((yd a).length) cap,.int .u32 ((mm:Nat):Int)] [] [slF (rI .u32) p cap (yd a)] (Y:=(Option Addr)×Nat) (fun y=>True) (fun y=> .tuple #[.slice (y.1) ((yd (a / mm)).length) (y.2),.int .u32 (((a%mm):Nat):Int)]) (fun y=>[]) (fun y=>[slF (rI .u32) (y.1) (y.2) (yd (a / mm))]):=by
 refine zuc Tryz.func160 rfl rfl rfl (fun c=> ?_)
 show RunC _ _ _ _ _ [(0,.slice p ((yd a).length) cap),(1,.int .u32 ((mm:Nat):Int))] [] [slF (rI .u32) p cap (yd a)]
 refine zea 0 rfl (fun hL0=> ?_)
 refine zh<|za<|zP rfl rfl (zS rfl rfl) (fun b1=> ?_)
 refine zP rfl rfl (zn zr39 rfl) (fun b2=> ?_)
 refine e_p (zd rfl)<|zi<|ze<|zh<|za<|e_mv rfl<|e_p (zR ye rfl)<|zKa rfl rfl (zyb (r:=rI .u32) (k:=(yd a).length) (x0:=0) (γ0:=()) ye inf121 rfl rfl rfl rfl om om rfl (fun g _=>by exact zI.2 dd) dd) (fun b3 _=> ?_)
 refine zm 1 rfl rfl rfl rfl rfl sz39 rfl (.take .nil) (.s .z)<|zi<|ze<|zh<|za<|zP rfl rfl (zn zr120 rfl) (fun b4=> ?_)
 refine zm 0 rfl rfl rfl rfl rfl sz120 rfl (.take .nil) .z<|zi<|ze<|zh<|zh<|za<|e_mv rfl<|zG rfl rfl (.c rfl .n) ce149 (zTb (p:=p) (n:=(yd a).length) (cap:=cap)) (.n) ?_
 rintro b5 -
 dsimp only [aq,nq,cq]
 refine zi<|ze<|zE<|zfe (fa:=[atF b5 0 [.slice p ((yd a).length) cap],slF (rI .u32) p cap (yd a)]) (N:=((yd a).length)) (encs:=fun k=>[ya yb ((k:Nat):Int),.int .u32 ((yd a).getD k 0)]) rfl ce157 (back_u32 (by first|rfl|assumption|(simp;done)|omega)) (fun _=>rfl) rfl (X:=(List Int)×(List Int)×Int) (Y:=Unit) (fun x k=>x.1=List.replicate k 0++x.2.1∧Big.ShI (yd a) (mm:Int) k x.2.1 x.2.2) (fun y=>False) (fun x=>[boxA b4 120 [.int .u64 (x.2.2)],rowA 121 (rI .u32) (some ⟨b3,0,none⟩) ((yd a).length) (x.1),boxA b2 39 [.slice (some ⟨b3,0,none⟩) ((yd a).length) ((yd a).length)],boxA b1 121 [.int .u32 ((mm:Nat):Int)]]) (fun x=>[]) (fun y=>[]) (fun y=>[]) (fun k=>[(8,.int .u32 ((yd a).getD k 0)),(7,ya yb ((k:Nat):Int)),(16,.int .u32 ((yd a).getD k 0)),(15,ya yb ((k:Nat):Int)),(14,.func (.func 157) #[] #[yc (some ⟨b5,0,none⟩)]),(13,.slice p ((yd a).length) cap),(6,yc (some ⟨b4,0,none⟩)),(12,.slice (some ⟨b3,0,none⟩) ((yd a).length) ((yd a).length)),(11,ya yb (((yd a).length:Nat):Int)),(10,.slice p ((yd a).length) cap),(5,.int .u32 0),(4,yc (some ⟨b2,0,none⟩)),(3,yc (some ⟨b1,0,none⟩)),(0,.slice p ((yd a).length) cap),(1,.int .u32 ((mm:Nat):Int))]) ((List.replicate (yd a).length 0),([]:List Int),(0:Int)) (show (List.replicate (yd a).length 0)=List.replicate ((yd a).length) 0++([]:List Int)∧Big.ShI (yd a) (mm:Int) ((yd a).length) ([]:List Int) (0:Int) from by exact ⟨by simp,Big.ShI.start om⟩) (ho:=((.e (i:=0) rfl cgs (.e (i:=0) rfl cgs (.of [0,0] rfl))):PickO _ _ _)) ((.of [0,1] rfl):SelR _ _ _) ?_ ?_ ?_ ?_
 ·
  intro l k O' R' Q' hP
  refine zh<|za<|e_p (zd rfl)<|zi<|ze<|za<|e_p (zd rfl)<|zi ?_
  exact hP
 ·
  rintro l6 D7 o8 o9 ⟨os,qs,z⟩ k hkN hI
  replace hI:os=List.replicate (k+1) 0++qs∧Big.ShI (yd a) (mm:Int) (k+1) qs z:=hI
  try dsimp only
  obtain ⟨hos,hS⟩:=hI
  have hz0:=hS.r0
  have hz1:=hS.r1
  have hkle:=hS.le
  have hosl:os.length=(yd a).length:=by rw [hos,List.length_append,List.length_replicate,hS.len];omega
  have hg:=yn (yq a) k
  have hdg:=Big.sh_digit hz0 hz1 hg
  have hrm:=Int.emod_lt_of_pos (z*1000000000+(yd a).getD k 0) (show 0<(mm:Int) by omega)
  have hrm0:=Int.emod_nonneg (z*1000000000+(yd a).getD k 0) (show (mm:Int)≠0 by omega)
  refine zE<|zh<|za<|e_ru (zg 2 ty120 rfl rfl rfl)<|e_p (zEa (z:=(z*1000000000)) rfl rfl (wu64 om))<|e_mv rfl<|e_p (zN (z:=((yd a).getD k 0)) rfl (by rw [yj];rfl) yi (wu64 om))<|e_p (zO (z:=((z*1000000000)+((yd a).getD k 0))) rfl rfl (wu64 om))<|e_p (zd rfl)<|zi<|ze<|zwa (.c (i:=3) rfl (.c (i:=2) rfl (.c (i:=0) rfl (.c (i:=0) rfl (.c (i:=0) rfl (.c (i:=0) rfl .n))))))<|zqf (OW:=[rowA 121 (rI .u32) (some ⟨b3,0,none⟩) ((yd a).length) os,boxA b4 120 [.int .u64 z]]) (O:=[objA l6 o8,objA D7 o9,boxA b2 39 [.slice (some ⟨b3,0,none⟩) ((yd a).length) ((yd a).length)],boxA b1 121 [.int .u32 ((mm:Nat):Int)]]) 12 mixed kr kr<|e_uw 0 rfl rfl (zg 4 ty39 rfl rfl rfl)<|e_dm 1 rfl rfl rfl<|e_dm 2 rfl rfl rfl<|e_uw 3 rfl rfl (zg 5 ty121 rfl rfl rfl)<|e_pv 4 rfl rfl (zN (z:=((mm:Nat):Int)) rfl (by rw [yj];rfl) yi (wu64 om))<|e_pv 5 rfl rfl (zmb (z:=(((z*1000000000)+((yd a).getD k 0)) / ((mm:Nat):Int))) rfl rfl om (by rw [quoN (z:=(((z*1000000000)+((yd a).getD k 0)) / ((mm:Nat):Int))) om om];exact wu64 om))<|e_pv 6 rfl rfl (zN (z:=(((z*1000000000)+((yd a).getD k 0)) / ((mm:Nat):Int))) rfl (by rw [yi];rfl) yj (wu32 om))<|e_dm 7 rfl rfl rfl<|e_u 8 rfl rfl (zg 3 ty121 rfl rfl rfl)<|e_pv 9 rfl rfl (zN (z:=((mm:Nat):Int)) rfl (by rw [yj];rfl) yi (wu64 om))<|e_pv 10 rfl rfl (zza (z:=(((z*1000000000)+((yd a).getD k 0))%((mm:Nat):Int))) rfl rfl om (remN om om))<|e_pv 11 rfl rfl (zoa (j:=k) ye sz121 rfl rfl rfl om)<|e_one 12 (zae (A':=fun _=>rowA 121 (rI .u32) (some ⟨b3,0,none⟩) ((yd a).length) (os.set k (((z*1000000000)+((yd a).getD k 0)) / ((mm:Nat):Int)))) kr rfl rfl rfl (zia (j:=k) (x0:=(((z*1000000000)+((yd a).getD k 0)) / ((mm:Nat):Int))) (γ0:=()) rfl rfl (by first|omega|(rw [List.length_map];omega)|(simp only [List.length_set];omega)|(simp;done)|(simp;omega)) rfl rfl sz121 (fun _ _=>by exact zI.2 om)) (fun _ _=> ?_))
  refine zeb (zfa (i:=1) rfl)<|e_one 13 (zr kr rfl rfl rfl rfl rfl sz120 rfl (.take .nil) ?_)
  refine zrf kr<|zT ?_
  exact zde ((os.set k (((z*1000000000)+((yd a).getD k 0)) / ((mm:Nat):Int))),((z*1000000000+(yd a).getD k 0) / (mm:Int) :: qs),((z*1000000000+(yd a).getD k 0)%(mm:Int))) (show (os.set k (((z*1000000000)+((yd a).getD k 0)) / ((mm:Nat):Int)))=List.replicate k 0++((z*1000000000+(yd a).getD k 0) / (mm:Int) :: qs)∧Big.ShI (yd a) (mm:Int) k ((z*1000000000+(yd a).getD k 0) / (mm:Int) :: qs) ((z*1000000000+(yd a).getD k 0)%(mm:Int)) from by exact ⟨by rw [hos];exact Big.pad_set _,hS.step (yq a)⟩) (ho:=((.c (i:=2) rfl (.c (i:=2) rfl (.e (i:=0) rfl cgs (.of [0,0,0] rfl)))):PickO _ _ _)) ((.of [0,1] rfl):SelR _ _ _)
 ·
  rintro D10 ⟨os,qs,z⟩ hI
  replace hI:os=List.replicate 0 0++qs∧Big.ShI (yd a) (mm:Int) 0 qs z:=hI
  try dsimp only
  obtain ⟨hos,hS⟩:=hI
  obtain ⟨hf1,hf2⟩:=hS.fin
  have hoq:os=qs:=by simpa using hos
  have htr:yk os=yd (a / mm):=by rw [hoq];exact hf1
  have hosl:os.length=(yd a).length:=by rw [hoq,hS.len];omega
  have hzr:=hS.r1
  have hzr0:=hS.r0
  refine zT<|ze<|zh<|zwa (.c (i:=3) rfl (.c (i:=0) rfl (.c (i:=0) rfl (.c (i:=0) rfl (.c (i:=0) rfl .n)))))<|zqf (OW:=[boxA b2 39 [.slice (some ⟨b3,0,none⟩) ((yd a).length) ((yd a).length)]]) (O:=[objA D10 (.deferred (some [])),boxA b4 120 [.int .u64 z],rowA 121 (rI .u32) (some ⟨b3,0,none⟩) ((yd a).length) os,boxA b1 121 [.int .u32 ((mm:Nat):Int)]]) 4 mixed kr kr<|e_uw 0 rfl rfl (zg 0 ty39 rfl rfl rfl)<|e_u 2 rfl rfl (zg 1 ty120 rfl rfl rfl)<|e_pv 3 rfl rfl (zN (z:=z) rfl (by rw [yi];rfl) yj (wu32 om))<|zWb 2 rfl (.s (.s .z))<|e_one 1 (zq rfl rfl rfl rfl (.c rfl .n) ce134 (zHb (p:=some ⟨b3,0,none⟩) (n:=(yd a).length) (cap:=(yd a).length) (l:=os) (hn:=cbb)) (.c (j:=0) rfl .n) ?_)
  rintro ⟨⟩ -
  dsimp only [aq,nq,cq]
  refine e_one 4 (zr kr rfl rfl rfl rfl rfl sz39 rfl (.take .nil) ?_)
  refine e_pv 5 rfl rfl (zd rfl)<|zrf kr<|ze<|zL<|zEe 1 rfl rfl ?_
  exact zBa Tryz.results160 ((some ⟨b3,0,none⟩),((yd a).length)) trivial (zFb 0 ty39 rfl rfl rfl) (zl rfl) (by rw [htr,hf2]) (ho:=oN) ((.e (j:=0) rfl (by rw [htr]) .n):SelR _ _ _)
 ·
  intro _ _ h;exact h.elim
theorem zDf {p:Option Addr} {n:Nat} {cap:Nat} {l:List Int} (hn:l.length=n):Con yh 134 [.slice p n cap] [rowA 121 (rI .u32) p cap l] [] (Y:=Unit) (fun y=>True) (fun y=> .slice p ((yk l).length) cap) (fun y=>[rowA 121 (rI .u32) p cap (yk l)]) (fun y=>[]):=by
 refine zo Tryz.func134 rfl rfl rfl (fun c=> ?_)
 show RunC _ _ _ _ _ [(0,.slice p n cap)] [rowA 121 (rI .u32) p cap l] []
 refine zTf 0 rfl (fun hcl=> ?_)
 refine zh<|za<|e_p (zd rfl)<|zi<|ze<|zh<|zE<|zra (X:=Nat) (fun x:Nat=>x≤l.length∧yk (l.take x)=yk l) (fun x=>[(0,.slice p x cap),(2,.slice none 0 0)]) (fun x=>[rowA 121 (rI .u32) p cap l]) (fun x=>[]) (fun x:Nat=>x) n (show n≤l.length∧yk (l.take n)=yk l from by exact ⟨by omega,by rw [List.take_of_length_le om]⟩) ((.c rfl (.c rfl .n)):SubM _ _) (ho:=(o0 rfl)) sN ?_
 rintro k hI
 replace hI:k≤l.length∧yk (l.take k)=yk l:=hI
 try dsimp only
 obtain ⟨hk,hT⟩:=hI
 refine zh<|zGa (X:=Unit) (fun x=>True) (fun x=>[(14,.bool (decide (0<k∧l.getD (k - 1) 0=0))),(0,.slice p k cap),(2,.slice none 0 0)]) (fun x=>[rowA 121 (rI .u32) p cap l]) (fun x=>[]) ?_ ?_
 ·
  refine za<|e_mv rfl<|e_p (zR ye rfl)<|e_p (zDa rfl rfl)<|zZ rfl rfl (zaa rfl) (fun h1=> ?_) (fun h1=> ?_)
  ·
   refine e_mv rfl<|e_mv rfl<|e_p (zR ye rfl)<|e_p (zna (z:=(((k - 1):Nat):Int)) rfl rfl (w64 om))<|e_ru (zud 0 (k - 1) rfl ye sz121 rfl cbo rfl rfl om)<|r_vl rfl rfl (zpa 0 (k - 1) rfl ty121 rfl rfl (gD (d:=0) om) rfl) (fun _ hok2=> ?_)
   replace hok2:=zI.1 hok2
   refine e_p (zxa rfl rfl)<|e_p (zp rfl rfl)<|zi ?_
   exact zha () tt9 ((.e rfl (congrArg Value.bool (by have h1:0<k:=om;have h2:((k:Int) - 1).toNat=k - 1:=om;simp [h1,h2])) (.c rfl (.c rfl .n))):SubM _ _) (ho:=(o0 rfl)) sN
  ·
   refine e_no<|e_no<|e_no<|e_no<|e_no<|e_no<|e_no<|e_p (zp rfl rfl)<|zi ?_
   exact zha () tt9 ((.e rfl (congrArg Value.bool (by have h1:¬0<k:=om;simp [h1])) (.c rfl (.c rfl .n))):SubM _ _) (ho:=(o0 rfl)) sN
 ·
  rintro ⟨⟩ -
  try dsimp only
  refine zJ rfl (fun hc=> ?_) (fun hc=> ?_)
  ·
   refine zC<|ze<|zE<|za<|e_mv rfl<|e_mv rfl<|e_p (zR ye rfl)<|e_p (zna (z:=(((k - 1):Nat):Int)) rfl rfl (w64 om))<|e_p (zzb (hi:=(k - 1)) ye sz121 rfl (.s rfl) (.inr ⟨_,rfl⟩) om)<|e_p (zd rfl)<|zi<|zT<|zla (k - 1) (show (k - 1)≤l.length∧yk (l.take (k - 1))=yk l from by exact ⟨by omega,by rw [← hT,Big.trim_go l hc.1 hk hc.2]⟩) (by show k - 1<k;omega) ((.e rfl cgs (.c rfl .n)):SubM _ _) (ho:=(o0 rfl)) sN
  ·
   refine zqa<|zk<|zk<|zD<|ze<|zh<|za<|e_mv rfl<|e_p (zd rfl)<|zi<|ze<|zL ?_
   have hfin:l.take k=yk l:=by rw [← hT];exact (Big.trim_stop l hk hc).symm
   have hlk:(l.take k).length=k:=by rw [List.length_take];omega
   refine p_mem (fun w mm=>mm.rowTake 0 rfl k) ?_
   dsimp only [List.set]
   have e3:l.take k=yk l:=by exact hfin
   rw [e3]
   exact zx Tryz.results134 () trivial (zl rfl) (by rw [← hfin,hlk]) (ho:=(o0 rfl)) sN
theorem zVe {a:Nat} {b:Nat} {p1:Option Addr} {c1:Nat} {p2:Option Addr} {c2:Nat} (hb1:(yd a).length≤4398046511104) (hb2:(yd b).length≤4398046511104):Con yh 118 [.slice p1 ((yd a).length) c1,.slice p2 ((yd b).length) c2] [] [slF (rI .u32) p1 c1 (yd a),slF (rI .u32) p2 c2 (yd b)] (Y:=(Option Addr)×Nat) (fun y=>True) (fun y=> .slice (y.1) ((yd (a*b)).length) (y.2)) (fun y=>[rowA 121 (rI .u32) (y.1) (y.2) (yd (a*b))]) (fun y=>[]):=by
 refine zo Tryz.func118 rfl rfl rfl (fun c=> ?_)
 show RunC _ _ _ _ _ [(0,.slice p1 ((yd a).length) c1),(1,.slice p2 ((yd b).length) c2)] [] [slF (rI .u32) p1 c1 (yd a),slF (rI .u32) p2 c2 (yd b)]
 refine zea 0 rfl (fun hL0=> ?_)
 refine zea 1 rfl (fun hL1=> ?_)
 have hoa:=yq a
 have hob:=yq b
 refine zh<|za<|e_p (zd rfl)<|zi<|ze<|zh<|za<|e_mv rfl<|e_p (zR ye rfl)<|e_mv rfl<|e_p (zR ye rfl)<|e_p (zO (z:=(((((yd a).length)+((yd b).length)):Nat):Int)) rfl rfl (w64 om))<|zKa rfl rfl (zyb (r:=rI .u32) (k:=(((yd a).length)+((yd b).length))) (x0:=0) (γ0:=()) ye inf121 rfl rfl rfl rfl om om rfl (fun g _=>by exact zI.2 dd) dd) (fun b1 _=> ?_)
 refine e_p (zd rfl)<|zi<|ze<|zh<|zh<|za<|e_mv rfl<|e_p (zR ye rfl)<|e_mv rfl<|zi<|ze<|zE<|zra (X:=Nat×(List Int)) (fun x:Nat×(List Int)=>x.1≤(yd a).length∧x.2.length=(yd a).length+(yd b).length∧yp x.2∧(∀k,x.1+(yd b).length≤k→x.2.getD k 0=0)∧yg x.2=yg ((yd a).take x.1)*yg (yd b)) (fun x=>[(20,ya yb ((x.1:Nat):Int)),(19,ya yb (((yd a).length:Nat):Int)),(18,.slice p1 ((yd a).length) c1),(5,.slice (some ⟨b1,0,none⟩) (((yd a).length)+((yd b).length)) (((yd a).length)+((yd b).length))),(4,.slice none 0 0),(1,.slice p2 ((yd b).length) c2)]) (fun x=>[rowA 121 (rI .u32) (some ⟨b1,0,none⟩) (((yd a).length)+((yd b).length)) (x.2)]) (fun x=>[slF (rI .u32) p1 c1 (yd a),slF (rI .u32) p2 c2 (yd b)]) (fun x:Nat×(List Int)=>(yd a).length - x.1) (0,List.replicate ((yd a).length+(yd b).length) 0) (show 0≤(yd a).length∧(List.replicate ((yd a).length+(yd b).length) 0).length=(yd a).length+(yd b).length∧yp (List.replicate ((yd a).length+(yd b).length) 0)∧(∀k,0+(yd b).length≤k→(List.replicate ((yd a).length+(yd b).length) 0).getD k 0=0)∧yg (List.replicate ((yd a).length+(yd b).length) 0)=yg ((yd a).take 0)*yg (yd b) from by exact ⟨by omega,by simp,Big.okL_zeros _,fun k _=>Big.getD_zeros _ k,by simp [Big.valL_zeros,yg]⟩) ((.e rfl cgs (.of rfl)):SubM _ _) (ho:=((.e (i:=0) rfl cgs .n):PickO _ _ _)) ((.of [0,1] rfl):SelR _ _ _) ?_
 rintro ⟨i,os⟩ hI
 replace hI:i≤(yd a).length∧os.length=(yd a).length+(yd b).length∧yp os∧(∀k,i+(yd b).length≤k→os.getD k 0=0)∧yg os=yg ((yd a).take i)*yg (yd b):=hI
 try dsimp only
 obtain ⟨hi,hol,hok,hz,hv⟩:=hI
 have hg1:=yn hoa i
 refine zh<|za<|e_p (zda rfl rfl)<|zi<|ze<|zh<|zJ rfl (fun h2=> ?_) (fun h2=> ?_)
 ·
  refine zC<|ze<|zh<|zE<|zh<|za<|e_mv rfl<|zX (x0:=((yd a).getD i 0)) 0 i rfl ye sz121 rfl rfl rfl (by first|rfl|assumption|(simp;omega)|omega) rfl rfl (gD (d:=0) om) (fun b3 o4 hok5=> ?_)
  replace hok5:=zI.1 hok5
  refine e_ru (zB (j:=0) 0 ty121 rfl rfl rfl rfl)<|e_p (zd rfl)<|e_p (zd rfl)<|zi<|ze<|zh<|za<|e_p (zd rfl)<|zi<|ze<|zh<|zh<|za<|e_mv rfl<|e_p (zR ye rfl)<|e_mv rfl<|zi<|ze<|zE<|zra (X:=Nat×(List Int)×Int) (fun x:Nat×(List Int)×Int=>x.1≤(yd b).length∧x.2.1.length=(yd a).length+(yd b).length∧yp x.2.1∧0≤x.2.2∧x.2.2<1000000000∧(∀k,i+(yd b).length≤k→x.2.1.getD k 0=0)∧yg x.2.1+yr (i+x.1)*x.2.2=yg ((yd a).take i)*yg (yd b)+yr i*(yd a).getD i 0*yg ((yd b).take x.1)) (fun x=>[(8,.int .u64 (x.2.2)),(27,ya yb ((x.1:Nat):Int)),(26,ya yb (((yd b).length:Nat):Int)),(25,.slice p2 ((yd b).length) c2),(7,.int .u32 ((yd a).getD i 0)),(6,ya yb ((i:Nat):Int)),(20,ya yb ((i:Nat):Int)),(19,ya yb (((yd a).length:Nat):Int)),(18,.slice p1 ((yd a).length) c1),(5,.slice (some ⟨b1,0,none⟩) (((yd a).length)+((yd b).length)) (((yd a).length)+((yd b).length))),(4,.slice none 0 0),(1,.slice p2 ((yd b).length) c2)]) (fun x=>[rowA 121 (rI .u32) (some ⟨b1,0,none⟩) (((yd a).length)+((yd b).length)) (x.2.1)]) (fun x=>[atF b3 o4 [.int .u32 ((yd a).getD i 0)],slF (rI .u32) p1 c1 (yd a),slF (rI .u32) p2 c2 (yd b)]) (fun x:Nat×(List Int)×Int=>(yd b).length - x.1) (0,os,0) (show 0≤(yd b).length∧os.length=(yd a).length+(yd b).length∧yp os∧0≤0∧0<1000000000∧(∀k,i+(yd b).length≤k→os.getD k 0=0)∧yg os+yr (i+0)*0=yg ((yd a).take i)*yg (yd b)+yr i*(yd a).getD i 0*yg ((yd b).take 0) from by exact ⟨by omega,hol,hok,by decide,by decide,hz,by rw [hv];simp [yg]⟩) ((.c rfl (.e rfl cgs (.of rfl))):SubM _ _) (ho:=(o0 rfl)) ((.of [0,1,2] rfl):SelR _ _ _) ?_
  rintro ⟨j,os2,cy⟩ hJ
  replace hJ:j≤(yd b).length∧os2.length=(yd a).length+(yd b).length∧yp os2∧0≤cy∧cy<1000000000∧(∀k,i+(yd b).length≤k→os2.getD k 0=0)∧yg os2+yr (i+j)*cy=yg ((yd a).take i)*yg (yd b)+yr i*(yd a).getD i 0*yg ((yd b).take j):=hJ
  try dsimp only
  obtain ⟨hj,hol2,hok2,hcy0,hcy1,hz2,hv2⟩:=hJ
  have hg2:=yn hob j
  have hg3:=yn hok2 (i+j)
  have hpq:=Big.mul_lim hg1 hg2
  refine zh<|za<|e_p (zda rfl rfl)<|zi<|ze<|zh<|zJ rfl (fun h6=> ?_) (fun h6=> ?_)
  ·
   refine zC<|ze<|zh<|zE<|zh<|za<|e_mv rfl<|zX (x0:=((yd b).getD j 0)) 2 j rfl ye sz121 rfl rfl rfl (by first|rfl|assumption|(simp;omega)|omega) rfl rfl (gD (d:=0) om) (fun b7 o8 hok9=> ?_)
   replace hok9:=zI.1 hok9
   refine e_ru (zB (j:=0) 0 ty121 rfl rfl rfl rfl)<|e_p (zd rfl)<|e_p (zd rfl)<|zi<|ze<|zh<|za<|e_mv rfl<|e_mv rfl<|e_mv rfl<|e_p (zO (z:=(((i+j):Nat):Int)) rfl rfl (w64 om))<|e_p (zoa (j:=(i+j)) ye sz121 rfl rfl rfl om)<|r_vl rfl rfl (zpa 0 (i+j) rfl ty121 rfl rfl (gD (d:=0) om) rfl) (fun _ hok10=> ?_)
   replace hok10:=zI.1 hok10
   refine e_p (zN (z:=(os2.getD (i+j) 0)) rfl (by rw [yj];rfl) yi (wu64 om))<|e_mv rfl<|e_p (zN (z:=((yd a).getD i 0)) rfl (by rw [yj];rfl) yi (wu64 om))<|e_mv rfl<|e_p (zN (z:=((yd b).getD j 0)) rfl (by rw [yj];rfl) yi (wu64 om))<|e_p (zEa (z:=(((yd a).getD i 0)*((yd b).getD j 0))) rfl rfl (wu64 om))<|e_p (zO (z:=((os2.getD (i+j) 0)+(((yd a).getD i 0)*((yd b).getD j 0)))) rfl rfl (wu64 om))<|e_mv rfl<|e_p (zO (z:=(((os2.getD (i+j) 0)+(((yd a).getD i 0)*((yd b).getD j 0)))+cy)) rfl rfl (wu64 om))<|e_p (zd rfl)<|zi<|ze<|za<|e_mv rfl<|e_mv rfl<|e_mv rfl<|e_p (zO (z:=(((i+j):Nat):Int)) rfl rfl (w64 om))<|e_mv rfl<|e_p (zza (z:=((((os2.getD (i+j) 0)+(((yd a).getD i 0)*((yd b).getD j 0)))+cy)%1000000000)) rfl rfl om (remN om om))<|e_p (zN (z:=((((os2.getD (i+j) 0)+(((yd a).getD i 0)*((yd b).getD j 0)))+cy)%1000000000)) rfl (by rw [yi];rfl) yj (wu32 om))<|e_mv rfl<|e_p (zmb (z:=((((os2.getD (i+j) 0)+(((yd a).getD i 0)*((yd b).getD j 0)))+cy) / 1000000000)) rfl rfl om (by rw [quoN (z:=((((os2.getD (i+j) 0)+(((yd a).getD i 0)*((yd b).getD j 0)))+cy) / 1000000000)) om om];exact wu64 om))<|e_p (zoa (j:=(i+j)) ye sz121 rfl rfl rfl om)<|zQa 0 rfl rfl rfl (zia (j:=(i+j)) (x0:=((((os2.getD (i+j) 0)+(((yd a).getD i 0)*((yd b).getD j 0)))+cy)%1000000000)) (γ0:=()) rfl rfl (by first|omega|(rw [List.length_map];omega)|(simp only [List.length_set];omega)|(simp;done)|(simp;omega)) rfl rfl sz121 (fun _ _=>by exact zI.2 om)) (fun _=> .z) (fun _ _=> ?_)
   refine e_p (zd rfl)<|zi<|zT<|ze<|za<|e_p (zO (z:=(((j+1):Nat):Int)) rfl rfl (w64 om))<|e_mv rfl<|zi<|zla ((j+1),os2.set (i+j) ((os2.getD (i+j) 0+(yd a).getD i 0*(yd b).getD j 0+cy)%1000000000),(os2.getD (i+j) 0+(yd a).getD i 0*(yd b).getD j 0+cy) / 1000000000) (show (j+1)≤(yd b).length∧(os2.set (i+j) ((os2.getD (i+j) 0+(yd a).getD i 0*(yd b).getD j 0+cy)%1000000000)).length=(yd a).length+(yd b).length∧yp (os2.set (i+j) ((os2.getD (i+j) 0+(yd a).getD i 0*(yd b).getD j 0+cy)%1000000000))∧0≤((os2.getD (i+j) 0+(yd a).getD i 0*(yd b).getD j 0+cy) / 1000000000)∧((os2.getD (i+j) 0+(yd a).getD i 0*(yd b).getD j 0+cy) / 1000000000)<1000000000∧(∀k,i+(yd b).length≤k→(os2.set (i+j) ((os2.getD (i+j) 0+(yd a).getD i 0*(yd b).getD j 0+cy)%1000000000)).getD k 0=0)∧yg (os2.set (i+j) ((os2.getD (i+j) 0+(yd a).getD i 0*(yd b).getD j 0+cy)%1000000000))+yr (i+(j+1))*((os2.getD (i+j) 0+(yd a).getD i 0*(yd b).getD j 0+cy) / 1000000000)=yg ((yd a).take i)*yg (yd b)+yr i*(yd a).getD i 0*yg ((yd b).take (j+1)) from by exact ⟨by omega,by simpa using hol2,Big.okL_set hok2 om om,by omega,by omega,fun k hk=>by rw [yy om];exact hz2 k om,Big.mul_step hv2 om om⟩) (by show (yd b).length - (j+1)<(yd b).length - j;omega) ((.e rfl cgs (.of rfl)):SubM _ _) (ho:=((.e (i:=0) rfl cgs .n):PickO _ _ _)) ((.of [1,2,3] rfl):SelR _ _ _)
  ·
   have hjb:j=(yd b).length:=by omega
   subst hjb
   have hv3:=hv2
   refine zqa<|zk<|zk<|zD<|ze<|za<|e_mv rfl<|e_mv rfl<|e_mv rfl<|e_p (zR ye rfl)<|e_p (zO (z:=(((i+((yd b).length)):Nat):Int)) rfl rfl (w64 om))<|e_mv rfl<|e_p (zN (z:=cy) rfl (by rw [yi];rfl) yj (wu32 om))<|e_p (zoa (j:=(i+((yd b).length))) ye sz121 rfl rfl rfl om)<|zQa 0 rfl rfl rfl (zia (j:=(i+((yd b).length))) (x0:=cy) (γ0:=()) rfl rfl (by first|omega|(rw [List.length_map];omega)|(simp only [List.length_set];omega)|(simp;done)|(simp;omega)) rfl rfl sz121 (fun _ _=>by exact zI.2 om)) (fun _=> .z) (fun _ _=> ?_)
   refine zi<|zT<|ze<|za<|e_p (zO (z:=(((i+1):Nat):Int)) rfl rfl (w64 om))<|e_mv rfl<|zi<|zla ((i+1),os2.set (i+(yd b).length) cy) (show (i+1)≤(yd a).length∧(os2.set (i+(yd b).length) cy).length=(yd a).length+(yd b).length∧yp (os2.set (i+(yd b).length) cy)∧(∀k,(i+1)+(yd b).length≤k→(os2.set (i+(yd b).length) cy).getD k 0=0)∧yg (os2.set (i+(yd b).length) cy)=yg ((yd a).take (i+1))*yg (yd b) from by exact ⟨by omega,by simpa using hol2,Big.okL_set hok2 om om,fun k hk=>by rw [yy om];exact hz2 k om,Big.mul_round hv3 om (hz2 _ (Nat.le_refl _))⟩) (by show (yd a).length - (i+1)<(yd a).length - i;omega) (mR rfl) (ho:=((.e (i:=0) rfl cgs .n):PickO _ _ _)) ((.of [1,2] rfl):SelR _ _ _)
 ·
  have hia:i=(yd a).length:=by omega
  have hfin:yk os=yd (a*b):=Big.trimL_of hok (by rw [hv,hia,List.take_length,yu,yu,Int.natCast_mul])
  refine zqa<|zk<|zk<|zD<|ze<|zh<|za<|e_mv rfl<|zvc (A:=[rowA 121 (rI .u32) (some ⟨b1,0,none⟩) (((yd a).length)+((yd b).length)) os]) (F:=[]) (first:=[]) (cap:=[]) rfl rfl rfl (.c rfl .n) ce134 (zDf (p:=some ⟨b1,0,none⟩) (n:=(((yd a).length)+((yd b).length))) (cap:=(((yd a).length)+((yd b).length))) (l:=os) (hn:=cbb)) (.n) ?_
  rintro ⟨⟩ -
  dsimp only [aq,nq,cq]
  refine e_p (zd rfl)<|zi<|ze<|zL ?_
  have e11:yk os=yd (a*b):=by exact hfin
  rw [e11]
  exact zx Tryz.results118 ((some ⟨b1,0,none⟩),(((yd a).length)+((yd b).length))) trivial (zl rfl) rfl (ho:=(o0 rfl)) sN
end Go.Proofs.YtjcpbhlijoigfaaGreat.Sp
