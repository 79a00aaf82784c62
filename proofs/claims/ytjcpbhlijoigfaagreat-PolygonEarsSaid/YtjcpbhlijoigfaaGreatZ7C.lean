/- Lemmas on the walk and plain lemmas that the claim of this folder uses; each states its own conditions. Lines were printed by a program of ours. -/
import Derived.Test.YtjcpbhlijoigfaaGreatZ7B
set_option linter.unusedVariables false
set_option linter.unusedSimpArgs false
set_option linter.unusedSectionVars false
open Go.Proofs.Tryz renaming underlying30 → ya, underlying22 → yb, underlying104 → yc, prog → yd, underlying54 → ye, results15 → yf, results16 → yg, results53 → yh
namespace Go.Proofs.YtjcpbhlijoigfaaGreat.Er
open Pg Sw
set_option linter.unusedVariables false
structure SC (p:List P2):Prop where
  n3:3≤p.length
  nd:p.Nodup
  v:∀e∈cyc p,∀x∈p,x≠e.1→x≠e.2→¬onS e.1 e.2 x
  e:∀e∈cyc p,∀f∈cyc p,e.1≠f.1→e.1≠f.2→e.2≠f.1→e.2≠f.2→¬mt0 e.1 e.2 f.1 f.2
theorem SC.rot {X Y:List P2} (h:SC (X++Y)):SC (Y++X):=by
  have hp:=cyc_rot X Y
  have hm:∀x,x∈Y++X→x∈X++Y:=fun x hx=>List.perm_append_comm.mem_iff.1 hx
  refine ⟨?_,nd_rot h.nd,fun e he x hx=>h.v e (hp.mem_iff.2 he) x (hm x hx),fun e he f hf=>h.e e (hp.mem_iff.2 he) f (hp.mem_iff.2 hf)⟩
  have:=h.n3
  rw [List.length_append] at this ⊢;omega
theorem cyc_getD {α:Type} {l:List α} {n:Nat} (d:α) (hn:l.length=n):cyc l=(List.range n).map (fun i=>(l.getD i d,l.getD ((i+1)%n) d)):=by
  refine List.ext_getElem (by rw [cyc_len,List.length_map,List.length_range,hn]) fun i h1 h2=> ?_
  rw [cyc_len] at h1
  rw [List.getElem_map,List.getElem_range]
  have hc:i<(cyc l).length:=by rw [cyc_len];exact h1
  refine Prod.ext ?_ ?_
  · have e : ((cyc l).map (·.1))[i]'(by rw [cyc_fst]; exact h1) = l[i] := by simp only [cyc_fst]
    rw [List.getElem_map] at e
    rw [e]
    show _=l.getD i d
    rw [List.getD_eq_getElem?_getD,List.getElem?_eq_getElem h1];rfl
  · cases l with
    |nil=>exact absurd h1 (Nat.not_lt_zero _)
    |cons a r=>
      have e:((cyc (a :: r)).map (·.2))[i]'(by rw [List.length_map];exact hc)=(r++[a])[i]'(by simpa using h1):=by simp only [cyc_snd]
      rw [List.getElem_map] at e
      rw [e]
      show _=(a :: r).getD ((i+1)%n) d
      have hm:=md_c (x:=i+1) (m:=n) (by simp at hn h1;omega)
      rw [List.getElem_append]
      simp only [List.length_cons] at h1 hn
      split
      · rename_i k
        rw [show (i+1)%n=i+1 by omega]
        rw [List.getD_eq_getElem?_getD,List.getElem?_cons_succ,List.getElem?_eq_getElem k];rfl
      · rename_i k
        rw [show (i+1)%n=0 by omega]
        simp
theorem cyc_get {l:List P2} {n:Nat} (hn:l.length=n):cyc l=(List.range n).map (fun i=>(gt l i,gt l ((i+1)%n))):=cyc_getD (0,0) hn
theorem mem_cyc {l:List P2} {n:Nat} (hn:l.length=n) {e:P2×P2}:e∈cyc l↔∃i,i<n∧e=(gt l i,gt l ((i+1)%n)):=by
  rw [cyc_get hn,List.mem_map]
  constructor
  · rintro ⟨i, hi, rfl⟩
    exact ⟨i,List.mem_range.1 hi,rfl⟩
  · rintro ⟨i, hi, rfl⟩
    exact ⟨i,List.mem_range.2 hi,rfl⟩
theorem mem_gt {l:List P2} {x:P2} (h:x∈l):∃i,i<l.length∧x=gt l i:=by
  obtain ⟨i,hi,rfl⟩:=List.getElem_of_mem h
  refine ⟨i,hi,?_⟩
  unfold gt
  rw [List.getD_eq_getElem?_getD,List.getElem?_eq_getElem hi];rfl
theorem SC.of {n:Nat} {l:List P2} (h:Sm n l):SC l:=by
  have hl:=h.len
  have h3:=h.n3
  refine ⟨by omega,h.nd,fun e he x hx x1 x2 ho=> ?_,fun e he f hf a1 a2 a3 a4 hm=> ?_⟩
  · obtain ⟨i, hi, rfl⟩ := (mem_cyc hl).1 he
    obtain ⟨k,hk,rfl⟩:=mem_gt hx
    dsimp only at x1 x2 ho
    have k1:k≠i:=fun z=>x1 (by rw [z])
    have k2:k≠(i+1)%n:=fun z=>x2 (by rw [z])
    have hmk:=md_c (x:=k+1) (m:=n) (by omega)
    have hmk2:=md_c (x:=k+2) (m:=n) (by omega)
    have hmi:=md_c (x:=i+1) (m:=n) (by omega)
    by_cases z:(k+1)%n=i
    · refine h.a k (by omega) (.inr ?_)
      rw [z,show (k+2)%n=(i+1)%n by omega];exact ho
    · exact h.b i k hi (by omega) (fun q=>k1 q.symm) (fun q=>k2 q.symm) z (.inr (.inl ho))
  · obtain ⟨i, hi, rfl⟩ := (mem_cyc hl).1 he
    obtain ⟨k,hk,rfl⟩:=(mem_cyc hl).1 hf
    exact h.b i k hi hk (fun z=>a1 (by rw [z])) (fun z=>a3 (by rw [z])) (fun z=>a2 (by rw [z])) (.inl hm)
theorem SC.sm {n:Nat} {l:List P2} (h:SC l) (hn:l.length=n) (h64:n≤64):Sm n l:=by
  have h3:=h.n3
  have inj:∀i j,i<n→j<n→gt l i=gt l j→i=j:=fun i j hi hj e=>by
    unfold gt at e
    rw [List.getD_eq_getElem?_getD,List.getD_eq_getElem?_getD,List.getElem?_eq_getElem (by omega),List.getElem?_eq_getElem (by omega)] at e
    have he2:l[i]'(by omega)=l[j]'(by omega):=e
    have hp:=List.pairwise_iff_getElem.1 h.nd
    rcases Nat.lt_trichotomy i j with k|k|k
    · exact absurd he2 (hp _ _ (by omega) (by omega) k)
    · exact k
    · exact absurd he2.symm (hp _ _ (by omega) (by omega) k)
  have ce:∀i,i<n→(gt l i,gt l ((i+1)%n))∈cyc l:=fun i hi=>(mem_cyc hn).2 ⟨i,hi,rfl⟩
  have me:∀i,i<n→gt l i∈l:=fun i hi=>Ms.getD_mem (0,0) (by omega)
  have md:∀i,i%n<n:=fun i=>Nat.mod_lt _ (by omega)
  have on:∀i k,i<n→k<n→k≠i→k≠(i+1)%n→¬onS (gt l i) (gt l ((i+1)%n)) (gt l k):=fun i k hi hk a b=>h.v _ (ce i hi) _ (me k hk) (fun z=>a (inj _ _ hk hi z)) (fun z=>b (inj _ _ hk (md _) z))
  refine ⟨hn,by omega,h64,h.nd,fun i hi ha=> ?_,fun i j hi hj n1 n2 n3 hm=> ?_⟩
  · have m1 := md_c (x := i + 1) (m := n) (by omega)
    have m2:=md_c (x:=i+2) (m:=n) (by omega)
    have m3:=md_c (x:=(i+1)%n+1) (m:=n) (by omega)
    rcases ha with ha|ha
    · exact on i ((i+2)%n) hi (md _) (by omega) (by omega) ha
    · refine on ((i + 1) % n) i (md _) hi (by omega) (by omega) ?_
      rw [show ((i+1)%n+1)%n=(i+2)%n by omega];exact ha
  · have m1 := md_c (x := i + 1) (m := n) (by omega)
    have m2:=md_c (x:=j+1) (m:=n) (by omega)
    rcases hm with hm|hm|hm|hm|hm
    · exact h.e _ (ce i hi) _ (ce j hj) (fun z=>n1 (inj _ _ hi hj z)) (fun z=>n3 (inj _ _ hi (md _) z).symm) (fun z=>n2 (inj _ _ (md _) hj z)) (fun z=>n1 (by have:=inj _ _ (md _) (md _) z;omega)) hm
    · exact on i j hi hj (fun z=>n1 z.symm) (fun z=>n2 z.symm) hm
    · exact on i ((j+1)%n) hi (md _) n3 (by omega) hm
    · exact on j i hj hi n1 (fun z=>n3 z.symm) hm
    · exact on j ((i+1)%n) hj (md _) n2 (by omega) hm
theorem crs_cyc3 (a b c:P2):crs a b c=crs b c a∧crs a b c=crs c a b:=by unfold crs;constructor <;> grind
theorem crs_sum (u v w x:P2):crs v w x+crs u v x+crs w u x=crs u v w:=by unfold crs;grind
theorem sgm {z w:Int}:z.sign*w.sign<0↔(z<0∧0<w∨0<z∧w<0):=by
  rcases Int.lt_trichotomy z 0 with a|a|a <;> rcases Int.lt_trichotomy w 0 with b|b|b <;> simp [Int.sign_eq_neg_one_of_neg,Int.sign_eq_one_of_pos,a,b] <;> omega
theorem mt0_sw {a b c d:P2} (h:mt0 a b c d):mt0 a b d c:=by
  unfold mt0 at*
  rw [sgm,sgm] at h ⊢
  have h1:=crs_sw c d a
  have h2:=crs_sw c d b
  omega
theorem mt0_sl {a b c d:P2} (h:mt0 a b c d):mt0 b a c d:=by
  unfold mt0 at*
  rw [sgm,sgm] at h ⊢
  have h1:=crs_sw a b c
  have h2:=crs_sw a b d
  omega
theorem mt0_ex {a b c d:P2} (h:mt0 a b c d):mt0 c d a b:=⟨h.2,h.1⟩
theorem onS_sw {a b p:P2} (h:onS a b p):onS b a p:=by
  refine ⟨by rw [crs_sw];have:=h.1;omega,?_⟩
  have:=h.2
  unfold betw at *;omega
theorem btc {a c e f:Int} (ha:a<0) (hc:0<c) (h:c*e=a*f):e≤0∧0≤f∨0≤e∧f≤0:=by
  rcases Int.lt_trichotomy e 0 with k|k|k
  · refine .inl ⟨by omega, Int.not_lt.1 fun z => ?_⟩
    have h1:=Int.mul_pos (show 0< -a by omega) (show 0< -f by omega)
    have h2:=Int.mul_pos hc (show 0< -e by omega)
    grind
  · subst k
    rw [Int.mul_zero] at h
    rcases Int.mul_eq_zero.1 h.symm with z|z <;> omega
  · refine .inr ⟨by omega, Int.not_lt.1 fun z => ?_⟩
    have h1:=Int.mul_pos (show 0< -a by omega) z
    have h2:=Int.mul_pos hc k
    grind
theorem on_line {m v x y:P2} (hV:crs x y v=0) (ha:crs v m x<0) (hc:0<crs v m y):onS x y v:=by
  have e1:crs v m y*(x.1 - v.1)=crs v m x*(y.1 - v.1):=by
    have:crs v m y*(x.1 - v.1) - crs v m x*(y.1 - v.1)=(m.1 - v.1)*crs x y v:=by unfold crs;grind
    rw [hV,Int.mul_zero] at this;omega
  have e2:crs v m y*(x.2 - v.2)=crs v m x*(y.2 - v.2):=by
    have:crs v m y*(x.2 - v.2) - crs v m x*(y.2 - v.2)=(m.2 - v.2)*crs x y v:=by unfold crs;grind
    rw [hV,Int.mul_zero] at this;omega
  have b1:=btc ha hc e1
  have b2:=btc ha hc e2
  exact ⟨hV,by unfold betw;omega⟩
theorem inn {a b c d D X Y:Int} (hX:0<X) (hY:0<Y) (h1:0<Y*a+X*c) (h2:0<Y*b+X*d) (h3:a+b≤c+d) (h4:Y*(a+b)+X*(c+d)≤(X+Y)*D) (h34:a+b<c+d∨Y*(a+b)+X*(c+d)<(X+Y)*D) (ha:a<0):0<c∧((0<b*c - a*d∧b*c - a*d<D*(c - a))∨b*c - a*d=0∨(b*c - a*d<0∧b<0∧0<d∧0<b*c - a*d+D*(d - b))):=by
  have hXY:0<X+Y:=by omega
  have hc:0<c:=Int.not_le.1 fun z=>by
    have:=Int.mul_nonneg (show 0≤Y by omega) (show 0≤ -a by omega)
    have:=Int.mul_nonneg (show 0≤X by omega) (show 0≤ -c by omega)
    grind
  have hca:0<c - a:=by omega
  have strict:∀{p s:Int},0<p→0<s→(X+Y)*p≤s*(Y*(a+b)+X*(c+d)) - (0:Int)→((X+Y)*p<s*(Y*(a+b)+X*(c+d))∨Y*(a+b)+X*(c+d)<(X+Y)*D)→p<D*s:=fun {p s} hp hs k1 k2=>by
    refine Int.not_le.1 fun z=> ?_
    have q1:=Int.mul_nonneg (show 0≤X+Y by omega) (show 0≤p - D*s by omega)
    rcases k2 with k2|k2
    · have q2 := Int.mul_nonneg (show 0 ≤ s by omega) (show 0 ≤ (X + Y) * D - (Y * (a + b) + X * (c + d)) by omega)
      grind
    · have q2 := Int.mul_pos hs (show 0 < (X + Y) * D - (Y * (a + b) + X * (c + d)) by omega)
      grind
  refine ⟨hc,?_⟩
  have i1:(c - a)*(Y*(a+b)+X*(c+d)) - (X+Y)*(b*c - a*d)=(Y*a+X*c)*(c+d - a - b):=by grind
  have i2:(c - a)*(Y*b+X*d)=(X+Y)*(b*c - a*d)+(Y*a+X*c)*(d - b):=by grind
  have i3:(d - b)*(Y*(a+b)+X*(c+d)) - (X+Y)*(a*d - b*c)=(Y*b+X*d)*(c+d - a - b):=by grind
  rcases Int.lt_trichotomy (b*c - a*d) 0 with k|k|k
  · refine .inr (.inr ⟨k, ?_⟩)
    have p1:=Int.mul_pos hca h2
    have p2:=Int.mul_pos hXY (show 0< -(b*c - a*d) by omega)
    have hdb:0<d - b:=Int.not_le.1 fun z=>by
      have:=Int.mul_nonneg (Int.le_of_lt h1) (show 0≤ -(d - b) by omega)
      grind
    have hb:b<0:=Int.not_le.1 fun z=>by
      have q1:=Int.mul_nonneg z (Int.le_of_lt hc)
      have q2:=Int.mul_nonneg (show 0≤ -a by omega) (show 0≤d by omega)
      grind
    have hd:0<d:=Int.not_le.1 fun z=>by
      have q1:=Int.mul_pos hY (show 0< -b by omega)
      have q2:=Int.mul_nonneg (show 0≤X by omega) (show 0≤ -d by omega)
      grind
    refine ⟨hb,hd,?_⟩
    have:=strict (p:=a*d - b*c) (s:=d - b) (by omega) hdb (by
      have:=Int.mul_nonneg (Int.le_of_lt h2) (show 0≤c+d - a - b by omega);omega) (by
      rcases h34 with z|z
      · left
        have:=Int.mul_pos h2 (show 0<c+d - a - b by omega);omega
      · exact .inr z)
    omega
  · exact .inr (.inl k)
  · refine .inl ⟨k,strict k hca (by
      have:=Int.mul_nonneg (Int.le_of_lt h1) (show 0≤c+d - a - b by omega);omega) (by
      rcases h34 with z|z
      · left
        have:=Int.mul_pos h1 (show 0<c+d - a - b by omega);omega
      · exact .inr z)⟩
theorem dsg {D V z:Int} (hD:0<D) (h:D*V=z):(0<z→0<V)∧(z<0→V<0)∧(z=0→V=0):=by
  refine ⟨fun k=>Int.not_le.1 fun q=> ?_,fun k=>Int.not_le.1 fun q=> ?_,fun k=> ?_⟩
  · have:=Int.mul_nonneg (show 0≤D by omega) (show 0≤ -V by omega);grind
  · have:=Int.mul_nonneg (show 0≤D by omega) q;omega
  · rcases Int.mul_eq_zero.1 (h.trans k) with q | q
    · omega
    · exact q
theorem dlt {D V z:Int} (hD:0<D) (h:D*V<D*z):V<z:=Int.lt_of_mul_lt_mul_left h (by omega)
theorem meets {u v w x y:P2} {X Y:Int} (hD:0<crs u v w) (hX:0<X) (hY:0<Y) (h1:0<Y*crs v w x+X*crs v w y) (h2:0<Y*crs u v x+X*crs u v y) (h3:crs w u y≤crs w u x) (h4:0≤Y*crs w u x+X*crs w u y) (h34:crs w u y<crs w u x∨0<Y*crs w u x+X*crs w u y) (hx:crs v w x<0∨crs u v x<0):onS x y v∨mt0 u v x y∨mt0 v w x y:=by
  have s1:=crs_sum u v w x
  have s2:=crs_sum u v w y
  have eV:crs u v w*crs x y v=crs u v x*crs v w y - crs v w x*crs u v y:=by unfold crs;grind
  have eu:crs x y u=crs x y v+(crs u v y - crs u v x):=by unfold crs;grind
  have ew:crs x y w=crs x y v+(crs v w x - crs v w y):=by unfold crs;grind
  have e4:Y*(crs v w x+crs u v x)+X*(crs v w y+crs u v y)=(X+Y)*crs u v w - (Y*crs w u x+X*crs w u y):=by
    rw [show crs v w x+crs u v x=crs u v w - crs w u x by omega,show crs v w y+crs u v y=crs u v w - crs w u y by omega];grind
  obtain ⟨d1,d2,d3⟩:=dsg hD eV
  unfold mt0
  rw [sgm,sgm,sgm,sgm]
  generalize crs u v w=D at*
  rcases hx with ha|hb
  · obtain ⟨hc, k⟩ := inn (a := crs v w x) (b := crs u v x) (c := crs v w y) (d := crs u v y) (D := D) hX hY h1 h2 (by omega) (by omega) (by omega) ha
    rcases k with ⟨k1,k2⟩|k|⟨k1,k2,k3,k4⟩
    · refine .inr (.inr ⟨.inl ⟨ha, hc⟩, ?_⟩)
      have:=d1 k1
      have:crs x y v<crs v w y - crs v w x:=dlt hD (by rw [eV];exact k2)
      omega
    · exact .inl (on_line (d3 k) ha hc)
    · refine .inr (.inl ⟨.inl ⟨k2, k3⟩, ?_⟩)
      have:=d2 k1
      have: -(crs u v y - crs u v x)<crs x y v:=dlt hD (by rw [eV];grind)
      omega
  · obtain ⟨hc, k⟩ := inn (a := crs u v x) (b := crs v w x) (c := crs u v y) (d := crs v w y) (D := D) hX hY h2 h1 (by omega) (by rw [Int.add_comm (crs u v x), Int.add_comm (crs u v y)]; omega) (by rw [Int.add_comm (crs u v x), Int.add_comm (crs u v y)]; omega) hb
    have eN:crs v w x*crs u v y - crs u v x*crs v w y= - (crs u v x*crs v w y - crs v w x*crs u v y):=by grind
    rw [eN] at k
    rcases k with ⟨k1,k2⟩|k|⟨k1,k2,k3,k4⟩
    · refine .inr (.inl ⟨.inl ⟨hb, hc⟩, ?_⟩)
      have:=d2 (by omega)
      have: -(crs u v y - crs u v x)<crs x y v:=dlt hD (by rw [eV];grind)
      omega
    · refine .inl ?_
      have hV:=d3 (by omega)
      have a1:=crs_sw u v x
      have a2:=crs_sw u v y
      refine onS_sw (on_line (m:=u) (v:=v) (x:=y) (y:=x) (by rw [crs_sw];omega) (by omega) (by omega))
    · refine .inr (.inr ⟨.inl ⟨k2, k3⟩, ?_⟩)
      have:=d1 (by omega)
      have:crs x y v<crs v w y - crs v w x:=dlt hD (by rw [eV];grind)
      omega
end Go.Proofs.YtjcpbhlijoigfaaGreat.Er
namespace Go.Proofs.YtjcpbhlijoigfaaGreat.Sw
open Pg
set_option linter.unusedVariables false
def t3 (q a b c:P2):Int:=cr q a b+cr q b c+cr q c a
theorem t3_rot (q a b c:P2):t3 q a b c=t3 q b c a:=by unfold t3;omega
theorem t3_sw (q a b c:P2):t3 q b a c= - t3 q a b c:=by
  unfold t3
  have h1:=cr_sw q a b
  have h2:=cr_sw q b c
  have h3:=cr_sw q c a
  omega
theorem by2 (a b c q:P2):crs b c q*(q.2 - a.2)+crs c a q*(q.2 - b.2)+crs a b q*(q.2 - c.2)=0:=by unfold crs;grind
theorem by1 (a b c q:P2):crs b c q*(q.1 - a.1)+crs c a q*(q.1 - b.1)+crs a b q*(q.1 - c.1)=0:=by unfold crs;grind
theorem byS (a b c q:P2):crs a b q+crs b c q+crs c a q=crs a b c:=by unfold crs;grind
structure Tq (q a b c:P2):Prop where
  r:t3 q a b c=0∨t3 q a b c=1
  i:0<crs a b q→0<crs b c q→0<crs c a q→t3 q a b c=1
  o:t3 q a b c=1→0≤crs a b q∧0≤crs b c q∧0≤crs c a q
theorem Tq.rot {q a b c:P2} (h:Tq q b c a):Tq q a b c:=
  ⟨by rw [t3_rot];exact h.r,fun x y z=>by rw [t3_rot];exact h.i y z x,fun k=>by rw [t3_rot] at k;have:=h.o k;exact ⟨this.2.2,this.1,this.2.1⟩⟩
theorem mnn {x y:Int} (hx:0≤x) (hy:0≤y):0≤x*y:=Int.mul_nonneg hx hy
theorem tA {q a b c:P2} (hS:0<crs a b c) (ha:a.2≤q.2) (hb:q.2<b.2) (hc:q.2<c.2):Tq q a b c:=by
  suffices key:(t3 q a b c=0∨t3 q a b c=1)∧(0<crs a b q→0<crs b c q→0<crs c a q→t3 q a b c=1)∧(t3 q a b c=1→0≤crs a b q∧0≤crs b c q∧0≤crs c a q) from ⟨key.1,key.2.1,key.2.2⟩
  have e2:=by2 a b c q
  have eS:=byS a b c q
  have c1:=cr_c q a b
  have c2:=cr_c q b c
  have c3:=cr_c q c a
  unfold t3 at*
  generalize crs a b q=u at*
  generalize crs b c q=v at*
  generalize crs c a q=w at*
  have k1:¬(u≤0∧w<0):=fun ⟨x,y⟩=>by
    have p3:=mnn (show 0≤ -u by omega) (show 0≤c.2 - q.2 by omega)
    have p2:=Int.mul_pos (show 0< -w by omega) (show 0<b.2 - q.2 by omega)
    have:v<0:=Int.not_le.1 fun z=>by
      have p1:=mnn z (show 0≤q.2 - a.2 by omega)
      grind
    omega
  have k2:0<u→0≤w→0≤v:=fun x y=>Int.not_lt.1 fun z=>by
    have p1:=mnn (show 0≤ -v by omega) (show 0≤q.2 - a.2 by omega)
    have p3:=Int.mul_pos x (show 0<c.2 - q.2 by omega)
    have p2:=mnn y (show 0≤b.2 - q.2 by omega)
    grind
  clear e2
  generalize cr q a b=r1 at*
  generalize cr q b c=r2 at*
  generalize cr q c a=r3 at*
  refine ⟨?_,?_,?_⟩
  · omega
  · intro x y z;omega
  · intro x
    have:=k2
    by_cases z1:0≤w
    · refine ⟨?_,?_,z1⟩ <;> first|omega|(have:=k2 (by omega) z1;omega)
    · omega
theorem tB {q a b c:P2} (hS:0<crs a b c) (ha:a.2≤q.2) (hb:b.2≤q.2) (hc:q.2<c.2):Tq q a b c:=by
  suffices key:(t3 q a b c=0∨t3 q a b c=1)∧(0<crs a b q→0<crs b c q→0<crs c a q→t3 q a b c=1)∧(t3 q a b c=1→0≤crs a b q∧0≤crs b c q∧0≤crs c a q) from ⟨key.1,key.2.1,key.2.2⟩
  have e2:=by2 a b c q
  have eS:=byS a b c q
  have c1:=cr_c q a b
  have c2:=cr_c q b c
  have c3:=cr_c q c a
  unfold t3 at*
  generalize crs a b q=u at*
  generalize crs b c q=v at*
  generalize crs c a q=w at*
  have k1:¬(v≤0∧w<0):=fun ⟨x,y⟩=>by
    have p1:=mnn (show 0≤ -v by omega) (show 0≤q.2 - a.2 by omega)
    have p2:=mnn (show 0≤ -w by omega) (show 0≤q.2 - b.2 by omega)
    have:u≤0:=Int.not_lt.1 fun z=>by
      have p3:=Int.mul_pos z (show 0<c.2 - q.2 by omega)
      grind
    omega
  have k2:0<v→0≤w→0≤u:=fun x y=>Int.not_lt.1 fun z=>by
    have p3:=Int.mul_pos (show 0< -u by omega) (show 0<c.2 - q.2 by omega)
    have p1:=mnn (show 0≤v by omega) (show 0≤q.2 - a.2 by omega)
    have p2:=mnn y (show 0≤q.2 - b.2 by omega)
    grind
  clear e2
  generalize cr q a b=r1 at*
  generalize cr q b c=r2 at*
  generalize cr q c a=r3 at*
  refine ⟨?_,?_,?_⟩
  · omega
  · intro x y z;omega
  · intro x
    have:=k2
    by_cases z1:0≤w
    · refine ⟨?_,?_,z1⟩ <;> first|omega|(have:=k2 (by omega) z1;omega)
    · omega
theorem t0 {q a b c:P2} (hS:0<crs a b c) (h:q.2<a.2∧q.2<b.2∧q.2<c.2∨a.2≤q.2∧b.2≤q.2∧c.2≤q.2):Tq q a b c:=by
  have e2:=by2 a b c q
  have c1:=cr_c q a b
  have c2:=cr_c q b c
  have c3:=cr_c q c a
  have hz:t3 q a b c=0:=by unfold t3;omega
  refine ⟨.inl hz,fun u v w=> ?_,fun k=>by omega⟩
  exfalso
  rcases h with ⟨x,y,z⟩|⟨x,y,z⟩
  · have p1 := Int.mul_pos v (show 0 < a.2 - q.2 by omega)
    have p2:=Int.mul_pos w (show 0<b.2 - q.2 by omega)
    have p3:=Int.mul_pos u (show 0<c.2 - q.2 by omega)
    grind
  · have p1 := mnn (Int.le_of_lt v) (show 0 ≤ q.2 - a.2 by omega)
    have p2:=mnn (Int.le_of_lt w) (show 0≤q.2 - b.2 by omega)
    have p3:=mnn (Int.le_of_lt u) (show 0≤q.2 - c.2 by omega)
    have z1:crs b c q*(q.2 - a.2)=0:=by omega
    have z2:crs c a q*(q.2 - b.2)=0:=by omega
    have z3:crs a b q*(q.2 - c.2)=0:=by omega
    have w1:q.2 - a.2=0:=by rcases Int.mul_eq_zero.1 z1 with k|k;omega;exact k
    have w2:q.2 - b.2=0:=by rcases Int.mul_eq_zero.1 z2 with k|k;omega;exact k
    have w3:q.2 - c.2=0:=by rcases Int.mul_eq_zero.1 z3 with k|k;omega;exact k
    unfold crs at hS
    rw [show c.2 - a.2=0 by omega,show b.2 - a.2=0 by omega,Int.mul_zero,Int.zero_mul] at hS
    omega
theorem tri {q a b c:P2} (hS:0<crs a b c):Tq q a b c:=by
  have h1:0<crs b c a:=by rw [← crs_cyc];exact hS
  have h2:0<crs c a b:=by rw [← crs_cyc];exact h1
  by_cases A:a.2≤q.2 <;> by_cases B:b.2≤q.2 <;> by_cases C:c.2≤q.2
  · exact t0 hS (.inr ⟨A,B,C⟩)
  · exact tB hS A B (by omega)
  · exact (tB h2 C A (by omega)).rot.rot
  · exact tA hS A (by omega) (by omega)
  · exact (tB h1 B C (by omega)).rot
  · exact (tA h1 B (by omega) (by omega)).rot
  · exact (tA h2 C (by omega) (by omega)).rot.rot
  · exact t0 hS (.inl ⟨by omega,by omega,by omega⟩)
theorem bt2 {u v x D d:Int} (h0:0≤d) (h1:d≤D) (hD:0<D) (h:(x - u)*D=d*(v - u)):min u v≤x∧x≤max u v:=by
  rcases Int.le_total 0 (v - u) with k|k
  · have p1 := mnn h0 k
    have p2:=mnn (show 0≤D - d by omega) k
    have a1:0≤x - u:=Int.not_lt.1 fun z=>by
      have:=Int.mul_pos (show 0< -(x - u) by omega) hD
      grind
    have a2:x - u≤v - u:=Int.not_lt.1 fun z=>by
      have:=Int.mul_pos (show 0<(x - u) - (v - u) by omega) hD
      grind
    omega
  · have p1 := mnn h0 (show 0 ≤ -(v - u) by omega)
    have p2:=mnn (show 0≤D - d by omega) (show 0≤ -(v - u) by omega)
    have a1:x - u≤0:=Int.not_lt.1 fun z=>by
      have:=Int.mul_pos (show 0<x - u by omega) hD
      grind
    have a2:v - u≤x - u:=Int.not_lt.1 fun z=>by
      have:=Int.mul_pos (show 0<(v - u) - (x - u) by omega) hD
      grind
    omega
theorem on_of {q a b c:P2} (hS:0<crs a b c) (hu:crs a b q=0) (hv:0≤crs b c q) (hw:0≤crs c a q):onS a b q:=by
  have e1:=by1 a b c q
  have e2:=by2 a b c q
  have eS:=byS a b c q
  rw [hu] at e1 e2 eS
  refine ⟨hu,?_⟩
  generalize crs b c q=v at*
  generalize crs c a q=w at*
  generalize crs a b c=S at*
  have b1:=bt2 (u:=a.1) (v:=b.1) (x:=q.1) (D:=v+w) (d:=w) hw (by omega) (by omega) (by grind)
  have b2:=bt2 (u:=a.2) (v:=b.2) (x:=q.2) (D:=v+w) (d:=w) hw (by omega) (by omega) (by grind)
  exact ⟨b1.1,b1.2,b2.1,b2.2⟩
def inTr (a b c q:P2):Prop:=(0≤(crs a b q).sign∧0≤(crs b c q).sign∧0≤(crs c a q).sign)∨((crs a b q).sign≤0∧(crs b c q).sign≤0∧(crs c a q).sign≤0)
instance (a b c q:P2):Decidable (inTr a b c q):=inferInstanceAs (Decidable (_∨_))
def onE (a b c q:P2):Prop:=onS a b q∨onS b c q∨onS c a q
instance (a b c q:P2):Decidable (onE a b c q):=inferInstanceAs (Decidable (_∨_))
theorem sgn_c (z:Int):z<0∧z.sign= -1∨z=0∧z.sign=0∨0<z∧z.sign=1:=by
  rcases Int.lt_trichotomy z 0 with h|h|h
  · exact .inl ⟨h,Int.sign_eq_neg_one_of_neg h⟩
  · exact .inr (.inl ⟨h,by rw [h];rfl⟩)
  · exact .inr (.inr ⟨h,Int.sign_eq_one_of_pos h⟩)
end Go.Proofs.YtjcpbhlijoigfaaGreat.Sw
namespace Go.Proofs.YtjcpbhlijoigfaaGreat.Er
open Pg Sw
set_option linter.unusedVariables false
theorem comb_g (v q x y:P2) (f1 f2:P2):crs v q y*crs f1 f2 x - crs v q x*crs f1 f2 y=crs x y v*crs f1 f2 q - crs x y q*crs f1 f2 v:=by unfold crs;grind
theorem meet_d {u v w q x y:P2} (hD:0<crs u v w) (ha:0<crs v w q) (hb:0<crs u v q) (hc:0≤crs w u q) (hx:0≤crs v w x→0≤crs u v x→crs w u x≤crs w u q) (hy:0≤crs v w y→0≤crs u v y→crs w u y≤crs w u q) (hm:mt0 v q x y):onS x y v∨mt0 u v x y∨mt0 v w x y:=by
  have key:∀{x y:P2},(0≤crs v w x→0≤crs u v x→crs w u x≤crs w u q)→(0≤crs v w y→0≤crs u v y→crs w u y≤crs w u q)→0<crs v q x→crs v q y<0→crs x y v<0→0<crs x y q→onS x y v∨mt0 u v x y∨mt0 v w x y:=fun {x y} hx hy k1 k2 k3 k4=>by
    have g1:=comb_g v q x y v w
    have g2:=comb_g v q x y u v
    have g3:=comb_g v q x y w u
    have z1:crs v w v=0:=by unfold crs;grind
    have z2:crs u v v=0:=by unfold crs;grind
    have z3:crs w u v=crs u v w:=by unfold crs;grind
    rw [z1,Int.mul_zero,Int.sub_zero] at g1
    rw [z2,Int.mul_zero,Int.sub_zero] at g2
    rw [z3] at g3
    have sq:=crs_sum u v w q
    have sx:=crs_sum u v w x
    have sy:=crs_sum u v w y
    have eQ:crs x y q - crs x y v=crs v q x - crs v q y:=by unfold crs;grind
    have p1:=Int.mul_pos (show 0< -crs x y v by omega) ha
    have p2:=Int.mul_pos (show 0< -crs x y v by omega) hb
    have p3:=Int.mul_pos k4 hD
    have p4:=Int.mul_nonneg (show 0≤ -crs x y v by omega) hc
    -- the place z on both segments: X = crs v q x, Y = - crs v q y
    have h1:0< -crs v q y*crs v w x+crs v q x*crs v w y:=by grind
    have h2:0< -crs v q y*crs u v x+crs v q x*crs u v y:=by grind
    have h4: -crs v q y*crs w u x+crs v q x*crs w u y= -crs x y v*crs w u q+crs x y q*crs u v w:=by grind
    -- z is nearer to v than q
    have far:∀{g:Int},g≤crs w u q→(crs v q x - crs v q y)*g< -crs v q y*crs w u x+crs v q x*crs w u y:=fun {g} hg=>by
      rw [h4,←eQ]
      have p5:=Int.mul_nonneg (show 0≤crs x y q - crs x y v by omega) (show 0≤crs w u q - g by omega)
      have p6:=Int.mul_pos k4 (show 0<crs u v w - crs w u q by omega)
      grind
    rcases Int.le_total (crs w u y) (crs w u x) with o|o
    · have hnx:¬(0≤crs v w x∧0≤crs u v x):=fun z=>by
        have:=far (hx z.1 z.2)
        have:=Int.mul_nonneg (show 0≤crs v q x by omega) (show 0≤crs w u x - crs w u y by omega)
        grind
      exact meets hD k1 (show 0< -crs v q y by omega) h1 h2 o (by rw [h4];omega) (by right;rw [h4];omega) (by omega)
    · have hny:¬(0≤crs v w y∧0≤crs u v y):=fun z=>by
        have:=far (hy z.1 z.2)
        have:=Int.mul_nonneg (show 0≤ -crs v q y by omega) (show 0≤crs w u y - crs w u x by omega)
        grind
      rcases meets (x:=y) (y:=x) hD (show 0< -crs v q y by omega) k1 (by rw [Int.add_comm];exact h1) (by rw [Int.add_comm];exact h2) o (by rw [Int.add_comm,h4];omega) (by right;rw [Int.add_comm,h4];omega) (by omega) with h|h|h
      · exact .inl (onS_sw h)
      · exact .inr (.inl (mt0_sw h))
      · exact .inr (.inr (mt0_sw h))
  unfold mt0 at hm
  rw [sgm,sgm] at hm
  obtain ⟨m1,m2⟩:=hm
  have eQ:crs x y q - crs x y v=crs v q x - crs v q y:=by unfold crs;grind
  rcases m1 with m1|m1
  · have e1 := crs_sw x y v
    have e2:=crs_sw x y q
    rcases key hy hx m1.2 m1.1 (by omega) (by omega) with h|h|h
    · exact .inl (onS_sw h)
    · exact .inr (.inl (mt0_sw h))
    · exact .inr (.inr (mt0_sw h))
  · exact key hx hy m1.1 m1.2 (by omega) (by omega)
theorem meet_e {u v w x y:P2} (hD:0<crs u v w) (hx:¬(0≤crs v w x∧0≤crs u v x∧0≤crs w u x)) (hy:¬(0≤crs v w y∧0≤crs u v y∧0≤crs w u y)) (hm:mt0 w u x y):onS x y v∨mt0 u v x y∨mt0 v w x y:=by
  have key:∀{x y:P2},¬(0≤crs v w x∧0≤crs u v x∧0≤crs w u x)→0<crs w u x→crs w u y<0→(crs x y w<0∧0<crs x y u∨0<crs x y w∧crs x y u<0)→onS x y v∨mt0 u v x y∨mt0 v w x y:=fun {x y} hx k1 k2 k3=>by
    have g1:=comb_g w u x y v w
    have g2:=comb_g w u x y u v
    have z1:crs v w u=crs u v w:=by unfold crs;grind
    have z2:crs v w w=0:=by unfold crs;grind
    have z3:crs u v u=0:=by unfold crs;grind
    rw [z1,z2,Int.mul_zero] at g1
    rw [z3,Int.mul_zero] at g2
    have sx:=crs_sum u v w x
    have sy:=crs_sum u v w y
    have eQ:crs x y u - crs x y w=crs w u x - crs w u y:=by unfold crs;grind
    have hs:crs x y w<0∧0<crs x y u:=by omega
    have p1:=Int.mul_pos (show 0< -crs x y w by omega) hD
    have p2:=Int.mul_pos hs.2 hD
    have h1:0< -crs w u y*crs v w x+crs w u x*crs v w y:=by grind
    have h2:0< -crs w u y*crs u v x+crs w u x*crs u v y:=by grind
    have h4: -crs w u y*crs w u x+crs w u x*crs w u y=0:=by grind
    exact meets hD k1 (show 0< -crs w u y by omega) h1 h2 (by omega) (by omega) (by left;omega) (by omega)
  unfold mt0 at hm
  rw [sgm,sgm] at hm
  obtain ⟨m1,m2⟩:=hm
  rcases m1 with m1|m1
  · have e1 := crs_sw x y w
    have e2:=crs_sw x y u
    rcases key hy m1.2 m1.1 (by omega) with h|h|h
    · exact .inl (onS_sw h)
    · exact .inr (.inl (mt0_sw h))
    · exact .inr (.inr (mt0_sw h))
  · exact key hx m1.1 m1.2 (by omega)
theorem frac1 {D t e g:Int} (hD:0<D) (hh:D*g=t*e) (hne:e≠0) (hb:0≤g∧g≤e∨e≤g∧g≤0):0≤t∧t≤D:=by
  rcases hb with ⟨g1,g2⟩|⟨g1,g2⟩
  · have he : 0 < e := by omega
    refine ⟨Int.not_lt.1 fun z=> ?_,Int.not_lt.1 fun z=> ?_⟩
    · have p1 := Int.mul_pos (show 0 < -t by omega) he
      have p2:=Int.mul_nonneg (show 0≤D by omega) g1
      grind
    · have p1 := Int.mul_pos (show 0 < t - D by omega) he
      have p2:=Int.mul_nonneg (show 0≤D by omega) (show 0≤e - g by omega)
      grind
  · have he : 0 < -e := by omega
    refine ⟨Int.not_lt.1 fun z=> ?_,Int.not_lt.1 fun z=> ?_⟩
    · have p1 := Int.mul_pos (show 0 < -t by omega) he
      have p2:=Int.mul_nonneg (show 0≤D by omega) (show 0≤ -g by omega)
      grind
    · have p1 := Int.mul_pos (show 0 < t - D by omega) he
      have p2:=Int.mul_nonneg (show 0≤D by omega) (show 0≤g - e by omega)
      grind
theorem third_in {u v w x:P2} (hD:0<crs u v w) (ho:onS w u x):0≤crs v w x∧0≤crs u v x∧0≤crs w u x:=by
  have hx0:=ho.1
  have s:=crs_sum u v w x
  have b1:=ho.2
  have d3:w≠u:=fun z=>by subst z;unfold crs at hD;grind
  have e1:crs u v w*(x.1 - u.1)=crs u v x*(w.1 - u.1):=by
    have:crs u v w*(x.1 - u.1) - crs u v x*(w.1 - u.1)=(v.1 - u.1)*crs w u x:=by unfold crs;grind
    rw [hx0,Int.mul_zero] at this;omega
  have e2:crs u v w*(x.2 - u.2)=crs u v x*(w.2 - u.2):=by
    have:crs u v w*(x.2 - u.2) - crs u v x*(w.2 - u.2)=(v.2 - u.2)*crs w u x:=by unfold crs;grind
    rw [hx0,Int.mul_zero] at this;omega
  have hne:w.1 - u.1≠0∨w.2 - u.2≠0:=by
    by_cases k:w.1 - u.1=0
    · exact .inr fun k2=>d3 (Prod.ext (by omega) (by omega))
    · exact .inl k
  have hb2:0≤crs u v x∧crs u v x≤crs u v w:=by
    unfold betw at b1
    rcases hne with k|k
    · exact frac1 hD e1 k (by omega)
    · exact frac1 hD e2 k (by omega)
  exact ⟨by omega,hb2.1,by omega⟩
theorem seg_in {u v w q x:P2} (hD:0<crs u v w) (ha:0<crs v w q) (hb:0<crs u v q) (ho:onS v q x) (hx:x≠q):0≤crs v w x∧0≤crs u v x∧crs w u q<crs w u x:=by
  have hx0:=ho.1
  have b1:=ho.2
  have s1:=crs_sum u v w x
  have s2:=crs_sum u v w q
  have d3:q≠v:=fun z=>by subst z;unfold crs at ha;grind
  have e1:crs v w q*(x.1 - v.1)=crs v w x*(q.1 - v.1):=by
    have:crs v w q*(x.1 - v.1) - crs v w x*(q.1 - v.1)= -((w.1 - v.1)*crs v q x):=by unfold crs;grind
    rw [hx0,Int.mul_zero] at this;omega
  have e2:crs v w q*(x.2 - v.2)=crs v w x*(q.2 - v.2):=by
    have:crs v w q*(x.2 - v.2) - crs v w x*(q.2 - v.2)= -((w.2 - v.2)*crs v q x):=by unfold crs;grind
    rw [hx0,Int.mul_zero] at this;omega
  have e3:crs v w q*crs u v x=crs v w x*crs u v q:=by
    have:crs v w q*crs u v x - crs v w x*crs u v q= -(crs u v w*crs v q x):=by unfold crs;grind
    rw [hx0,Int.mul_zero] at this;omega
  have hne:q.1 - v.1≠0∨q.2 - v.2≠0:=by
    by_cases k:q.1 - v.1=0
    · exact .inr fun k2=>d3 (Prod.ext (by omega) (by omega))
    · exact .inl k
  have hb2:0≤crs v w x∧crs v w x≤crs v w q:=by
    unfold betw at b1
    rcases hne with k|k
    · exact frac1 ha e1 k (by omega)
    · exact frac1 ha e2 k (by omega)
  have hlt:crs v w x≠crs v w q:=fun z=>hx (by
    rw [z] at e1 e2
    have k1:=Int.eq_of_mul_eq_mul_left (by omega) e1
    have k2:=Int.eq_of_mul_eq_mul_left (by omega) e2
    exact Prod.ext (by omega) (by omega))
  have hbn:0≤crs u v x∧crs u v x<crs u v q:=by
    refine ⟨Int.not_lt.1 fun z=> ?_,Int.not_le.1 fun z=> ?_⟩
    · have p1 := Int.mul_nonneg hb2.1 (Int.le_of_lt hb)
      have p2:=Int.mul_pos ha (show 0< -crs u v x by omega)
      grind
    · have p1 := Int.mul_pos (show 0 < crs v w q - crs v w x by omega) hb
      have p2:=Int.mul_nonneg (Int.le_of_lt ha) (show 0≤crs u v x - crs u v q by omega)
      grind
  exact ⟨hb2.1,hbn.1,by omega⟩
section
variable {s : Int} (hs : s = 1 ∨ s = -1)
theorem rev3 (a b c:P2):crs c b a= - crs a b c:=by unfold crs;grind
theorem s1m (z:Int):(1:Int)*z=z:=Int.one_mul z
theorem snm (z:Int):(-1:Int)*z= -z:=by omega
include hs
theorem meet_ds {u v w q x y:P2} (hD:0<s*crs u v w) (ha:0<s*crs v w q) (hb:0<s*crs u v q) (hc:0≤s*crs w u q) (hx:0≤s*crs v w x→0≤s*crs u v x→s*crs w u x≤s*crs w u q) (hy:0≤s*crs v w y→0≤s*crs u v y→s*crs w u y≤s*crs w u q) (hm:mt0 v q x y):onS x y v∨mt0 u v x y∨mt0 v w x y:=by
  rcases hs with rfl|rfl
  · simp only [s1m] at hD ha hb hc hx hy
    exact meet_d hD ha hb hc hx hy hm
  · simp only [snm] at hD ha hb hc hx hy
    have r:=rev3 u v w
    have r1:∀z,crs v u z= - crs u v z:=fun z=>crs_sw _ _ _
    have r2:∀z,crs w v z= - crs v w z:=fun z=>crs_sw _ _ _
    have r3:∀z,crs u w z= - crs w u z:=fun z=>crs_sw _ _ _
    rcases meet_d (u:=w) (v:=v) (w:=u) (q:=q) (x:=x) (y:=y) (by omega) (by rw [r1];exact hb) (by rw [r2];exact ha) (by rw [r3];exact hc) (fun a b=>by rw [r3,r3];rw [r1] at a;rw [r2] at b;exact hx b a) (fun a b=>by rw [r3,r3];rw [r1] at a;rw [r2] at b;exact hy b a) hm with h|h|h
    · exact .inl h
    · exact .inr (.inr (mt0_sl h))
    · exact .inr (.inl (mt0_sl h))
theorem meet_es {u v w x y:P2} (hD:0<s*crs u v w) (hx:¬(0≤s*crs v w x∧0≤s*crs u v x∧0≤s*crs w u x)) (hy:¬(0≤s*crs v w y∧0≤s*crs u v y∧0≤s*crs w u y)) (hm:mt0 w u x y):onS x y v∨mt0 u v x y∨mt0 v w x y:=by
  rcases hs with rfl|rfl
  · simp only [s1m] at hD hx hy
    exact meet_e hD hx hy hm
  · simp only [snm] at hD hx hy
    have r:=rev3 u v w
    have r1:∀z,crs v u z= - crs u v z:=fun z=>crs_sw _ _ _
    have r2:∀z,crs w v z= - crs v w z:=fun z=>crs_sw _ _ _
    have r3:∀z,crs u w z= - crs w u z:=fun z=>crs_sw _ _ _
    rcases meet_e (u:=w) (v:=v) (w:=u) (x:=x) (y:=y) (by omega) (by rw [r1,r2,r3];omega) (by rw [r1,r2,r3];omega) (mt0_sl hm) with h|h|h
    · exact .inl h
    · exact .inr (.inr (mt0_sl h))
    · exact .inr (.inl (mt0_sl h))
theorem third_s {u v w x:P2} (hD:0<s*crs u v w) (ho:onS w u x):0≤s*crs v w x∧0≤s*crs u v x∧0≤s*crs w u x:=by
  rcases hs with rfl|rfl
  · simp only [s1m] at hD ⊢
    exact third_in hD ho
  · simp only [snm] at hD ⊢
    have r:=rev3 u v w
    have h:=third_in (u:=w) (v:=v) (w:=u) (x:=x) (by omega) (onS_sw ho)
    have r1:=crs_sw u v x
    have r2:=crs_sw v w x
    have r3:=crs_sw w u x
    omega
theorem seg_s {u v w q x:P2} (hD:0<s*crs u v w) (ha:0<s*crs v w q) (hb:0<s*crs u v q) (ho:onS v q x) (hx:x≠q):0≤s*crs v w x∧0≤s*crs u v x∧s*crs w u q<s*crs w u x:=by
  rcases hs with rfl|rfl
  · simp only [s1m] at hD ha hb ⊢
    exact seg_in hD ha hb ho hx
  · simp only [snm] at hD ha hb ⊢
    have r:=rev3 u v w
    have a1:=crs_sw u v q
    have a2:=crs_sw v w q
    have h:=seg_in (u:=w) (v:=v) (w:=u) (x:=x) (q:=q) (by omega) (by omega) (by omega) ho hx
    have r1:=crs_sw u v x
    have r2:=crs_sw v w x
    have r3:=crs_sw w u x
    have r4:=crs_sw w u q
    omega
theorem side_s {a b c q:P2} (hS:0<s*crs a b c) (hu:crs a b q=0) (hv:0≤s*crs b c q) (hw:0≤s*crs c a q):onS a b q:=by
  rcases hs with rfl|rfl
  · simp only [s1m] at hS hv hw
    exact Sw.on_of hS hu hv hw
  · simp only [snm] at hS hv hw
    have r:=crs_sw a b c
    have r1:=crs_sw a b q
    have r2:=crs_sw b c q
    have r3:=crs_sw c a q
    exact onS_sw (Sw.on_of (a:=b) (b:=a) (c:=c) (by omega) (by omega) (by omega) (by omega))
end
theorem SC.part {i j:P2} {A B:List P2} (h:SC (i :: A++j :: B)) (hA:A≠[]) (d1:∀x∈i :: A++j :: B,x≠i→x≠j→¬onS i j x) (d2:∀f∈cyc (i :: A++j :: B),f.1≠i→f.1≠j→f.2≠i→f.2≠j→¬mt0 i j f.1 f.2):SC (i :: A++[j]):=by
  have c0:=cyc_split i A j B
  have c1:=cyc_left i A j
  have sub:∀x,x∈i :: A++[j]→x∈i :: A++j :: B:=fun x hx=>by simp at hx ⊢;rcases hx with k|k|k <;> simp [k]
  have ce:∀e∈cyc (i :: A++[j]),e∈cyc (i :: A++j :: B)∨e=(j,i):=fun e he=>by
    rw [c1] at he
    rcases List.mem_append.1 he with k|k
    · exact .inl (by rw [c0];exact List.mem_append.2 (.inl k))
    · exact .inr (List.mem_singleton.1 k)
  refine ⟨?_,?_,fun e he x hx x1 x2 ho=> ?_,fun e he f hf a1 a2 a3 a4 hm=> ?_⟩
  · have : 0 < A.length := List.length_pos_iff.2 hA
    simp;omega
  · obtain ⟨n1, n2, n3⟩ := List.nodup_append.1 h.nd
    exact List.nodup_append.2 ⟨n1,by simp,fun a ha b hb=>n3 a ha b (by rw [List.mem_singleton.1 hb];exact List.mem_cons_self ..)⟩
  · rcases ce e he with k | rfl
    · exact h.v e k x (sub x hx) x1 x2 ho
    · exact d1 x (sub x hx) x2 x1 (onS_sw ho)
  · rcases ce e he with k | rfl <;> rcases ce f hf with q | rfl
    · exact h.e e k f q a1 a2 a3 a4 hm
    · exact d2 e k a2 a1 a4 a3 (mt0_sl (mt0_ex hm))
    · exact d2 f q (fun z=>a3 z.symm) (fun z=>a1 z.symm) (fun z=>a4 z.symm) (fun z=>a2 z.symm) (mt0_sl hm)
    · exact a1 rfl
theorem SC.two {i j:P2} {A B:List P2} (h:SC (i :: A++j :: B)) (hA:A≠[]) (hB:B≠[]) (d1:∀x∈i :: A++j :: B,x≠i→x≠j→¬onS i j x) (d2:∀f∈cyc (i :: A++j :: B),f.1≠i→f.1≠j→f.2≠i→f.2≠j→¬mt0 i j f.1 f.2):SC (i :: A++[j])∧SC (j :: B++[i]):=by
  refine ⟨h.part hA d1 d2,SC.part (B:=A) h.rot hB (fun x hx a b ho=>d1 x (List.perm_append_comm.mem_iff.1 hx) b a (onS_sw ho)) fun f hf a b c d hm=>d2 f ((cyc_rot _ _).mem_iff.1 hf) b a d c (mt0_sl hm)⟩
section
variable {u v w : P2} {A : List P2}
theorem SC.ends (h:SC (v :: w :: A++[u])):(u,v)∈cyc (v :: w :: A++[u])∧(v,w)∈cyc (v :: w :: A++[u]):=by
  have e:=cyc_left v (w :: A) u
  refine ⟨?_,?_⟩
  · show _ ∈ cyc (v :: (w :: A) ++ [u])
    rw [e];simp
  · show _ ∈ cyc (v :: (w :: A) ++ [u])
    rw [e]
    exact List.mem_append.2 (.inl (List.mem_cons_self ..))
theorem SC.dif (h:SC (v :: w :: A++[u])):v≠w∧v≠u∧w≠u∧∀q∈A,q≠v∧q≠w∧q≠u:=by
  have hn:=h.nd
  simp only [List.cons_append,List.nodup_cons,List.mem_cons,List.mem_append,List.nodup_append,not_or] at hn
  obtain ⟨⟨a1,a2,a3⟩,⟨b1,b2⟩,c1,c2,c3⟩:=hn
  refine ⟨a1,fun z=>a3.1 z,fun z=>b2.1 z,fun q hq=>⟨fun z=>a2 (z ▸ hq),fun z=>b1 (z ▸ hq),fun z=>c3 q hq u (by simp) z⟩⟩
theorem SC.side (h:SC (v :: w :: A++[u])) {q:P2} (hq:q∈A):¬onS u v q∧¬onS v w q:=by
  obtain ⟨e1,e2⟩:=h.ends
  obtain ⟨d1,d2,d3,d4⟩:=h.dif
  obtain ⟨q1,q2,q3⟩:=d4 q hq
  have hm:q∈v :: w :: A++[u]:=by simp [hq]
  exact ⟨h.v _ e1 q hm q3 q1,h.v _ e2 q hm q1 q2⟩
theorem SC.inn {s:Int} (hs:s=1∨s= -1) (h:SC (v :: w :: A++[u])) (hD:0<s*crs u v w) {q:P2} (hq:q∈A) (ha:0≤s*crs v w q) (hb:0≤s*crs u v q) (hc:0≤s*crs w u q):0<s*crs v w q∧0<s*crs u v q:=by
  obtain ⟨s1,s2⟩:=h.side hq
  have c1:=(crs_cyc3 u v w).1
  have z:∀{z:Int},0=s*z→z=0:=fun {z} k=>by rcases hs with rfl|rfl <;> omega
  refine ⟨?_,?_⟩
  · rcases Int.lt_or_eq_of_le ha with k | k
    · exact k
    · exact absurd (side_s hs (a:=v) (b:=w) (c:=u) (by rw [← c1];exact hD) (z k) hc hb) s2
  · rcases Int.lt_or_eq_of_le hb with k | k
    · exact k
    · exact absurd (side_s hs (a:=u) (b:=v) (c:=w) hD (z k) ha hc) s1
theorem SC.clear (h:SC (v :: w :: A++[u])) {f:P2×P2} (hf:f∈cyc (v :: w :: A++[u])) (f1:f.1≠v) (f2:f.2≠v):¬(onS f.1 f.2 v∨mt0 u v f.1 f.2∨mt0 v w f.1 f.2):=by
  obtain ⟨e1,e2⟩:=h.ends
  have hv:v∈v :: w :: A++[u]:=by simp
  have z1:∀a b:P2,crs a b a=0:=fun a b=>by unfold crs;grind
  have z2:∀a b:P2,crs a b b=0:=fun a b=>by unfold crs;grind
  rintro (k|k|k)
  · exact h.v f hf v hv (fun z=>f1 z.symm) (fun z=>f2 z.symm) k
  · refine h.e _ e1 f hf (fun z => ?_) (fun z => ?_) (fun z => f1 z.symm) (fun z => f2 z.symm) k
    · dsimp only at z
      unfold mt0 at k;rw [← z,z1] at k;simp at k
    · dsimp only at z
      unfold mt0 at k;rw [← z,z1] at k;simp at k
  · refine h.e _ e2 f hf (fun z => f1 z.symm) (fun z => f2 z.symm) (fun z => ?_) (fun z => ?_) k
    · dsimp only at z
      unfold mt0 at k;rw [← z,z2] at k;simp at k
    · dsimp only at z
      unfold mt0 at k;rw [← z,z2] at k;simp at k
theorem SC.cut {s:Int} (hs:s=1∨s= -1) (h:SC (v :: w :: A++[u])) (hA:A≠[]) (hD:0<s*crs u v w) (he:∀q∈A,¬(0≤s*crs v w q∧0≤s*crs u v q∧0≤s*crs w u q)):SC (w :: A++[u]):=by
  have h':SC (w :: A++u :: [v]):=by
    have:=SC.rot (X:=[v]) (Y:=w :: A++[u]) h
    simpa using this
  have hc:∀f,f∈cyc (w :: A++u :: [v])→f∈cyc (v :: w :: A++[u]):=fun f hf=>by
    have:=(cyc_rot [v] (w :: A++[u])).mem_iff (a:=f)
    exact this.2 (by simpa using hf)
  obtain ⟨d1,d2,d3,d4⟩:=h.dif
  have hin:∀x,x∈v :: w :: A++[u]→x≠v→x≠w→x≠u→x∈A:=fun x hx a b c=>by
    simp at hx
    rcases hx with k|k|k|k
    · exact absurd k a
    · exact absurd k b
    · exact k
    · exact absurd k c
  refine h'.part hA (fun x hx x1 x2 ho=> ?_) fun f hf a b c d hm=> ?_
  · by_cases xv : x = v
    · subst xv
      have h1:=ho.1
      have h2:=(crs_cyc3 u x w).2
      rw [h2,h1,Int.mul_zero] at hD
      exact absurd hD (Int.lt_irrefl 0)
    · have hxA := hin x (by simp at hx ⊢; rcases hx with k | k | k | k <;> simp [k]) xv x1 x2
      exact he x hxA (third_s hs hD ho)
  · by_cases f1 : f.1 = v
    · have hs : f.2 = w := by have k := hc f hf; obtain ⟨fa, fb⟩ := f; dsimp only at f1 ⊢; rw [f1] at k; exact cyc_succ h.nd k h.ends.2
      exact absurd hs c
    · by_cases f2 : f.2 = v
      · have hs : f.1 = u := by have k := hc f hf; obtain ⟨fa, fb⟩ := f; dsimp only at f2 ⊢; rw [f2] at k; exact cyc_pred h.nd k h.ends.1
        exact absurd hs b
      · have m1 : f.1 ∈ A := hin _ (cyc_mem (hc f hf)).1 f1 a b
        have m2:f.2∈A:=hin _ (cyc_mem (hc f hf)).2 f2 c d
        exact h.clear (hc f hf) f1 f2 (meet_es hs hD (he _ m1) (he _ m2) hm)
theorem SC.near {s:Int} (hs:s=1∨s= -1) {A1 A2:List P2} {q:P2} (h:SC (v :: w :: (A1++q :: A2)++[u])) (hD:0<s*crs u v w) (ha:0≤s*crs v w q) (hb:0≤s*crs u v q) (hc:0≤s*crs w u q) (hmin:∀x∈A1++q :: A2,0≤s*crs v w x→0≤s*crs u v x→0≤s*crs w u x→s*crs w u x≤s*crs w u q):SC (v :: (w :: A1)++[q])∧SC (q :: (A2++[u])++[v]):=by
  have hq:q∈A1++q :: A2:=by simp
  obtain ⟨ha',hb'⟩:=h.inn hs hD hq ha hb hc
  obtain ⟨d1,d2,d3,d4⟩:=h.dif
  have e:v :: w :: (A1++q :: A2)++[u]=v :: (w :: A1)++q :: (A2++[u]):=by simp
  have zw:crs w u w=0:=by unfold crs;grind
  have zu:crs w u u=0:=by unfold crs;grind
  have near:∀x∈v :: w :: (A1++q :: A2)++[u],x≠v→0≤s*crs v w x→0≤s*crs u v x→s*crs w u x≤s*crs w u q:=fun x hx xv k1 k2=>by
    by_cases xw:x=w
    · rw [xw,zw,Int.mul_zero];exact hc
    · by_cases xu : x = u
      · rw [xu,zu,Int.mul_zero];exact hc
      · have hxA:x∈A1++q :: A2:=by
          simp only [List.cons_append,List.mem_cons,List.mem_append,List.not_mem_nil,or_false] at hx ⊢
          rcases hx with k|k|k|k
          · exact absurd k xv
          · exact absurd k xw
          · exact k
          · exact absurd k xu
        by_cases k3:0≤s*crs w u x
        · exact hmin x hxA k1 k2 k3
        · omega
  rw [e] at h near
  refine h.two (by simp) (by simp) (fun x hx x1 x2 ho=> ?_) fun f hf a b c d hm=> ?_
  · obtain ⟨k1, k2, k3⟩ := seg_s hs hD ha' hb' ho x2
    have:=near x hx x1 k1 k2
    omega
  · rw [← e] at h hf
    obtain ⟨m1,m2⟩:=cyc_mem (x:=f.1) (y:=f.2) hf
    rw [e] at m1 m2
    exact h.clear hf a c (meet_ds hs hD ha' hb' hc (near _ m1 a) (near _ m2 c) hm)
end
end Go.Proofs.YtjcpbhlijoigfaaGreat.Er
namespace Go.Proofs.YtjcpbhlijoigfaaGreat.Er
open Pg Sw
set_option linter.unusedVariables false
abbrev T3P:=P2×P2×P2
def sc (K:Int) (x:P2):P2:=(K*x.1,K*x.2)
theorem crs_sc (K:Int) (a b c:P2):crs (sc K a) (sc K b) (sc K c)=K*K*crs a b c:=by unfold crs sc;grind
theorem sc_inj {K:Int} (hK:0<K) {a b:P2} (h:sc K a=sc K b):a=b:=by
  unfold sc at h
  have h1:=congrArg Prod.fst h
  have h2:=congrArg Prod.snd h
  exact Prod.ext (Int.eq_of_mul_eq_mul_left (by omega) h1) (Int.eq_of_mul_eq_mul_left (by omega) h2)
theorem kk_pos {K z:Int} (hK:0<K):(0<K*K*z↔0<z)∧(K*K*z<0↔z<0)∧(K*K*z=0↔z=0):=by
  have h:=Int.mul_pos hK hK
  rcases Int.lt_trichotomy z 0 with k|k|k
  · have := Int.mul_pos h (show 0 < -z by omega)
    have e:K*K* -z= -(K*K*z):=by grind
    omega
  · subst k;simp
  · have := Int.mul_pos h k
    omega
theorem wi_sc {K a b x:Int} (hK:0<K) (h:wi (K*a) (K*b) (K*x)):wi a b x:=by
  unfold wi at*
  rcases h with ⟨h1,h2⟩|⟨h1,h2⟩
  · exact .inl ⟨Int.le_of_mul_le_mul_left h1 hK,Int.le_of_mul_le_mul_left h2 hK⟩
  · exact .inr ⟨Int.le_of_mul_le_mul_left h1 hK,Int.le_of_mul_le_mul_left h2 hK⟩
theorem onS_sc {K:Int} (hK:0<K) {a b x:P2} (h:onS (sc K a) (sc K b) (sc K x)):onS a b x:=by
  refine ⟨(kk_pos hK).2.2.1 (by rw [← crs_sc];exact h.1),betw_wi.2 ?_⟩
  obtain ⟨h1,h2⟩:=betw_wi.1 h.2
  exact ⟨wi_sc hK h1,wi_sc hK h2⟩
theorem mt0_sc {K:Int} (hK:0<K) {a b c d:P2} (h:mt0 (sc K a) (sc K b) (sc K c) (sc K d)):mt0 a b c d:=by
  unfold mt0 at*
  rw [sgm,sgm] at*
  simp only [crs_sc] at h
  have k1:=kk_pos (z:=crs a b c) hK
  have k2:=kk_pos (z:=crs a b d) hK
  have k3:=kk_pos (z:=crs c d a) hK
  have k4:=kk_pos (z:=crs c d b) hK
  omega
theorem SC.sc {p:List P2} (h:SC p) {K:Int} (hK:0<K):SC (p.map (Er.sc K)):=by
  have ce:∀e∈cyc (p.map (Er.sc K)),∃f∈cyc p,e=(Er.sc K f.1,Er.sc K f.2):=fun e he=>by
    rw [cyc_map] at he
    obtain ⟨f,hf,rfl⟩:=List.mem_map.1 he
    exact ⟨f,hf,rfl⟩
  refine ⟨by rw [List.length_map];exact h.n3,nd_map h.nd fun a _ b _ e=>sc_inj hK e,fun e he x hx x1 x2 ho=> ?_,fun e he f hf a1 a2 a3 a4 hm=> ?_⟩
  · obtain ⟨g, hg, rfl⟩ := ce e he
    obtain ⟨y,hy,rfl⟩:=List.mem_map.1 hx
    exact h.v g hg y hy (fun z=>x1 (by rw [z])) (fun z=>x2 (by rw [z])) (onS_sc hK ho)
  · obtain ⟨g, hg, rfl⟩ := ce e he
    obtain ⟨k,hk,rfl⟩:=ce f hf
    exact h.e g hg k hk (fun z=>a1 (by dsimp only;rw [z])) (fun z=>a2 (by dsimp only;rw [z])) (fun z=>a3 (by dsimp only;rw [z])) (fun z=>a4 (by dsimp only;rw [z])) (mt0_sc hK hm)
def fK (K:Int) (q:P2) (e:P2×P2):Int:=cr q (sc K e.1) (sc K e.2)
def W (K:Int) (p:List P2) (q:P2):Int:=sm (fK K q) (cyc p)
def tv (K:Int) (q:P2) (t:T3P):Int:=t3 q (sc K t.1) (sc K t.2.1) (sc K t.2.2)
def ts (K:Int) (q:P2):List T3P→Int
  |[]=>0
  |t :: T=>tv K q t+ts K q T
theorem ts_app (K:Int) (q:P2) (A B:List T3P):ts K q (A++B)=ts K q A+ts K q B:=by
  induction A with
  |nil=>simp [ts]
  |cons a A ih=>rw [List.cons_append];simp only [ts];rw [ih];omega
theorem ts_eds (K:Int) (q:P2):∀T:List T3P,sm (fK K q) (edsG T)=ts K q T
  |[]=>rfl
  |t :: T=>by
    rw [edsG_cons,sm_app,ts_eds K q T]
    show _=tv K q t+ts K q T
    unfold edgG tv t3 fK
    simp only [sm];omega
theorem W_ts {p:List P2} {T:List T3P} (h:Tr p T) (K:Int) (q:P2):W K p q=ts K q T:=by
  rw [← ts_eds,h.st _ fun a b=>cr_sw ..];rfl
theorem sm_su (f:P2×P2→Int) (g:Nat→P2×P2):∀n,sm f ((List.range n).map g)=su (fun i=>f (g i)) n
  |0=>rfl
  |n+1=>by
    rw [List.range_succ,List.map_append,sm_app,sm_su f g n]
    show _+(f (g n)+0)=_
    rw [Int.add_zero];rfl
theorem SC.wind {p:List P2} (h:SC p) (h64:p.length≤64) {K:Int} (hK:0<K) (q1 q2:P2):∃s:Int,(s=1∨s= -1)∧(s*W K p q1=0∨s*W K p q1=1)∧(s*W K p q2=0∨s*W K p q2=1):=by
  have hS:=(h.sc hK).sm rfl (by rw [List.length_map];exact h64)
  have e:∀q,wn (p.map (Er.sc K)).length (p.map (Er.sc K)) q (p.map (Er.sc K)).length=W K p q:=fun q=>by
    have h1:=sm_su (fun e=>cr q e.1 e.2) (fun i=>(gt (p.map (Er.sc K)) i,gt (p.map (Er.sc K)) ((i+1)%(p.map (Er.sc K)).length))) (p.map (Er.sc K)).length
    rw [← cyc_get rfl,cyc_map] at h1
    unfold wn
    rw [← h1]
    unfold W
    generalize cyc p=L
    induction L with
    |nil=>rfl
    |cons a L ih=>
      show cr q (Er.sc K a.1) (Er.sc K a.2)+_=fK K q a+_
      rw [← ih];rfl
  have:=wn_two hS q1 q2
  rw [e,e] at this
  exact this
structure TqS (s:Int) (q a b c:P2):Prop where
  r:s*t3 q a b c=0∨s*t3 q a b c=1
  i:0<s*crs a b q→0<s*crs b c q→0<s*crs c a q→s*t3 q a b c=1
  o:s*t3 q a b c=1→0≤s*crs a b q∧0≤s*crs b c q∧0≤s*crs c a q
theorem tqs {s:Int} (hs:s=1∨s= -1) {a b c:P2} (hD:0<s*crs a b c) (q:P2):TqS s q a b c:=by
  rcases hs with rfl|rfl
  · simp only [s1m] at hD
    have h:=Sw.tri (q:=q) hD
    refine ⟨?_,?_,?_⟩
    · simp only [s1m];exact h.r
    · simp only [s1m];exact h.i
    · simp only [s1m];exact h.o
  · simp only [snm] at hD
    have r:=crs_sw a b c
    have r1:=crs_sw a b q
    have r2:=crs_sw b c q
    have r3:=crs_sw c a q
    have h:=Sw.tri (q:=q) (a:=b) (b:=a) (c:=c) (by omega)
    have e:=t3_sw q a b c
    have h1:=h.r
    have h2:=h.i
    have h3:=h.o
    refine ⟨?_,?_,?_⟩ <;> simp only [snm] <;> omega
theorem t3_r (q a b c:P2):t3 q a b c=t3 q b c a∧t3 q a b c=t3 q c a b:=by unfold t3;omega
def nq (K c1 c2:Int) (x y1 y2:P2):P2:=(K*x.1+(c1*(y1.1 - x.1)+c2*(y2.1 - x.1)),K*x.2+(c1*(y1.2 - x.2)+c2*(y2.2 - x.2)))
theorem nq_crs (K c1 c2:Int) (x y1 y2 a b:P2):crs (sc K a) (sc K b) (nq K c1 c2 x y1 y2)=K*((K - c1 - c2)*crs a b x+c1*crs a b y1+c2*crs a b y2):=by unfold crs sc nq;grind
def ab (z:Int):Int:=if z<0 then -z else z
theorem ab_c (z:Int):0≤ab z∧ -ab z≤z∧z≤ab z:=by unfold ab;split <;> omega
theorem nq_pos {s K c1 c2:Int} (hs:s=1∨s= -1) {x y1 y2 a b:P2} (h:0<s*crs a b x) (hK:c1+c2+ab (c1*crs a b y1+c2*crs a b y2)<K) (hK0:0<K):0<s*crs (sc K a) (sc K b) (nq K c1 c2 x y1 y2):=by
  rw [nq_crs]
  have h1:=ab_c (c1*crs a b y1+c2*crs a b y2)
  have h2:=Int.mul_nonneg (show 0≤K - c1 - c2 by omega) (show 0≤s*crs a b x - 1 by omega)
  have h3:0<(K - c1 - c2)*(s*crs a b x)+s*(c1*crs a b y1+c2*crs a b y2):=by
    have e:(K - c1 - c2)*(s*crs a b x - 1)=(K - c1 - c2)*(s*crs a b x) - (K - c1 - c2):=by grind
    rcases hs with rfl|rfl <;> omega
  have h4:=Int.mul_pos hK0 h3
  grind
theorem nq_neg {s K c1 c2:Int} (hs:s=1∨s= -1) {x y1 y2 a b:P2} (h:s*crs a b x<0) (hK:c1+c2+ab (c1*crs a b y1+c2*crs a b y2)<K) (hK0:0<K):s*crs (sc K a) (sc K b) (nq K c1 c2 x y1 y2)<0:=by
  have:=nq_pos (s:= -s) (by omega) (x:=x) (y1:=y1) (y2:=y2) (a:=a) (b:=b) (by rw [Int.neg_mul];omega) hK hK0
  rw [Int.neg_mul] at this;omega
theorem nq_zero {s K c1 c2:Int} {x y1 y2 a b:P2} (h:crs a b x=0) (h2:0<s*(c1*crs a b y1+c2*crs a b y2)) (hK0:0<K):0<s*crs (sc K a) (sc K b) (nq K c1 c2 x y1 y2):=by
  rw [nq_crs,h]
  have:=Int.mul_pos hK0 h2
  grind
theorem nq_own {s K c1 c2:Int} {x y1 y2:P2} (hD:0<s*crs x y1 y2) (h1:0<c1) (h2:0<c2) (hK:c1+c2<K):0<s*crs (sc K x) (sc K y1) (nq K c1 c2 x y1 y2)∧0<s*crs (sc K y1) (sc K y2) (nq K c1 c2 x y1 y2)∧0<s*crs (sc K y2) (sc K x) (nq K c1 c2 x y1 y2):=by
  have hK0:0<K:=by omega
  have e1:s*crs (sc K x) (sc K y1) (nq K c1 c2 x y1 y2)=K*c2*(s*crs x y1 y2):=by rw [nq_crs];unfold crs;grind
  have e2:s*crs (sc K y1) (sc K y2) (nq K c1 c2 x y1 y2)=K*(K - c1 - c2)*(s*crs x y1 y2):=by rw [nq_crs];unfold crs;grind
  have e3:s*crs (sc K y2) (sc K x) (nq K c1 c2 x y1 y2)=K*c1*(s*crs x y1 y2):=by rw [nq_crs];unfold crs;grind
  rw [e1,e2,e3]
  exact ⟨Int.mul_pos (Int.mul_pos hK0 h2) hD,Int.mul_pos (Int.mul_pos hK0 (by omega)) hD,Int.mul_pos (Int.mul_pos hK0 h1) hD⟩
def crT (t:T3P):Int:=crs t.1 t.2.1 t.2.2
theorem rot_cr {t:T3P} {a b c:P2} (h:rotT t a b c):crT t=crs a b c:=by
  have:=crs_cyc3 a b c
  rcases h with rfl|rfl|rfl
  · rfl
  · exact this.1.symm
  · exact this.2.symm
theorem rot_tv {t:T3P} {a b c:P2} (h:rotT t a b c) (K:Int) (q:P2):tv K q t=t3 q (sc K a) (sc K b) (sc K c):=by
  have:=t3_r q (sc K a) (sc K b) (sc K c)
  rcases h with rfl|rfl|rfl
  · rfl
  · exact this.1.symm
  · exact this.2.symm
section
variable {s : Int} (hs : s = 1 ∨ s = -1) {K : Int} (hK : 0 < K) {q : P2}
include hs hK
theorem tv_q {t:T3P} (h:0<s*crT t) {a b c:P2} (hr:rotT t a b c):TqS s q (sc K a) (sc K b) (sc K c):=by
  refine tqs hs ?_ q
  rw [rot_cr hr] at h
  rw [crs_sc]
  have:=Int.mul_pos (Int.mul_pos hK hK) h
  grind
theorem tv_r {t:T3P} (h:0<s*crT t):s*tv K q t=0∨s*tv K q t=1:=by
  have hr:rotT t t.1 t.2.1 t.2.2:= .inl rfl
  rw [rot_tv hr];exact (tv_q hs hK h hr).r
theorem ts_nn:∀{T:List T3P},(∀t∈T,0<s*crT t)→0≤s*ts K q T
  |[],_=>by unfold ts;omega
  |t :: T,h=>by
    have a:=tv_r hs hK (q:=q) (h t (List.mem_cons_self ..))
    have b:=ts_nn (T:=T) fun x hx=>h x (List.mem_cons_of_mem _ hx)
    unfold ts
    rw [Int.mul_add];omega
theorem ts_one:∀{T:List T3P},(∀t∈T,0<s*crT t)→∀{t:T3P},t∈T→s*tv K q t≤s*ts K q T
  |[],_,_,ht=>by cases ht
  |a :: T,h,t,ht=>by
    have ha:=tv_r hs hK (q:=q) (h a (List.mem_cons_self ..))
    have hT:=ts_nn hs hK (q:=q) (T:=T) fun x hx=>h x (List.mem_cons_of_mem _ hx)
    unfold ts
    rw [Int.mul_add]
    rcases List.mem_cons.1 ht with rfl|k
    · omega
    · have := ts_one (fun x hx => h x (List.mem_cons_of_mem _ hx)) k
      omega
theorem ts_two:∀{T:List T3P},(∀t∈T,0<s*crT t)→∀{t u:T3P},t∈T→u∈T→t≠u→s*tv K q t+s*tv K q u≤s*ts K q T
  |[],_,_,_,ht,_,_=>by cases ht
  |a :: T,h,t,u,ht,hu,hne=>by
    have ha:=tv_r hs hK (q:=q) (h a (List.mem_cons_self ..))
    have hT:∀x∈T,0<s*crT x:=fun x hx=>h x (List.mem_cons_of_mem _ hx)
    unfold ts
    rw [Int.mul_add]
    rcases List.mem_cons.1 ht with rfl|k <;> rcases List.mem_cons.1 hu with rfl|k2
    · exact absurd rfl hne
    · have:=ts_one hs hK (q:=q) hT k2;omega
    · have:=ts_one hs hK (q:=q) hT k;omega
    · have:=ts_two hT k k2 hne;omega
omit hs hK in
end
section
variable {p : List P2} {T : List T3P} {s : Int}
theorem Tr.disj (hS:SC p) (h64:p.length≤64) (h:Tr p T) (hs:s=1∨s= -1) (hT:∀t∈T,0<s*crT t) {K:Int} (hK:0<K) {q:P2} {t u:T3P} (ht:t∈T) (hu:u∈T) (hne:t≠u) (h1:s*tv K q t=1) (h2:s*tv K q u=1):False:=by
  have k:=ts_two hs hK (q:=q) hT ht hu hne
  rw [← W_ts h] at k
  obtain ⟨s',hs',w1,_⟩:=hS.wind h64 hK q q
  rcases hs with rfl|rfl <;> rcases hs' with rfl|rfl <;> omega
theorem rot_mem {t:T3P} {a b c:P2} (h:rotT t a b c) {x:P2}:(x=t.1∨x=t.2.1∨x=t.2.2)↔(x=a∨x=b∨x=c):=by
  rcases h with rfl|rfl|rfl <;> dsimp only <;> constructor <;> rintro (k|k|k) <;> simp [k]
theorem rot_tv1 {K:Int} {q:P2} (hs:s=1∨s= -1) (hK:0<K) {t:T3P} (hD:0<s*crT t) {a b c:P2} (hr:rotT t a b c) (h1:0<s*crs (sc K a) (sc K b) q) (h2:0<s*crs (sc K b) (sc K c) q) (h3:0<s*crs (sc K c) (sc K a) q):s*tv K q t=1:=by
  rw [rot_tv hr]
  exact (tv_q hs hK hD hr).i h1 h2 h3
theorem Tr.empty (hS:SC p) (h64:p.length≤64) (h:Tr p T) (hs:s=1∨s= -1) (hT:∀t∈T,0<s*crT t) {t:T3P} (ht:t∈T) {a b c x:P2} (hr:rotT t a b c) (hx:x∈p) (xa:x≠a) (xb:x≠b) (xc:x≠c) (h1:0≤s*crs a b x) (h2:0≤s*crs b c x) (h3:0≤s*crs c a x):False:=by
  obtain ⟨u,hu,y1,y2,hru⟩:=h.cor hx
  have hne:t≠u:=fun e=>by
    subst e
    have k1:=(rot_mem hru (x:=x)).2 (.inl rfl)
    have k2:=(rot_mem hr).1 k1
    rcases k2 with k|k|k
    · exact xa k
    · exact xb k
    · exact xc k
  have hDu:=hT u hu
  have hDu':=hDu
  rw [rot_cr hru] at hDu'
  have hDt:=hT t ht
  have hDt':=hDt
  rw [rot_cr hr] at hDt'
  -- strictly within
  by_cases all:0<s*crs a b x∧0<s*crs b c x∧0<s*crs c a x
  · obtain ⟨g1, g2, g3⟩ := all
    have A1:=ab_c (1*crs a b y1+1*crs a b y2)
    have A2:=ab_c (1*crs b c y1+1*crs b c y2)
    have A3:=ab_c (1*crs c a y1+1*crs c a y2)
    obtain ⟨K,hKe⟩:∃K:Int,K=3+ab (1*crs a b y1+1*crs a b y2)+ab (1*crs b c y1+1*crs b c y2)+ab (1*crs c a y1+1*crs c a y2):=⟨_,rfl⟩
    have hK:0<K:=by omega
    obtain ⟨o1,o2,o3⟩:=nq_own (K:=K) hDu' (show (0:Int)<1 by decide) (show (0:Int)<1 by decide) (by omega)
    exact h.disj hS h64 hs hT hK ht hu hne (rot_tv1 hs hK hDt hr (nq_pos hs g1 (by omega) hK) (nq_pos hs g2 (by omega) hK) (nq_pos hs g3 (by omega) hK)) (rot_tv1 hs hK hDu hru o1 o2 o3)
  · -- on a side
    have side:∀{a b c:P2},rotT t a b c→x≠a→x≠b→x≠c→crs a b x=0→0≤s*crs b c x→0≤s*crs c a x→False:=fun {a b c} hr xa xb xc z h2 h3=>by
      have hDt':=hDt
      rw [rot_cr hr] at hDt'
      have hon:=side_s hs hDt' z h2 h3
      have he:=(rot_edg hr).1
      have hem:=eds_mem ht he
      have hpm:=h.em hem
      by_cases hc:(a,b)∈cyc p
      · exact hS.v _ hc x hx xa xb hon
      have hrev:=h.rev _ hem hc
      obtain ⟨t2,ht2,d,hr2⟩:=mem_eds hrev
      dsimp only at hr2
      have hD2:=hT t2 ht2
      have hD2':=hD2
      rw [rot_cr hr2] at hD2'
      -- strictness
      have b1:=by1 a b c x
      have b2:=by2 a b c x
      have bS:=byS a b c x
      rw [z] at b1 b2 bS
      have sz:∀{z:Int},s*z=0→z=0:=fun {z} k=>by rcases hs with rfl|rfl <;> omega
      have g2:0<s*crs b c x:=by
        rcases Int.lt_or_eq_of_le h2 with k|k
        · exact k
        · have k' := sz k.symm
          rw [k'] at b1 b2 bS
          have e1:crs c a x*(x.1 - b.1)=0:=by grind
          have e2:crs c a x*(x.2 - b.2)=0:=by grind
          have hc0:crs c a x≠0:=fun q=>by
            have:crs a b c=0:=by omega
            rw [this,Int.mul_zero] at hDt';omega
          have f1:x.1 - b.1=0:=(Int.mul_eq_zero.1 e1).resolve_left hc0
          have f2:x.2 - b.2=0:=(Int.mul_eq_zero.1 e2).resolve_left hc0
          exact absurd (Prod.ext (by omega) (by omega)) xb
      have g3:0<s*crs c a x:=by
        rcases Int.lt_or_eq_of_le h3 with k|k
        · exact k
        · have k' := sz k.symm
          rw [k'] at b1 b2 bS
          have e1:crs b c x*(x.1 - a.1)=0:=by grind
          have e2:crs b c x*(x.2 - a.2)=0:=by grind
          have hc0:crs b c x≠0:=fun q=>by
            have:crs a b c=0:=by omega
            rw [this,Int.mul_zero] at hDt';omega
          have f1:x.1 - a.1=0:=(Int.mul_eq_zero.1 e1).resolve_left hc0
          have f2:x.2 - a.2=0:=(Int.mul_eq_zero.1 e2).resolve_left hc0
          exact absurd (Prod.ext (by omega) (by omega)) xa
      -- the triangle on the other side
      have m1:s*crs a b c*(s*crs a d x)=s*crs c a x*(s*crs b a d):=by
        have:crs a b c*crs a d x - crs c a x*crs b a d=crs a b x*crs c a d:=by unfold crs;grind
        rw [z,Int.zero_mul] at this
        have:crs a b c*crs a d x=crs c a x*crs b a d:=by omega
        rcases hs with rfl|rfl <;> grind
      have m2:s*crs a b c*(s*crs d b x)=s*crs b c x*(s*crs b a d):=by
        have:crs a b c*crs d b x - crs b c x*crs b a d=crs a b x*crs b c d:=by unfold crs;grind
        rw [z,Int.zero_mul] at this
        have:crs a b c*crs d b x=crs b c x*crs b a d:=by omega
        rcases hs with rfl|rfl <;> grind
      have k1:0<s*crs a d x:=Int.not_le.1 fun q=>by
        have p1:=Int.mul_pos g3 hD2'
        have p2:=Int.mul_nonneg (Int.le_of_lt hDt') (show 0≤ -(s*crs a d x) by omega)
        grind
      have k2:0<s*crs d b x:=Int.not_le.1 fun q=>by
        have p1:=Int.mul_pos g2 hD2'
        have p2:=Int.mul_nonneg (Int.le_of_lt hDt') (show 0≤ -(s*crs d b x) by omega)
        grind
      have hne2:t2≠u:=fun e=>by
        subst e
        have q1:=(rot_mem hru (x:=x)).2 (.inl rfl)
        rcases (rot_mem hr2).1 q1 with k|k|k
        · exact xb k
        · exact xa k
        · subst k
          have:crs x b x=0:=by unfold crs;grind
          rw [this,Int.mul_zero] at k2;omega
      -- a direction off the line
      have hdir:∃c1 c2:Int,(c1=1∨c1=2)∧c2=1∧c1*crs a b y1+c2*crs a b y2≠0:=by
        by_cases q1:crs a b y1+crs a b y2=0
        · refine ⟨2, 1, .inr rfl, rfl, fun q2 => ?_⟩
          have f1:crs a b y1=0:=by omega
          have f2:crs a b y2=0:=by omega
          have hab : a ≠ b := fun e => by subst e; have : crs a a c = 0 := by (unfold crs; grind)
                                          rw [this,Int.mul_zero] at hDt';omega
          have:crs x y1 y2=0:=by
            have w1:(b.1 - a.1)*crs x y1 y2=0:=by
              have:(b.1 - a.1)*crs x y1 y2=(y1.1 - x.1)*(crs a b y2 - crs a b x) - (y2.1 - x.1)*(crs a b y1 - crs a b x):=by unfold crs;grind
              rw [this,f1,f2,z];simp
            have w2:(b.2 - a.2)*crs x y1 y2=0:=by
              have:(b.2 - a.2)*crs x y1 y2=(y1.2 - x.2)*(crs a b y2 - crs a b x) - (y2.2 - x.2)*(crs a b y1 - crs a b x):=by unfold crs;grind
              rw [this,f1,f2,z];simp
            rcases Int.mul_eq_zero.1 w1 with e1|e1
            · rcases Int.mul_eq_zero.1 w2 with e2 | e2
              · exact absurd (Prod.ext (by omega) (by omega)) hab
              · exact e2
            · exact e1
          rw [this,Int.mul_zero] at hDu';omega
        · exact ⟨1,1,.inl rfl,rfl,by omega⟩
      obtain ⟨c1,c2,hc1,hc2,hF⟩:=hdir
      have p1:0<c1:=by omega
      have p2:0<c2:=by omega
      have A2:=ab_c (c1*crs b c y1+c2*crs b c y2)
      have A3:=ab_c (c1*crs c a y1+c2*crs c a y2)
      have B2:=ab_c (c1*crs a d y1+c2*crs a d y2)
      have B3:=ab_c (c1*crs d b y1+c2*crs d b y2)
      obtain ⟨K,hKe⟩:∃K:Int,K=c1+c2+1+ab (c1*crs b c y1+c2*crs b c y2)+ab (c1*crs c a y1+c2*crs c a y2)+ab (c1*crs a d y1+c2*crs a d y2)+ab (c1*crs d b y1+c2*crs d b y2):=⟨_,rfl⟩
      have hK:0<K:=by omega
      obtain ⟨o1,o2,o3⟩:=nq_own (K:=K) hDu' p1 p2 (by omega)
      have hu1:=rot_tv1 hs hK hDu hru o1 o2 o3
      by_cases pos:0<s*(c1*crs a b y1+c2*crs a b y2)
      · exact h.disj hS h64 hs hT hK ht hu hne (rot_tv1 hs hK hDt hr (nq_zero z pos hK) (nq_pos hs g2 (by omega) hK) (nq_pos hs g3 (by omega) hK)) hu1
      · have sw : ∀ y, crs b a y = - crs a b y := fun y => crs_sw ..
        have neg:0<s*(c1*crs b a y1+c2*crs b a y2):=by
          rw [sw,sw,Int.mul_neg,Int.mul_neg]
          rcases hs with rfl|rfl <;> omega
        exact h.disj hS h64 hs hT hK ht2 hu hne2 (rot_tv1 hs hK hD2 hr2 (nq_zero (by rw [sw,z];rfl) neg hK) (nq_pos hs k1 (by omega) hK) (nq_pos hs k2 (by omega) hK)) hu1
    have sz:∀{z:Int},0=s*z→z=0:=fun {z} k=>by rcases hs with rfl|rfl <;> omega
    have hr':rotT t b c a:=by rcases hr with e|e|e;exact .inr (.inr e);exact .inl e;exact .inr (.inl e)
    have hr'':rotT t c a b:=by rcases hr with e|e|e;exact .inr (.inl e);exact .inr (.inr e);exact .inl e
    rcases Int.lt_or_eq_of_le h1 with k1|k1
    · rcases Int.lt_or_eq_of_le h2 with k2 | k2
      · rcases Int.lt_or_eq_of_le h3 with k3 | k3
        · exact all ⟨k1,k2,k3⟩
        · exact side hr'' xc xa xb (sz k3) h1 h2
      · exact side hr' xb xc xa (sz k2) h3 h1
    · exact side hr xa xb xc (sz k1) h2 h3
end
end Go.Proofs.YtjcpbhlijoigfaaGreat.Er
namespace Go.Proofs.YtjcpbhlijoigfaaGreat.Pg
set_option linter.unusedVariables false
theorem sgc (z:Int):z<0∧z.sign= -1∨z=0∧z.sign=0∨0<z∧z.sign=1:=by
  rcases Int.lt_trichotomy z 0 with h|h|h
  · exact .inl ⟨h,Int.sign_eq_neg_one_of_neg h⟩
  · exact .inr (.inl ⟨h,by rw [h];rfl⟩)
  · exact .inr (.inr ⟨h,Int.sign_eq_one_of_pos h⟩)
theorem map_er (f:Nat→P2):∀(L:List Nat) (k:Nat),(L.eraseIdx k).map f=(L.map f).eraseIdx k
  |[],_=>rfl
  |a :: L,0=>rfl
  |a :: L,k+1=>by show f a :: (L.eraseIdx k).map f=f a :: (L.map f).eraseIdx k;rw [map_er f L k]
def tr3 (l:List P2) (i:Nat):Int:=crs (gt l i) (gt l ((i+1)%l.length)) (gt l ((i+2)%l.length))
def cvI (l:List P2) (i:Nat):Prop:=(tr3 l i).sign=0∨(tr3 l i).sign=(db l).sign
instance (l:List P2) (i:Nat):Decidable (cvI l i):=inferInstanceAs (Decidable (_∨_))
def cvR (l:List P2):Prop:=∀i,i<l.length→cvI l i
instance (l:List P2):Decidable (cvR l):=inferInstanceAs (Decidable (∀i,i<l.length→_))
def st (l:List P2) (i:Nat):Prop:=crs (gt l ((i+l.length - 1)%l.length)) (gt l i) (gt l ((i+1)%l.length))=0
instance (l:List P2) (i:Nat):Decidable (st l i):=inferInstanceAs (Decidable (_=_))
def td:Nat→List P2→List P2
  |0,l=>l
  |f+1,l=>match fst l.length (st l) with
    |none=>l
    |some k=>td f (l.eraseIdx k)
def tdV (l:List P2):List P2:=td l.length l
theorem td_some {l:List P2} {k:Nat} (hk:k<l.length) (hp:st l k) (hn:∀j,j<k→¬st l j):tdV l=tdV (l.eraseIdx k):=by
  have hlen:(l.eraseIdx k).length=l.length - 1:=by rw [List.length_eraseIdx,if_pos hk]
  unfold tdV
  rw [hlen,show l.length=(l.length - 1)+1 by omega]
  conv=>lhs;unfold td
  rw [fst_some hk hp hn]
  rfl
theorem td_none {l:List P2} (hn:∀j,j<l.length→¬st l j):tdV l=l:=by
  unfold tdV
  cases h:l.length with
  |zero=>rfl
  |succ m=>
    unfold td
    rw [fst_none hn]
def ps (l:List P2) (L:List Nat):List P2:=L.map (gt l)
theorem ps_len (l:List P2) (L:List Nat):(ps l L).length=L.length:=List.length_map _
theorem ps_get {l:List P2} {L:List Nat} {i:Nat} (h:i<L.length):gt (ps l L) i=gt l (nt L i):=by
  unfold ps gt nt
  rw [List.getD_eq_getElem?_getD,List.getElem?_map,List.getElem?_eq_getElem h,List.getD_eq_getElem?_getD (l:=L),List.getElem?_eq_getElem h];rfl
theorem ps_erase (l:List P2) (L:List Nat) (k:Nat):ps l (L.eraseIdx k)=(ps l L).eraseIdx k:=map_er _ _ _
theorem ps_all {l:List P2} {n:Nat} (hn:l.length=n):ps l (List.range n)=l:=by
  subst hn
  refine List.ext_getElem? fun i=> ?_
  unfold ps
  rw [List.getElem?_map]
  by_cases h:i<l.length
  · rw [List.getElem?_range h, List.getElem?_eq_getElem h]
    show some (gt l i)=_
    unfold gt
    rw [List.getD_eq_getElem?_getD,List.getElem?_eq_getElem h];rfl
  · rw [List.getElem?_eq_none (by simp;omega),List.getElem?_eq_none (by omega)];rfl
theorem st_corn {l:List P2} {s:Int} (hs:s=1∨s= -1) {L:List Nat} {i:Nat} (hi:i<L.length):corn l s L i=0↔st (ps l L) i:=by
  have hl:=ps_len l L
  have h1:=md_c (x:=i+L.length - 1) (m:=L.length) (by omega)
  have h2:=md_c (x:=i+1) (m:=L.length) (by omega)
  have e1:(i+L.length - 1)%L.length=px L.length i:=by have:=px_c L.length i;omega
  have e2:(i+1)%L.length=sx L.length i:=by have:=sx_c L.length i;omega
  unfold st corn
  rw [hl,e1,e2,ps_get hi,ps_get (px_lt hi),ps_get (sx_lt hi)]
  generalize crs _ _ _=z
  have:=sgc z
  rcases hs with rfl|rfl <;> omega
def cx (a b:P2):Int:=a.1*b.2 - b.1*a.2
theorem dbN_cx (n:Nat) (l:List P2):∀m,dbN n l m=Sw.su (fun i=>cx (gt l i) (gt l ((i+1)%n))) m
  |0=>rfl
  |m+1=>by rw [Sw.su_s,←dbN_cx n l m];rfl
def ch:P2→List P2→Int
  |_,[]=>0
  |a,b :: l=>cx a b+ch b l
theorem ch_app (a:P2) (l:List P2) (b:P2) (m:List P2):ch a (l++b :: m)=ch a (l++[b])+ch b m:=by
  induction l generalizing a with
  |nil=>show cx a b+ch b m=cx a b+0+ch b m;omega
  |cons c l ih=>show cx a c+ch c (l++b :: m)=cx a c+ch c (l++[b])+ch b m;rw [ih];omega
def dc:List P2→Int
  |[]=>0
  |a :: l=>ch a (l++[a])
theorem ch_su (a:P2) (l:List P2):∀i,i<(a :: l).length→ch a (l.take i)=Sw.su (fun i=>cx (gt (a :: l) i) (gt (a :: l) (i+1))) i
  |0,_=>by rw [List.take_zero];rfl
  |i+1,h=>by
    have hi:i<l.length:=by simp at h;omega
    rw [Sw.su_s,←ch_su a l i (by simp;omega),Ms.take_snoc (0,0) hi]
    have key:∀(a:P2) (m:List P2) (b:P2),ch a (m++[b])=ch a m+cx (gt (a :: m) m.length) b:=fun a m b=>by
      induction m generalizing a with
      |nil=>show cx a b+0=0+cx a b;omega
      |cons c m ih=>show cx a c+ch c (m++[b])=cx a c+ch c m+_;rw [ih];show _+(_+cx (gt (c :: m) m.length) b)=_+_+cx (gt (c :: m) m.length) b;omega
    rw [key]
    have hl:(l.take i).length=i:=by rw [List.length_take];omega
    rw [hl]
    have e1:gt (a :: l.take i) i=gt (a :: l) i:=by
      unfold gt
      simp only [List.getD_eq_getElem?_getD]
      cases i with
      |zero=>rfl
      |succ j=>simp
    rw [e1];rfl
theorem db_dc (l:List P2):db l=dc l:=by
  cases l with
  |nil=>rfl
  |cons a l=>
    unfold db
    rw [dbN_cx]
    show Sw.su _ (l.length+1)=ch a (l++[a])
    have key:∀(a:P2) (m:List P2) (b:P2),ch a (m++[b])=ch a m+cx (gt (a :: m) m.length) b:=fun a m b=>by
      induction m generalizing a with
      |nil=>show cx a b+0=0+cx a b;omega
      |cons c m ih=>show cx a c+ch c (m++[b])=cx a c+ch c m+_;rw [ih];show _+(_+cx (gt (c :: m) m.length) b)=_+_+cx (gt (c :: m) m.length) b;omega
    have h1:=ch_su a l l.length (by simp)
    rw [List.take_length] at h1
    rw [key,h1,Sw.su_s]
    have e:(l.length+1)%(a :: l).length=0:=by rw [List.length_cons];exact Nat.mod_self _
    rw [e]
    have e2:gt (a :: l) 0=a:=rfl
    rw [e2]
    congr 1
    refine Sw.su_congr fun j hj=> ?_
    rw [Nat.mod_eq_of_lt (by rw [List.length_cons];omega)]
theorem dc_rot (a:P2) (l:List P2):dc (a :: l)=dc (l++[a]):=by
  cases l with
  |nil=>rfl
  |cons b l=>
    show cx a b+ch b (l++[a])=ch b ((l++[a])++[b])
    rw [List.append_assoc,List.singleton_append,ch_app b l a [b]]
    show cx a b+_=_+(cx a b+0);omega
theorem dc_swap (A B:List P2):dc (A++B)=dc (B++A):=by
  induction A generalizing B with
  |nil=>simp
  |cons a A ih=>
    rw [List.cons_append,dc_rot,List.append_assoc,ih,List.append_assoc];rfl
theorem dc_cut {a b c:P2} (h:crs a b c=0) (l:List P2):dc (b :: c :: (l++[a]))=dc (c :: (l++[a])):=by
  show cx b c+ch c ((l++[a])++[b])=ch c ((l++[a])++[c])
  rw [List.append_assoc,List.append_assoc,List.singleton_append,List.singleton_append,ch_app c l a [b],ch_app c l a [c]]
  show cx b c+(_+(cx a b+0))=_+(cx a c+0)
  unfold crs at h
  unfold cx
  grind
theorem dc_two (a b:P2):dc [a,b]=0:=by
  show cx a b+(cx b a+0)=0
  unfold cx;grind
theorem db_erase {l:List P2} {k:Nat} (hk:k<l.length) (h2:2≤l.length) (h:st l k):db (l.eraseIdx k)=db l:=by
  rw [db_dc,db_dc]
  have e:l=l.take k++gt l k :: l.drop (k+1):=by
    conv=>lhs;rw [← List.take_append_drop k l,Ms.drop_cons (0,0) hk]
  have e2:l.eraseIdx k=l.take k++l.drop (k+1):=List.eraseIdx_eq_take_drop_succ l k
  rw [e2,dc_swap]
  conv=>rhs;rw [e,dc_swap]
  show dc (l.drop (k+1)++l.take k)=dc (gt l k :: (l.drop (k+1)++l.take k))
  have hlen:(l.drop (k+1)++l.take k).length=l.length - 1:=by rw [List.length_append,List.length_drop,List.length_take];omega
  have hg:∀j,j<l.length - 1→gt (l.drop (k+1)++l.take k) j=gt l ((k+1+j)%l.length):=fun j hj=>by
    have hm:=md_c (x:=k+1+j) (m:=l.length) (by omega)
    unfold gt
    simp only [List.getD_eq_getElem?_getD]
    by_cases c:j<l.length - (k+1)
    · rw [List.getElem?_append_left (by rw [List.length_drop]; exact c), List.getElem?_drop]
      rw [show (k+1+j)%l.length=k+1+j by omega]
    · rw [List.getElem?_append_right (by rw [List.length_drop]; omega), List.getElem?_take, List.length_drop, if_pos (by omega)]
      rw [show (k+1+j)%l.length=j - (l.length - (k+1)) by omega]
  generalize hm:l.drop (k+1)++l.take k=m at*
  by_cases h3:l.length=2
  · have : m.length = 1 := by omega
    match m,this with
    |[c],_=>rw [dc_two];show cx c c+0=0;unfold cx;grind
  · -- at least two others
    have hc:gt m 0=gt l ((k+1)%l.length):=hg 0 (by omega)
    have ha:gt m (m.length - 1)=gt l ((k+l.length - 1)%l.length):=by rw [hg _ (by omega)];congr 1;congr 1;omega
    match m,hlen with
    |[],hl=>simp at hl;omega
    |c :: r,hl=>
      have hr:r≠[]:=fun z=>by subst z;simp at hl;omega
      obtain ⟨r',a,rfl⟩:∃r' a,r=r'++[a]:=⟨r.dropLast,r.getLast hr,(List.dropLast_concat_getLast hr).symm⟩
      have hc':c=gt l ((k+1)%l.length):=hc
      have ha':a=gt l ((k+l.length - 1)%l.length):=by
        rw [← ha]
        unfold gt
        simp [List.getD_eq_getElem?_getD]
      refine (dc_cut ?_ r').symm
      rw [hc',ha'];exact h
theorem db_small {l:List P2} (h:l.length<3):db l=0:=by
  rw [db_dc]
  match l,h with
  |[],_=>rfl
  |[a],_=>show cx a a+0=0;unfold cx;grind
  |[a,b],_=>exact dc_two a b
structure TdI (l:List P2) (L:List Nat):Prop where
  v:tdV (ps l L)=tdV l
  d:db (ps l L)=db l
theorem TdI.zero {l:List P2} {n:Nat} (hn:l.length=n):TdI l (List.range n):=⟨by rw [ps_all hn],by rw [ps_all hn]⟩
theorem TdI.n3 {l:List P2} {L:List Nat} (h:TdI l L) (hd:db l≠0):3≤L.length:=Decidable.byContradiction fun k=>by
  have:=db_small (l:=ps l L) (by rw [ps_len];omega)
  rw [h.d] at this
  exact hd this
theorem TdI.step {l:List P2} {L:List Nat} {s:Int} {k:Nat} (h:TdI l L) (hd:db l≠0) (hs:s=1∨s= -1) (hk:k<L.length) (hp:corn l s L k=0) (hn:∀j,j<k→¬corn l s L j=0):TdI l (L.eraseIdx k):=by
  have h3:=h.n3 hd
  have hl:=ps_len l L
  have hp':=(st_corn hs hk).1 hp
  refine ⟨?_,?_⟩
  · rw [ps_erase,←td_some (by omega) hp' fun j hj z=>hn j hj ((st_corn hs (by omega)).2 z)];exact h.v
  · rw [ps_erase,db_erase (by omega) (by omega) hp'];exact h.d
theorem TdI.fin {l:List P2} {L:List Nat} {s:Int} (h:TdI l L) (hs:s=1∨s= -1) (hn:∀j,j<L.length→¬corn l s L j=0):ps l L=tdV l:=by
  have hl:=ps_len l L
  rw [← h.v,td_none fun j hj z=>hn j (by omega) ((st_corn hs (by omega)).2 z)]
theorem Fs.all {n:Nat} {L B N:List Nat} {P:Nat→Prop} {k:Nat} (h:Fs n L P n k) (hr:Rg n L B N):k=L.length:=by
  have:=h.km
  by_cases e:k<L.length
  · have := h.hi k (Nat.le_refl _) e
    have:=hr.lt k e
    omega
  · omega
end Go.Proofs.YtjcpbhlijoigfaaGreat.Pg
namespace Go.Proofs.YtjcpbhlijoigfaaGreat.Er
open Pg Sw
set_option linter.unusedVariables false
theorem greatest_mem:∀{p:List P2},p≠[]→∃v∈p,∀x∈p,x=v∨lx x v
  |[],h=>absurd rfl h
  |[a],_=>⟨a,by simp,fun x hx=>by simp at hx;exact .inl hx⟩
  |a :: b :: p,_=>by
    obtain ⟨v,hv,h⟩:=greatest_mem (p:=b :: p) (by simp)
    rcases lx_tri a v with k|k|k
    · exact ⟨v,List.mem_cons_of_mem _ hv,fun x hx=>by
        rcases List.mem_cons.1 hx with rfl|hx
        · exact .inr k
        · exact h x hx⟩
    · exact ⟨v,List.mem_cons_of_mem _ hv,fun x hx=>by
        rcases List.mem_cons.1 hx with rfl|hx
        · exact .inl k
        · exact h x hx⟩
    · refine ⟨a, List.mem_cons_self .., fun x hx => ?_⟩
      rcases List.mem_cons.1 hx with rfl|hx
      · exact .inl rfl
      · rcases h x hx with rfl | z
        · exact .inr k
        · exact .inr (lx_trans z k)
theorem argmax (P:P2→Prop) (f:P2→Int):∀{A:List P2},(∃x∈A,P x)→∃q∈A,P q∧∀x∈A,P x→f x≤f q
  |[],h=>by obtain ⟨x,hx,_⟩:=h;cases hx
  |a :: A,h=>by
    by_cases hA:∃x∈A,P x
    · obtain ⟨q, hq, hp, hm⟩ := argmax P f hA
      by_cases ha:P a∧f q<f a
      · refine ⟨a, List.mem_cons_self .., ha.1, fun x hx px => ?_⟩
        rcases List.mem_cons.1 hx with rfl|hx
        · exact Int.le_refl _
        · have:=hm x hx px;omega
      · refine ⟨q, List.mem_cons_of_mem _ hq, hp, fun x hx px => ?_⟩
        rcases List.mem_cons.1 hx with rfl|hx
        · exact Int.not_lt.1 fun z=>ha ⟨px,z⟩
        · exact hm x hx px
    · obtain ⟨x, hx, px⟩ := h
      rcases List.mem_cons.1 hx with rfl|hx
      · refine ⟨x, List.mem_cons_self .., px, fun y hy py => ?_⟩
        rcases List.mem_cons.1 hy with rfl|hy
        · exact Int.le_refl _
        · exact absurd ⟨y,hy,py⟩ hA
      · exact absurd ⟨x,hx,px⟩ hA
theorem out_lx {s:Int} (hs:s=1∨s= -1) {a b c v:P2} (ha:lx a v) (hb:lx b v) (hc:lx c v) (hD:0<s*crs a b c):s*crs a b v<0∨s*crs b c v<0∨s*crs c a v<0:=by
  refine Decidable.byContradiction fun hk=> ?_
  have g1:0≤s*crs a b v:=by omega
  have g2:0≤s*crs b c v:=by omega
  have g3:0≤s*crs c a v:=by omega
  have b1:s*crs b c v*(v.1 - a.1)+s*crs c a v*(v.1 - b.1)+s*crs a b v*(v.1 - c.1)=0:=by
    have:=by1 a b c v
    have e:s*crs b c v*(v.1 - a.1)+s*crs c a v*(v.1 - b.1)+s*crs a b v*(v.1 - c.1)=s*(crs b c v*(v.1 - a.1)+crs c a v*(v.1 - b.1)+crs a b v*(v.1 - c.1)):=by grind
    rw [e,this,Int.mul_zero]
  have b2:s*crs b c v*(v.2 - a.2)+s*crs c a v*(v.2 - b.2)+s*crs a b v*(v.2 - c.2)=0:=by
    have:=by2 a b c v
    have e:s*crs b c v*(v.2 - a.2)+s*crs c a v*(v.2 - b.2)+s*crs a b v*(v.2 - c.2)=s*(crs b c v*(v.2 - a.2)+crs c a v*(v.2 - b.2)+crs a b v*(v.2 - c.2)):=by grind
    rw [e,this,Int.mul_zero]
  have bS:s*crs a b v+s*crs b c v+s*crs c a v=s*crs a b c:=by
    have:=byS a b c v
    rw [← this];grind
  unfold lx at ha hb hc
  generalize s*crs a b v=x at*
  generalize s*crs b c v=y at*
  generalize s*crs c a v=z at*
  have p1:=Int.mul_nonneg g2 (show 0≤v.1 - a.1 by omega)
  have p2:=Int.mul_nonneg g3 (show 0≤v.1 - b.1 by omega)
  have p3:=Int.mul_nonneg g1 (show 0≤v.1 - c.1 by omega)
  have q1:y=0∨0<y*(v.2 - a.2):=by
    rcases Int.mul_eq_zero.1 (show y*(v.1 - a.1)=0 by omega) with k|k
    · exact .inl k
    · by_cases k2 : y = 0
      · exact .inl k2
      · exact .inr (Int.mul_pos (by omega) (by omega))
  have q2:z=0∨0<z*(v.2 - b.2):=by
    rcases Int.mul_eq_zero.1 (show z*(v.1 - b.1)=0 by omega) with k|k
    · exact .inl k
    · by_cases k2 : z = 0
      · exact .inl k2
      · exact .inr (Int.mul_pos (by omega) (by omega))
  have q3:x=0∨0<x*(v.2 - c.2):=by
    rcases Int.mul_eq_zero.1 (show x*(v.1 - c.1)=0 by omega) with k|k
    · exact .inl k
    · by_cases k2 : x = 0
      · exact .inl k2
      · exact .inr (Int.mul_pos (by omega) (by omega))
  have z1:y=0→y*(v.2 - a.2)=0:=fun k=>by rw [k,Int.zero_mul]
  have z2:z=0→z*(v.2 - b.2)=0:=fun k=>by rw [k,Int.zero_mul]
  have z3:x=0→x*(v.2 - c.2)=0:=fun k=>by rw [k,Int.zero_mul]
  omega
theorem tv_out {s:Int} (hs:s=1∨s= -1) {t:T3P} (hD:0<s*crT t) {x y1 y2:P2} (h:s*crs t.1 t.2.1 x<0∨s*crs t.2.1 t.2.2 x<0∨s*crs t.2.2 t.1 x<0):∃K0:Int,∀K,K0≤K→0<K→tv K (nq K 1 1 x y1 y2) t=0:=by
  have hr:rotT t t.1 t.2.1 t.2.2:= .inl rfl
  have a1:=ab_c (1*crs t.1 t.2.1 y1+1*crs t.1 t.2.1 y2)
  have a2:=ab_c (1*crs t.2.1 t.2.2 y1+1*crs t.2.1 t.2.2 y2)
  have a3:=ab_c (1*crs t.2.2 t.1 y1+1*crs t.2.2 t.1 y2)
  refine ⟨3+ab (1*crs t.1 t.2.1 y1+1*crs t.1 t.2.1 y2)+ab (1*crs t.2.1 t.2.2 y1+1*crs t.2.1 t.2.2 y2)+ab (1*crs t.2.2 t.1 y1+1*crs t.2.2 t.1 y2),fun K h0 hK=> ?_⟩
  have k:=tv_q hs hK (q:=nq K 1 1 x y1 y2) hD hr
  have hv:tv K (nq K 1 1 x y1 y2) t=t3 (nq K 1 1 x y1 y2) (sc K t.1) (sc K t.2.1) (sc K t.2.2):=rfl
  rw [hv]
  have ho:=k.o
  have hr:=k.r
  have:¬(s*t3 (nq K 1 1 x y1 y2) (sc K t.1) (sc K t.2.1) (sc K t.2.2)=1):=fun z=>by
    obtain ⟨o1,o2,o3⟩:=ho z
    rcases h with h|h|h
    · have:=nq_neg hs (K:=K) (c1:=1) (c2:=1) (y1:=y1) (y2:=y2) h (by omega) hK;omega
    · have:=nq_neg hs (K:=K) (c1:=1) (c2:=1) (y1:=y1) (y2:=y2) h (by omega) hK;omega
    · have:=nq_neg hs (K:=K) (c1:=1) (c2:=1) (y1:=y1) (y2:=y2) h (by omega) hK;omega
  rcases hs with rfl|rfl <;> omega
theorem ts_out {s:Int} (hs:s=1∨s= -1) {x y1 y2:P2}:∀{T:List T3P},(∀t∈T,0<s*crT t∧(s*crs t.1 t.2.1 x<0∨s*crs t.2.1 t.2.2 x<0∨s*crs t.2.2 t.1 x<0))→∃K0:Int,∀K,K0≤K→0<K→ts K (nq K 1 1 x y1 y2) T=0
  |[],_=>⟨0,fun K _ _=>rfl⟩
  |t :: T,h=>by
    obtain ⟨K1,h1⟩:=ts_out hs (T:=T) (x:=x) (y1:=y1) (y2:=y2) fun a ha=>h a (List.mem_cons_of_mem _ ha)
    obtain ⟨b1,b2⟩:=h t (List.mem_cons_self ..)
    obtain ⟨K2,h2⟩:=tv_out hs (y1:=y1) (y2:=y2) b1 b2
    refine ⟨max K1 K2,fun K hm hK=> ?_⟩
    unfold ts
    rw [h1 K (by omega) hK,h2 K (by omega) hK];rfl
section
variable {u v w : P2} {A : List P2} {s s2 : Int}
theorem Tr.corner (h:SC (v :: w :: A++[u])) (hA:A≠[]) {T2:List T3P} (h2:Tr (w :: A++[u]) T2):Tr (v :: w :: A++[u]) (T2++[(u,v,w)]):=by
  obtain ⟨d1,d2,d3,d4⟩:=h.dif
  have hn:(w :: A++u :: [v]).Nodup:=by
    have:=nd_rot (X:=[v]) (Y:=w :: A++[u]) h.nd
    simpa using this
  have h3:Tr (u :: [v]++[w]) [(u,v,w)]:=Tr.three (fun z=>d2 z.symm) d1 (fun z=>d3 z.symm)
  have:=Tr.glue hn hA (by simp) h2 h3
  have h4:Tr ((w :: A++[u])++[v]) (T2++[(u,v,w)]):=by simpa using this
  exact h4.rot
theorem rest_sign (hs:s=1∨s= -1) (hs2:s2=1∨s2= -1) (h:SC (v :: w :: A++[u])) (h64:(v :: w :: A++[u]).length≤64) (hA:A≠[]) (hD:0<s*crs u v w) (he:∀q∈A,¬(0≤s*crs v w q∧0≤s*crs u v q∧0≤s*crs w u q)) {T2:List T3P} (h2:Tr (w :: A++[u]) T2) (hT2:∀t∈T2,0<s2*crT t) (hp:∃K0:Int,∀K,K0≤K→0<K→∃q,0<s*W K (v :: w :: A++[u]) q):s2=s:=by
  obtain ⟨x,hx⟩:=List.exists_mem_of_ne_nil A hA
  obtain ⟨t,ht,y1,y2,hr⟩:=h2.cor (x:=x) (by simp [hx])
  have hDt:=hT2 t ht
  have hDt':=hDt
  rw [rot_cr hr] at hDt'
  have hout:s*crs u v x<0∨s*crs v w x<0∨s*crs w u x<0:=by have:=he x hx;omega
  obtain ⟨K1,hK1⟩:=tv_out hs (t:=(u,v,w)) (x:=x) (y1:=y1) (y2:=y2) hD hout
  obtain ⟨K0,hK0⟩:=hp
  obtain ⟨K,hKe⟩:∃K:Int,K=max (max K0 K1) 3:=⟨_,rfl⟩
  have hK:0<K:=by omega
  obtain ⟨q2,hq2⟩:=hK0 K (by omega) hK
  have z:=hK1 K (by omega) hK
  have hw:=W_ts (Tr.corner h hA h2) K (nq K 1 1 x y1 y2)
  rw [ts_app] at hw
  have e1:ts K (nq K 1 1 x y1 y2) [(u,v,w)]=0:=by unfold ts;rw [z];rfl
  rw [e1,Int.add_zero] at hw
  obtain ⟨o1,o2,o3⟩:=nq_own (K:=K) hDt' (show (0:Int)<1 by decide) (show (0:Int)<1 by decide) (by omega)
  have k1:=rot_tv1 hs2 hK hDt hr o1 o2 o3
  have k2:=ts_one hs2 hK (q:=nq K 1 1 x y1 y2) hT2 ht
  rw [k1,←hw] at k2
  obtain ⟨s',hs',w1,w2⟩:=h.wind h64 hK (nq K 1 1 x y1 y2) q2
  rcases hs with rfl|rfl <;> rcases hs2 with rfl|rfl <;> rcases hs' with rfl|rfl <;> omega
end
def TriE (p:List P2):Prop:=∃(T:List T3P) (s:Int),(s=1∨s= -1)∧Tr p T∧(∀t∈T,0<s*crT t)∧∀u v w,(u,v)∈cyc p→(v,w)∈cyc p→(∀x∈p,x=v∨lx x v)→0<s*crs u v w
theorem TriE.rot {X Y:List P2} (h:TriE (X++Y)):TriE (Y++X):=by
  obtain ⟨T,s,hs,hT,hc,hv⟩:=h
  have hp:=cyc_rot X Y
  exact ⟨T,s,hs,hT.rot,hc,fun u v w h1 h2 h3=>hv u v w (hp.mem_iff.2 h1) (hp.mem_iff.2 h2) fun x hx=>h3 x (List.perm_append_comm.mem_iff.1 hx)⟩
theorem tri_core {u v w:P2} {A:List P2} (h:SC (v :: w :: A++[u])) (h64:(v :: w :: A++[u]).length≤64) (hg:∀x∈v :: w :: A++[u],x=v∨lx x v) (ih:∀p:List P2,p.length<(v :: w :: A++[u]).length→SC p→TriE p):TriE (v :: w :: A++[u]):=by
  obtain ⟨d1,d2,d3,d4⟩:=h.dif
  obtain ⟨e1,e2⟩:=h.ends
  have lu:lx u v:=(hg u (by simp)).resolve_left fun z=>d2 z.symm
  have lw:lx w v:=(hg w (by simp)).resolve_left fun z=>d1 z.symm
  have hne:crs u v w≠0:=fun z=>by
    have c:=crs_cyc3 u v w
    rcases Pg.corner (u:=u) (v:=v) (w:=w) (by omega) lu lw with k|k
    · exact h.v _ e1 w (by simp) d3 (fun z=>d1 z.symm) k
    · exact h.v _ e2 u (by simp) (fun z=>d2 z.symm) (fun z=>d3 z.symm) k
  obtain ⟨s,hs,hD⟩:∃s:Int,(s=1∨s= -1)∧0<s*crs u v w:=by
    by_cases k:0<crs u v w
    · exact ⟨1,.inl rfl,by omega⟩
    · exact ⟨-1,.inr rfl,by omega⟩
  -- the property at the greatest vertex
  have fin:∀T:List T3P,Tr (v :: w :: A++[u]) T→(∀t∈T,0<s*crT t)→TriE (v :: w :: A++[u]):=fun T hT hc=>⟨T,s,hs,hT,hc,fun u' v' w' k1 k2 k3=>by
    have hm:=cyc_mem k2
    have hvv:v'=v:=by
      rcases hg v' hm.1 with z|z
      · exact z
      · rcases k3 v (by simp) with z2 | z2
        · exact z2.symm
        · unfold lx at z z2;omega
    subst hvv
    rw [cyc_pred h.nd k1 e1,cyc_succ h.nd k2 e2];exact hD⟩
  by_cases hA:A=[]
  · subst hA
    refine fin [(v,w,u)] (Tr.three d1 d3 d2) fun t ht=> ?_
    rw [List.mem_singleton] at ht;subst ht
    show 0<s*crs v w u
    rw [← (crs_cyc3 u v w).1];exact hD
  by_cases hin:∃q∈A,0≤s*crs v w q∧0≤s*crs u v q∧0≤s*crs w u q
  · obtain ⟨q, hq, ⟨q1, q2, q3⟩, hm⟩ := argmax (fun q => 0 ≤ s * crs v w q ∧ 0 ≤ s * crs u v q ∧ 0 ≤ s * crs w u q) (fun x => s * crs w u x) hin
    obtain ⟨A1,A2,rfl⟩:=List.append_of_mem hq
    obtain ⟨S1,S2⟩:=h.near hs hD q1 q2 q3 fun x hx a b c=>hm x hx ⟨a,b,c⟩
    obtain ⟨q1',q2'⟩:=h.inn hs hD hq q1 q2 q3
    have S2':SC (v :: q :: A2++[u]):=by
      have:=SC.rot (X:=q :: (A2++[u])) (Y:=[v]) S2
      simpa using this
    have S1':SC (v :: w :: A1++[q]):=by simpa using S1
    obtain ⟨T1,s1,hs1,hT1,hc1,hv1⟩:=ih (v :: w :: A1++[q]) (by simp <;> omega) S1'
    obtain ⟨T2,s2,hs2,hT2,hc2,hv2⟩:=ih (v :: q :: A2++[u]) (by simp <;> omega) S2'
    have sub1:∀x,x∈v :: w :: A1++[q]→x∈v :: w :: (A1++q :: A2)++[u]:=fun x hx=>by simp at hx ⊢;rcases hx with k|k|k|k <;> simp [k]
    have sub2:∀x,x∈v :: q :: A2++[u]→x∈v :: w :: (A1++q :: A2)++[u]:=fun x hx=>by simp at hx ⊢;rcases hx with k|k|k|k <;> simp [k]
    have g1:=hv1 q v w S1'.ends.1 S1'.ends.2 fun x hx=>hg x (sub1 x hx)
    have g2:=hv2 u v q S2'.ends.1 S2'.ends.2 fun x hx=>hg x (sub2 x hx)
    have c:=crs_cyc3 q v w
    rw [← c.1] at q1'
    have es1:s1=s:=by rcases hs with rfl|rfl <;> rcases hs1 with rfl|rfl <;> omega
    have es2:s2=s:=by rcases hs with rfl|rfl <;> rcases hs2 with rfl|rfl <;> omega
    subst es1;subst es2
    have hn:(v :: (w :: A1)++q :: (A2++[u])).Nodup:=by simpa using h.nd
    have hT2':Tr (q :: (A2++[u])++[v]) T2:=by
      have:=Tr.rot (X:=[v]) (Y:=q :: A2++[u]) hT2
      simpa using this
    have hT:=Tr.glue hn (by simp) (by simp) (by simpa using hT1) hT2'
    refine fin (T1++T2) (by simpa using hT) fun t ht=> ?_
    rcases List.mem_append.1 ht with k|k
    · exact hc1 t k
    · exact hc2 t k
  · have he : ∀ q ∈ A, ¬ (0 ≤ s * crs v w q ∧ 0 ≤ s * crs u v q ∧ 0 ≤ s * crs w u q) := fun q hq k => hin ⟨q, hq, k⟩
    have S2:=h.cut hs hA hD he
    obtain ⟨T2,s2,hs2,hT2,hc2,hv2⟩:=ih (w :: A++[u]) (by simp) S2
    have es2:s2=s:=by
      refine rest_sign hs hs2 h h64 hA hD he hT2 hc2 ?_
      have lxs:∀x∈w :: A++[u],lx x v:=fun x hx=>by
        have hne:x≠v:=fun z=>by
          have hn:=h.nd
          rw [List.cons_append] at hn
          exact (List.nodup_cons.1 hn).1 (z ▸ hx)
        exact (hg x (List.mem_cons_of_mem _ hx)).resolve_left hne
      obtain ⟨K1,hK1⟩:=ts_out hs2 (x:=v) (y1:=w) (y2:=u) (T:=T2) fun t ht=>by
        obtain ⟨m1,m2,m3⟩:=hT2.mem t ht
        exact ⟨hc2 t ht,out_lx hs2 (lxs _ m1) (lxs _ m2) (lxs _ m3) (hc2 t ht)⟩
      refine ⟨max K1 3,fun K hm hK=>⟨nq K 1 1 v w u,?_⟩⟩
      rw [W_ts (Tr.corner h hA hT2),ts_app,hK1 K (by omega) hK]
      have hr:rotT (u,v,w) v w u:= .inr (.inr rfl)
      have c:=crs_cyc3 u v w
      obtain ⟨o1,o2,o3⟩:=nq_own (K:=K) (s:=s) (x:=v) (y1:=w) (y2:=u) (by rw [← c.1];exact hD) (show (0:Int)<1 by decide) (show (0:Int)<1 by decide) (by omega)
      have k1:=rot_tv1 (t:=(u,v,w)) hs hK hD hr o1 o2 o3
      show 0<s*(0+(tv K (nq K 1 1 v w u) (u,v,w)+0))
      rw [Int.zero_add,Int.add_zero,k1];decide
    subst es2
    refine fin _ (Tr.corner h hA hT2) fun t ht=> ?_
    rcases List.mem_append.1 ht with k|k
    · exact hc2 t k
    · rw [List.mem_singleton] at k;subst k;exact hD
theorem tri_ex (n:Nat):∀p:List P2,p.length=n→n≤64→SC p→TriE p:=by
  induction n using Nat.strongRecOn with
  |ind n ih=>
    intro p hn h64 h
    have h3:=h.n3
    obtain ⟨v,hv,hg⟩:=greatest_mem (p:=p) (fun z=>by subst z;simp at h3)
    obtain ⟨X,Y,rfl⟩:=List.append_of_mem hv
    refine TriE.rot (X:=v :: Y) (Y:=X) ?_
    have h':SC (v :: Y++X):=h.rot
    have hl:(v :: Y++X).length=n:=by rw [← hn];simp;omega
    have hg':∀x∈v :: Y++X,x=v∨lx x v:=fun x hx=>hg x (List.perm_append_comm.mem_iff.1 hx)
    clear hv hg
    have e:v :: Y++X=v :: (Y++X):=rfl
    rw [e] at h' hl hg' ⊢
    generalize Y++X=R at*
    match R,hl with
    |[],hl=>simp at hl;omega
    |w :: R',hl=>
      have hr:R'≠[]:=fun z=>by subst z;simp at hl;omega
      obtain ⟨A,u,rfl⟩:∃r' a,R'=r'++[a]:=⟨R'.dropLast,R'.getLast hr,(List.dropLast_concat_getLast hr).symm⟩
      exact tri_core (by simpa using h') (by simp at hl ⊢;omega) (by simpa using hg') fun p hp S=>ih p.length (by simp at hl hp ⊢;omega) p rfl (by simp at hl hp ⊢;omega) S
def fA (e:P2×P2):Int:=cx e.1 e.2
theorem sm_db (l:List P2):sm fA (cyc l)=db l:=by
  rw [cyc_get rfl,sm_su]
  unfold db
  rw [dbN_cx];rfl
theorem db_rot (X Y:List P2):db (X++Y)=db (Y++X):=by rw [← sm_db,←sm_db,sm_perm (cyc_rot X Y)]
theorem sg_rot (X Y:List P2):sg (X++Y)=sg (Y++X):=by unfold sg;rw [db_rot]
theorem eds_pos {s:Int}:∀{T:List T3P},(∀t∈T,0<s*crT t)→0≤s*sm fA (edsG T)∧(T≠[]→0<s*sm fA (edsG T))
  |[],_=>⟨by show 0≤s*0;simp,fun z=>absurd rfl z⟩
  |t :: T,h=>by
    have a:=h t (List.mem_cons_self ..)
    have b:=(eds_pos (T:=T) fun x hx=>h x (List.mem_cons_of_mem _ hx)).1
    have e:sm fA (edsG (t :: T))=crT t+sm fA (edsG T):=by
      rw [edsG_cons,sm_app]
      congr 1
      unfold edgG crT fA cx crs
      simp only [sm];grind
    rw [e,Int.mul_add]
    exact ⟨by omega,fun _=>by omega⟩
theorem Tr.sg {p:List P2} {T:List T3P} {s:Int} (hs:s=1∨s= -1) (h:Tr p T) (h3:3≤p.length) (hT:∀t∈T,0<s*crT t):Pg.sg p=s:=by
  have k:=(eds_pos hT).2 (fun z=>by have:=h.len;subst z;simp at this;omega)
  rw [h.st fA (fun a b=>by unfold fA cx;dsimp only;omega),sm_db] at k
  unfold Pg.sg
  rcases hs with rfl|rfl
  · rw [if_neg (by omega)]
  · rw [if_pos (by omega)]
theorem SC.ear {p:List P2} (h:SC p) (h64:p.length≤64) (h4:4≤p.length):∃a b c,(a,b)∈cyc p∧(b,c)∈cyc p∧0<Pg.sg p*crs a b c∧∀x∈p,x≠a→x≠b→x≠c→¬(0≤Pg.sg p*crs a b x∧0≤Pg.sg p*crs b c x∧0≤Pg.sg p*crs c a x):=by
  obtain ⟨T,s,hs,hT,hc,_⟩:=tri_ex _ p rfl h64 h
  have hsg:=hT.sg hs (by omega) hc
  obtain ⟨t,ht,a,b,c,hr,e1,e2⟩:=hT.ear h.nd
  rw [hsg]
  refine ⟨a,b,c,e1,e2,?_,fun x hx xa xb xc k=>Tr.empty h h64 hT hs hc ht hr hx xa xb xc k.1 k.2.1 k.2.2⟩
  have:=hc t ht
  rwa [rot_cr hr] at this
theorem SC.rest {u v w:P2} {A:List P2} (h:SC (v :: w :: A++[u])) (h64:(v :: w :: A++[u]).length≤64) (hA:A≠[]) (hD:0<Pg.sg (v :: w :: A++[u])*crs u v w) (he:∀q∈A,¬(0≤Pg.sg (v :: w :: A++[u])*crs v w q∧0≤Pg.sg (v :: w :: A++[u])*crs u v q∧0≤Pg.sg (v :: w :: A++[u])*crs w u q)):SC (w :: A++[u])∧Pg.sg (w :: A++[u])=Pg.sg (v :: w :: A++[u]):=by
  obtain ⟨T,s,hs,hT,hc,_⟩:=tri_ex _ _ rfl h64 h
  have hsg:=hT.sg hs h.n3 hc
  rw [hsg] at hD he ⊢
  have S2:=h.cut hs hA hD he
  obtain ⟨T2,s2,hs2,hT2,hc2,_⟩:=tri_ex _ _ rfl (by simp at h64 ⊢;omega) S2
  refine ⟨S2,?_⟩
  rw [hT2.sg hs2 S2.n3 hc2]
  refine rest_sign hs hs2 h h64 hA hD he hT2 hc2 ⟨3,fun K hm hK=> ?_⟩
  obtain ⟨t,ht,y,z,hr⟩:=hT.cor (x:=v) (by simp)
  have hDt:=hc t ht
  have hDt':=hDt
  rw [rot_cr hr] at hDt'
  obtain ⟨o1,o2,o3⟩:=nq_own (K:=K) hDt' (show (0:Int)<1 by decide) (show (0:Int)<1 by decide) (by omega)
  refine ⟨nq K 1 1 v y z,?_⟩
  have k1:=rot_tv1 hs hK hDt hr o1 o2 o3
  have k2:=ts_one hs hK (q:=nq K 1 1 v y z) hc ht
  rw [W_ts hT];omega
end Go.Proofs.YtjcpbhlijoigfaaGreat.Er
namespace Go.Proofs.YtjcpbhlijoigfaaGreat.Pg
set_option linter.unusedVariables false
open Go.Proofs.YtjcpbhlijoigfaaGreat.Sp (mget mput mget_mput)
theorem mem_mput2 {κ ν:Type} [DecidableEq κ]:∀{m:List (κ×ν)} {a:κ} {v:ν} {p:κ×ν},p∈mput m a v→p=(a,v)∨p∈m
  |[],a,v,p,h=>by simp only [mput,List.mem_singleton] at h;exact .inl h
  |q :: m,a,v,p,h=>by
    simp only [mput] at h
    split at h
    · rcases List.mem_cons.1 h with h | h
      · exact .inl h
      · exact .inr (List.mem_cons_of_mem _ h)
    · rcases List.mem_cons.1 h with h | h
      · exact .inr (h ▸ List.mem_cons_self ..)
      · rcases mem_mput2 h with h | h
        · exact .inl h
        · exact .inr (List.mem_cons_of_mem _ h)
theorem mget_mem2 {κ ν:Type} [DecidableEq κ]:∀{m:List (κ×ν)} {a:κ} {v:ν},mget m a=some v→(a,v)∈m
  |[],_,_,h=>by cases h
  |q :: m,a,v,h=>by
    simp only [mget] at h
    split at h
    · rename_i e;cases h;subst e;simp
    · exact List.mem_cons_of_mem _ (mget_mem2 h)
structure Sn (m:List (E2×Bool)) (A:List E2):Prop where
  get:∀e,(mget m e).getD false=decide (e∈A)
  mem:∀x∈m,x.1∈A
theorem Sn.nil:Sn [] []:=⟨fun e=>rfl,fun x h=>by cases h⟩
theorem Sn.step {m:List (E2×Bool)} {A:List E2} (h:Sn m A) (a:E2):Sn (mput m a true) (A++[a]):=by
  refine ⟨fun e=> ?_,fun x hx=> ?_⟩
  · rw [mget_mput]
    by_cases hc:a=e
    · subst hc;simp
    · have hc' : ¬ e = a := fun x => hc x.symm
      rw [if_neg hc,h.get e];simp [hc']
  · rcases mem_mput2 hx with rfl | hx
    · simp
    · exact List.mem_append_left _ (h.mem x hx)
theorem Sn.no {m:List (E2×Bool)} {A:List E2} (h:Sn m A) {e:E2} (hf:(mget m e).getD false=false):e ∉ A:=fun hm=>by
  have:=h.get e
  rw [hf] at this
  simp [hm] at this
theorem Sn.yes {m:List (E2×Bool)} {A:List E2} (h:Sn m A) {e:E2} (hf:(mget m e).getD false=true):e∈A:=by
  have:=h.get e
  rw [hf] at this
  simpa using this.symm
theorem Sn.has {m:List (E2×Bool)} {A:List E2} (h:Sn m A) {e:E2} (he:e∈A):∃b,(e,b)∈m:=by
  have h1:=h.get e
  simp only [he,decide_true] at h1
  cases hm:mget m e with
  |none=>rw [hm] at h1;cases h1
  |some b=>exact ⟨b,mget_mem2 hm⟩
theorem eds_cut {T:List T3} {i:Nat} (h:i<T.length):eds T=eds (T.take i)++(((T.getD i (0,0,0)).1,(T.getD i (0,0,0)).2.1) :: ((T.getD i (0,0,0)).2.1,(T.getD i (0,0,0)).2.2) :: ((T.getD i (0,0,0)).2.2,(T.getD i (0,0,0)).1) :: eds (T.drop (i+1))):=by
  conv=>lhs;rw [← List.take_append_drop i T,Ms.drop_cons (0,0,0) h]
  unfold eds
  rw [List.flatMap_append,List.flatMap_cons]
  rfl
theorem eds_take {T:List T3} {i:Nat} (h:i<T.length):eds (T.take (i+1))=((eds (T.take i)++[((T.getD i (0,0,0)).1,(T.getD i (0,0,0)).2.1)])++[((T.getD i (0,0,0)).2.1,(T.getD i (0,0,0)).2.2)])++[((T.getD i (0,0,0)).2.2,(T.getD i (0,0,0)).1)]:=by
  rw [Ms.take_snoc (0,0,0) h]
  unfold eds
  rw [List.flatMap_append]
  simp [edg]
theorem dup_no {L A B:List E2} {e:E2} (h:L=A++e :: B) (he:e∈A):¬L.Nodup:=fun hn=>by
  rw [h] at hn
  exact (List.nodup_append.1 hn).2.2 e he e (List.mem_cons_self ..) rfl
theorem nd_snoc {A:List E2} {e:E2} (h:A.Nodup) (he:e ∉ A):(A++[e]).Nodup:=
  List.nodup_append.2 ⟨h,by simp,fun a ha b hb hab=>by rw [List.mem_singleton] at hb;subst hb;subst hab;exact he ha⟩
def okP (n:Nat) (l:List P2) (x:T3):Prop:=inT n x∧0<sg l*(cT l x).sign
theorem acP_n {n m:Nat} {l:List P2} {T:List T3} (hm:T.length=m):acP n l T↔(m:Int)=n - 2∧(∀j,j<m→okP n l (T.getD j (0,0,0)))∧(eds T).Nodup∧(∀e∈eds T,e.2≠nxi n e.1→(e.2,e.1)∈eds T)∧∀i:Nat,i<n→((i:Int),(((i+1)%n:Nat):Int))∈eds T:=by
  subst hm
  unfold acP
  constructor
  · rintro ⟨h1, h2, h3, h4, h5⟩
    exact ⟨h1,fun j hj=>h2 _ (Ms.getD_mem (0,0,0) hj),h3,h4,fun i hi=>by rw [← nxi_nat];exact h5 i hi⟩
  · rintro ⟨h1, h2, h3, h4, h5⟩
    refine ⟨h1,fun x hx=> ?_,h3,h4,fun i hi=>by rw [nxi_nat];exact h5 i hi⟩
    obtain ⟨j,hj,rfl⟩:=Ms.mem_getD (0,0,0) hx
    exact h2 j hj
structure MV (n:Nat) (T:List T3) (sm vis:List (E2×Bool)):Prop where
  nd:(vis.map (·.1)).Nodup
  sub:∀q∈vis.map (·.1),q∈sm.map (·.1)
  ok:∀x∈vis,x.1.2≠nxi n x.1.1→(x.1.2,x.1.1)∈eds T
theorem MV.nil {n:Nat} {T:List T3} {sm:List (E2×Bool)}:MV n T sm []:=⟨by simp,fun q h=>(by cases h),fun x h=>(by cases h)⟩
theorem MV.step {n:Nat} {T:List T3} {sm vis:List (E2×Bool)} (h:MV n T sm vis) {e:E2×Bool} (hm:e∈sm) (hn:e.1 ∉ vis.map (·.1)) (hk:e.1.2=nxi n e.1.1∨(e.1.2,e.1.1)∈eds T):MV n T sm (vis++[e]):=by
  refine ⟨?_,fun q hq=> ?_,fun x hx hne=> ?_⟩
  · rw [List.map_append];exact List.nodup_append.2 ⟨h.nd,by simp,fun a ha b hb hab=>by rw [List.map_cons,List.map_nil,List.mem_singleton] at hb;subst hb;subst hab;exact hn ha⟩
  · rw [List.map_append] at hq
    rcases List.mem_append.1 hq with hq|hq
    · exact h.sub q hq
    · rw [List.map_cons,List.map_nil,List.mem_singleton] at hq;subst hq;exact List.mem_map_of_mem hm
  · rcases List.mem_append.1 hx with hx | hx
    · exact h.ok x hx hne
    · rw [List.mem_singleton] at hx;subst hx;exact hk.resolve_left hne
theorem MV.mu {n:Nat} {T:List T3} {sm vis:List (E2×Bool)} (h:MV n T sm vis) {e:E2×Bool} (hm:e∈sm) (hn:e.1 ∉ vis.map (·.1)):sm.length - (vis++[e]).length<sm.length - vis.length:=by
  have:=nd_lt h.nd h.sub (List.mem_map_of_mem (f:=(·.1)) hm) hn
  rw [List.length_map,List.length_map] at this
  rw [List.length_append,List.length_singleton];omega
theorem MV.fin {n:Nat} {T:List T3} {sm vis:List (E2×Bool)} (h:MV n T sm vis) (hs:Sn sm (eds T)) (hp:vis.Perm sm):∀e∈eds T,e.2≠nxi n e.1→(e.2,e.1)∈eds T:=fun e he hne=>by
  obtain ⟨b,hb⟩:=hs.has he
  exact h.ok (e,b) (hp.mem_iff.2 hb) hne
theorem MV.test {n:Nat} {T:List T3} {sm:List (E2×Bool)} {e:E2×Bool} (hs:Sn sm (eds T)) (hx:¬(e.1.2≠(e.1.1+1)%(n:Int)∧(!((mget sm (e.1.2,e.1.1)).getD false))=true)):e.1.2=nxi n e.1.1∨(e.1.2,e.1.1)∈eds T:=by
  by_cases h:e.1.2=nxi n e.1.1
  · exact .inl h
  · refine .inr (hs.yes ?_)
    cases k:(mget sm (e.1.2,e.1.1)).getD false
    · exact absurd ⟨h,by rw [k];rfl⟩ hx
    · rfl
theorem eds_rng {n nt:Nat} {l:List P2} {T:List T3} (hm:T.length=nt) (h:∀j,j<nt→okP n l (T.getD j (0,0,0))) {e:E2} (he:e∈eds T):(0≤e.1∧e.1<n)∧(0≤e.2∧e.2<n):=by
  obtain ⟨x,hx,hq⟩:=List.mem_flatMap.1 he
  obtain ⟨j,hj,rfl⟩:=Ms.mem_getD (0,0,0) hx
  obtain ⟨⟨h1,h2,h3⟩,_⟩:=h j (by omega)
  unfold edg at hq
  rcases List.mem_cons.1 hq with rfl|hq
  · exact ⟨h1,h2⟩
  rcases List.mem_cons.1 hq with rfl|hq
  · exact ⟨h2,h3⟩
  rw [List.mem_singleton] at hq;subst hq
  exact ⟨h3,h1⟩
def ceC (n:Nat) (l:List P2) (T:List T3):Int:=if ck l≠0 then ck l else if acP n l T then 0 else 12
theorem ce_bad {n:Nat} {l:List P2} {T:List T3} (h:ck l≠0):ceC n l T=ck l:=by unfold ceC;rw [if_pos h]
theorem ce_no {n:Nat} {l:List P2} {T:List T3} (h:ck l=0) (h2:¬acP n l T):ceC n l T=12:=by unfold ceC;rw [if_neg (fun k=>k h),if_neg h2]
theorem ce_yes {n:Nat} {l:List P2} {T:List T3} (h:ck l=0) (h2:acP n l T):ceC n l T=0:=by unfold ceC;rw [if_neg (fun k=>k h),if_pos h2]
end Go.Proofs.YtjcpbhlijoigfaaGreat.Pg
namespace Go.Proofs.YtjcpbhlijoigfaaGreat.Er
open Pg Sw
set_option linter.unusedVariables false
theorem ring_form {L:List Nat} {k m:Nat} (hm:L.length=m) (hk:k<m) (h3:3≤m):∃w A u,L.drop (k+1)++L.take k=w :: A++[u]∧w=nt L (sx m k)∧u=nt L (px m k)∧A.length=m - 3∧∀x,x∈A↔∃t,t<m - 3∧x=nt L ((k+2+t)%m):=by
  have hlen:(L.drop (k+1)++L.take k).length=m - 1:=by rw [List.length_append,List.length_drop,List.length_take];omega
  have hg:∀j,j<m - 1→(L.drop (k+1)++L.take k).getD j 0=nt L ((k+1+j)%m):=fun j hj=>by
    have h1:=md_c (x:=k+1+j) (m:=m) (by omega)
    unfold nt
    rw [List.getD_eq_getElem?_getD,List.getD_eq_getElem?_getD]
    congr 1
    by_cases c:j<m - (k+1)
    · rw [List.getElem?_append_left (by rw [List.length_drop]; omega), List.getElem?_drop]
      congr 1;omega
    · rw [List.getElem?_append_right (by rw [List.length_drop]; omega), List.getElem?_take, List.length_drop, if_pos (by omega)]
      congr 1;omega
  generalize L.drop (k+1)++L.take k=R at*
  match R,hlen with
  |[],hl=>simp at hl;omega
  |w :: R',hl=>
    have hr:R'≠[]:=fun z=>by subst z;simp at hl;omega
    obtain ⟨A,u,rfl⟩:∃r' a,R'=r'++[a]:=⟨R'.dropLast,R'.getLast hr,(List.dropLast_concat_getLast hr).symm⟩
    have hA:A.length=m - 3:=by simp at hl;omega
    have hget:∀t,t<m - 3→A.getD t 0=nt L ((k+2+t)%m):=fun t ht=>by
      have:=hg (t+1) (by omega)
      rw [List.getD_cons_succ] at this
      rw [show k+1+(t+1)=k+2+t by omega] at this
      rw [← this,List.getD_eq_getElem?_getD,List.getD_eq_getElem?_getD,List.getElem?_append_left (by omega)]
    refine ⟨w,A,u,rfl,?_,?_,hA,fun x=>⟨fun hx=> ?_,?_⟩⟩
    · have := hg 0 (by omega)
      rw [List.getD_cons_zero] at this
      rw [this]
      have h1:=md_c (x:=k+1+0) (m:=m) (by omega)
      have h2:=sx_c m k
      congr 1;omega
    · have := hg (m - 2) (by omega)
      rw [show m - 2=(m - 3)+1 by omega,List.getD_cons_succ,List.getD_eq_getElem?_getD,List.getElem?_append_right (by omega),hA,Nat.sub_self] at this
      have h1:=md_c (x:=k+1+(m - 3+1)) (m:=m) (by omega)
      have h2:=px_c m k
      have e:(k+1+(m - 3+1))%m=px m k:=by omega
      rw [e] at this
      exact this
    · obtain ⟨t, ht, rfl⟩ := List.getElem_of_mem hx
      refine ⟨t,by omega,?_⟩
      rw [← hget t (by omega),List.getD_eq_getElem?_getD,List.getElem?_eq_getElem ht];rfl
    · rintro ⟨t, ht, rfl⟩
      rw [← hget t ht]
      exact Ms.getD_mem 0 (by omega)
structure Rn (l:List P2) (L:List Nat):Prop where
  lt:∀x∈L,x<l.length
  n64:L.length≤64
  sc:SC (ps l L)
  sg:Pg.sg (ps l L)=Pg.sg l
theorem Rn.zero {l:List P2} {n:Nat} (hk:ck l=0) (hn:l.length=n):Rn l (List.range n):=by
  have hS:=Sm.of hk
  refine ⟨fun x hx=>by rw [hn];exact List.mem_range.1 hx,by rw [List.length_range];have:=hS.n64;omega,by rw [ps_all hn];exact SC.of hS,by rw [ps_all hn]⟩
theorem split_at {L:List Nat} {k:Nat} (hk:k<L.length):L=L.take k++nt L k :: L.drop (k+1):=by
  have e:nt L k=L[k]:=by unfold nt;rw [List.getD_eq_getElem?_getD,List.getElem?_eq_getElem hk];rfl
  rw [e,←List.drop_eq_getElem_cons hk,List.take_append_drop]
theorem erase_at {L:List Nat} {k:Nat}:L.eraseIdx k=L.take k++L.drop (k+1):=List.eraseIdx_eq_take_drop_succ ..
theorem ps_app (l:List P2) (X Y:List Nat):ps l (X++Y)=ps l X++ps l Y:=List.map_append ..
theorem ps_cons (l:List P2) (x:Nat) (Y:List Nat):ps l (x :: Y)=gt l x :: ps l Y:=rfl
theorem sp {s z:Int} (hs:s=1∨s= -1):(0<s*z.sign↔0<s*z)∧(0≤s*z.sign↔0≤s*z):=by
  have:=Sw.sgn_c z
  rcases hs with rfl|rfl <;> omega
theorem Rn.step {l:List P2} {L:List Nat} {k:Nat} (h:Rn l L) (h4:4≤L.length) (hk:k<L.length) (he:earI l (Pg.sg l) L k):Rn l (L.eraseIdx k):=by
  obtain ⟨w,A,u,e,hw,hu,hA,hmem⟩:=ring_form rfl hk (by omega)
  have hs:=sg_rng l
  have hL:=split_at hk
  have hrot:ps l (nt L k :: L.drop (k+1)++L.take k)=gt l (nt L k) :: gt l w :: ps l A++[gt l u]:=by
    rw [List.cons_append,e,ps_cons,ps_app,ps_cons];rfl
  have hS:SC (gt l (nt L k) :: gt l w :: ps l A++[gt l u]):=by
    rw [← hrot,ps_app]
    refine SC.rot ?_
    rw [← ps_app,←hL];exact h.sc
  have hsg:Pg.sg (gt l (nt L k) :: gt l w :: ps l A++[gt l u])=Pg.sg l:=by
    rw [← hrot,ps_app,sg_rot,←ps_app,←hL];exact h.sg
  have hlen:(gt l (nt L k) :: gt l w :: ps l A++[gt l u]).length=L.length:=by simp [ps_len,hA];omega
  obtain ⟨hc,hin⟩:=he
  unfold corn at hc
  have hD:=(sp hs).1.1 hc
  rw [← hw,←hu] at hD
  obtain ⟨S2,s2⟩:=hS.rest (by rw [hlen];exact h.n64) (fun z=>by
    have:(ps l A).length=0:=by rw [z];rfl
    rw [ps_len] at this;omega) (by rw [hsg];exact hD) (fun q hq k3=>by
    rw [hsg] at k3
    obtain ⟨x,hx,rfl⟩:=List.mem_map.1 hq
    obtain ⟨t,ht,rfl⟩:=(hmem x).1 hx
    refine hin t ht ?_
    unfold in3I in3
    rw [← hw,←hu,(sp hs).2,(sp hs).2,(sp hs).2]
    exact ⟨k3.2.1,k3.1,k3.2.2⟩)
  have hback:ps l (L.drop (k+1)++L.take k)=gt l w :: ps l A++[gt l u]:=by rw [e,ps_app,ps_cons];rfl
  rw [← hback,ps_app] at S2 s2
  refine ⟨fun x hx=>h.lt x (List.mem_of_mem_eraseIdx hx),by have:=h.n64;rw [List.length_eraseIdx,if_pos hk];omega,?_,?_⟩
  · rw [erase_at,ps_app];exact S2.rot
  · rw [erase_at,ps_app,sg_rot,s2,hsg]
theorem Rn.ear {l:List P2} {L:List Nat} (h:Rn l L) (h4:4≤L.length):∃k,k<L.length∧earI l (Pg.sg l) L k:=by
  have hl:=ps_len l L
  have hs:=sg_rng l
  obtain ⟨a,b,c,e1,e2,hD,hem⟩:=h.sc.ear (by rw [hl];exact h.n64) (by omega)
  rw [h.sg] at hD hem
  obtain ⟨j,hj,ej⟩:=(mem_cyc hl).1 e1
  obtain ⟨i,hi,ei⟩:=(mem_cyc hl).1 e2
  obtain ⟨rfl,rfl⟩:a=gt (ps l L) j∧b=gt (ps l L) ((j+1)%L.length):=⟨congrArg Prod.fst ej,congrArg Prod.snd ej⟩
  obtain ⟨hb,rfl⟩:gt (ps l L) ((j+1)%L.length)=gt (ps l L) i∧c=gt (ps l L) ((i+1)%L.length):=⟨congrArg Prod.fst ei,congrArg Prod.snd ei⟩
  have inj:∀x y,x<L.length→y<L.length→gt (ps l L) x=gt (ps l L) y→x=y:=fun x y hx hy e=>by
    unfold gt at e
    rw [List.getD_eq_getElem?_getD,List.getD_eq_getElem?_getD,List.getElem?_eq_getElem (by omega),List.getElem?_eq_getElem (by omega)] at e
    have he2:(ps l L)[x]'(by omega)=(ps l L)[y]'(by omega):=e
    have hp:=List.pairwise_iff_getElem.1 h.sc.nd
    rcases Nat.lt_trichotomy x y with k|k|k
    · exact absurd he2 (hp _ _ (by omega) (by omega) k)
    · exact k
    · exact absurd he2.symm (hp _ _ (by omega) (by omega) k)
  have hij:=inj _ _ (Nat.mod_lt _ (by omega)) hi hb
  have m1:=md_c (x:=j+1) (m:=L.length) (by omega)
  have m2:=md_c (x:=i+1) (m:=L.length) (by omega)
  have p:=px_c L.length i
  have q:=sx_c L.length i
  have ej':j=px L.length i:=by omega
  have ei':(i+1)%L.length=sx L.length i:=by omega
  rw [hij,ei'] at hD hem
  rw [ej'] at hD hem
  have hp:=px_lt hi
  have hq:=sx_lt hi
  have g0:=ps_get (l:=l) hi
  have g1:=ps_get (l:=l) hp
  have g2:=ps_get (l:=l) hq
  refine ⟨i,hi,?_,fun t ht hin=> ?_⟩
  · unfold corn
    rw [(sp hs).1,←g0,←g1,←g2];exact hD
  · have mt := md_c (x := i + 2 + t) (m := L.length) (by omega)
    have ht2:(i+2+t)%L.length<L.length:=Nat.mod_lt _ (by omega)
    unfold in3I in3 at hin
    rw [(sp hs).2,(sp hs).2,(sp hs).2,←g0,←g1,←g2,←ps_get (l:=l) ht2] at hin
    refine hem _ (Ms.getD_mem (0,0) (by omega)) (fun z=> ?_) (fun z=> ?_) (fun z=> ?_) hin
    · have:=inj _ _ ht2 hp z;omega
    · have:=inj _ _ ht2 hi z;omega
    · have:=inj _ _ ht2 hq z;omega
theorem fst_yes {m i:Nat} {P:Nat→Prop} [DecidablePred P] (h:fst m P=some i):i<m∧P i:=by
  unfold fst at h
  have h1:=List.mem_of_find?_eq_some h
  have h2:=List.find?_some h
  exact ⟨List.mem_range.1 h1,by simpa using h2⟩
theorem fst_no {m:Nat} {P:Nat→Prop} [DecidablePred P] (h:fst m P=none):∀j,j<m→¬P j:=fun j hj hp=>by
  unfold fst at h
  rw [List.find?_eq_none] at h
  exact h j (List.mem_range.2 hj) (by simpa using hp)
def iL (L:List Nat):List Int:=L.map (fun x:Nat=>(x:Int))
theorem iL_app (X Y:List Nat):iL (X++Y)=iL X++iL Y:=List.map_append ..
theorem ears_tr {l:List P2}:∀(f:Nat) (L:List Nat) (out:List T3),Rn l L→L.length=f+3→∃T:List T3,ears l (Pg.sg l) f L out=some (out++T)∧Tr (iL L) T∧∀t∈T,0<Pg.sg l*(cT l t).sign
  |0,L,out,h,hl=>by
    match L,hl with
    |[a,b,c],_=>
      refine ⟨[(((nt [a,b,c] 0:Nat):Int),((nt [a,b,c] 1:Nat):Int),((nt [a,b,c] 2:Nat):Int))],rfl,?_,fun t ht=> ?_⟩
      · have hn := h.sc.nd
        have e:ps l [a,b,c]=[gt l a,gt l b,gt l c]:=rfl
        rw [e] at hn
        simp only [List.nodup_cons,List.mem_cons,not_or] at hn
        obtain ⟨⟨n1,n2,_⟩,⟨n3,_⟩,_⟩:=hn
        exact Tr.three (fun z=>n1 (by have z':(a:Int)=(b:Int):=z;rw [show a=b by omega])) (fun z=>n3 (by have z':(b:Int)=(c:Int):=z;rw [show b=c by omega])) (fun z=>n2 (by have z':(a:Int)=(c:Int):=z;rw [show a=c by omega]))
      · rw [List.mem_singleton] at ht; subst ht
        rw [(sp (sg_rng l)).1]
        show 0<Pg.sg l*crs (gt l a) (gt l b) (gt l c)
        obtain ⟨T,s,hs,hT,hc,_⟩:=tri_ex _ _ rfl h.n64 h.sc
        have hsg:=hT.sg hs h.sc.n3 hc
        rw [h.sg] at hsg
        have k:=(eds_pos hc).2 (fun z=>by have:=hT.len;subst z;rw [ps_len] at this;simp at this)
        rw [hT.st fA (fun a b=>by unfold fA cx;dsimp only;omega)] at k
        have e:sm fA (cyc (ps l [a,b,c]))=crs (gt l a) (gt l b) (gt l c):=by
          show sm fA [(gt l a,gt l b),(gt l b,gt l c),(gt l c,gt l a)]=_
          unfold fA cx crs
          simp only [sm];grind
        rw [e] at k
        rw [hsg];exact k
  |f+1,L,out,h,hl=>by
    unfold ears
    rcases hf:fst L.length (earI l (Pg.sg l) L) with _|k
    · obtain ⟨k, hk, he⟩ := h.ear (by omega)
      exact absurd he (fst_no hf k hk)
    · obtain ⟨hk, he⟩ := fst_yes hf
      have h':=h.step (by omega) hk he
      obtain ⟨T,h1,h2,h3⟩:=ears_tr f (L.eraseIdx k) (out++[Pg.tri L k]) h' (by rw [List.length_eraseIdx,if_pos hk];omega)
      refine ⟨Pg.tri L k :: T,by show ears l (Pg.sg l) f (L.eraseIdx k) (out++[Pg.tri L k])=_;rw [h1];simp,?_,fun t ht=> ?_⟩
      · obtain ⟨w, A, u, e, hw, hu, hA, hmem⟩ := ring_form rfl hk (by omega)
        have hL:=split_at hk
        rw [erase_at,iL_app] at h2
        have h4:=h2.rot
        rw [← iL_app,e] at h4
        have hnL:L.Nodup:=nd_of_map (f:=gt l) h.sc.nd
        have hn:(nt L k :: L.drop (k+1)++L.take k).Nodup:=by
          refine nd_rot (X:=L.take k) (Y:=nt L k :: L.drop (k+1)) ?_
          rw [← hL];exact hnL
        have hn2:(iL (nt L k :: L.drop (k+1)++L.take k)).Nodup:=nd_map hn fun a _ b _ z=>by
          have:(a:Int)=(b:Int):=z
          omega
        have e2:iL (nt L k :: L.drop (k+1)++L.take k)=(nt L k:Int) :: (w:Int) :: iL A++[(u:Int)]:=by
          rw [List.cons_append,e]
          show (nt L k:Int) :: (w :: A++[u]).map (fun x:Nat=>(x:Int))=_
          simp [iL]
        rw [e2] at hn2
        have h5:Tr ((w:Int) :: iL A++[(u:Int)]) T:=by
          have:iL (w :: A++[u])=(w:Int) :: iL A++[(u:Int)]:=by simp [iL]
          rw [← this];exact h4
        have h6:=Tr.cor1 hn2 (fun z=>by
          have:(iL A).length=0:=by rw [z];rfl
          unfold iL at this
          rw [List.length_map] at this;omega) h5
        rw [← e2,iL_app] at h6
        have h7:=h6.rot
        rw [← iL_app,←hL] at h7
        have et:Pg.tri L k=((u:Int),((nt L k:Nat):Int),(w:Int)):=by unfold Pg.tri;rw [hw,hu]
        rw [et]
        exact h7.perm List.perm_append_comm
      · rcases List.mem_cons.1 ht with rfl | ht
        · exact he.1
        · exact h3 t ht
theorem Tr.ac {l:List P2} {n:Nat} (h3:3≤n) {T:List T3} (h:Tr (iL (List.range n)) T) (hT:∀t∈T,0<Pg.sg l*(cT l t).sign):acP n l T:=by
  have hl:(iL (List.range n)).length=n:=by simp [iL]
  have hc:cyc (iL (List.range n))=(List.range n).map (fun i:Nat=>((i:Int),nxi n (i:Int))):=by
    rw [cyc_getD 0 hl]
    refine List.map_congr_left fun i hi=> ?_
    rw [List.mem_range] at hi
    have g:∀j,j<n→(iL (List.range n)).getD j 0=(j:Int):=fun j hj=>by
      unfold iL
      rw [List.getD_eq_getElem?_getD,List.getElem?_map,List.getElem?_range hj];rfl
    rw [g i hi,g _ (Nat.mod_lt _ (by omega)),nxi_nat]
  have hm:∀x,x∈iL (List.range n)→0≤x∧x<n:=fun x hx=>by
    obtain ⟨j,hj,rfl⟩:=List.mem_map.1 hx
    rw [List.mem_range] at hj
    show 0≤(j:Int)∧(j:Int)<n
    omega
  refine ⟨by have:=h.len;omega,fun x hx=> ?_,h.nd,fun e he hne=> ?_,fun i hi=> ?_⟩
  · obtain ⟨a, b, c⟩ := h.mem x hx
    exact ⟨⟨hm _ a,hm _ b,hm _ c⟩,hT x hx⟩
  · refine h.rev e he fun k => hne ?_
    rw [hc] at k
    obtain ⟨i,_,rfl⟩:=List.mem_map.1 k
    rfl
  · exact h.cy _ (by rw [hc];exact List.mem_map.2 ⟨i,List.mem_range.2 hi,rfl⟩)
theorem er_all {l:List P2} {n:Nat} (hk:ck l=0) (hn:l.length=n):erC l=0∧acP n l (erV l)∧(erV l).length=n - 2:=by
  have h3:=(Sm.of hk).n3
  obtain ⟨T,h1,h2,hT⟩:=ears_tr (l.length - 3) (List.range l.length) [] (Rn.zero hk rfl) (by rw [List.length_range];omega)
  have he:earO l=some T:=by unfold earO;rw [h1];rfl
  obtain ⟨v1,v2⟩:=er_some hk he
  rw [v1,v2]
  have ha:=Tr.ac (by omega) h2 hT
  rw [hn] at ha
  exact ⟨rfl,ha,by have:=ha.1;omega⟩
def fr (l:List P2) (L:List Nat) (k j:Nat):Prop:=nt L j≠nt L (px L.length k)∧nt L j≠nt L k∧nt L j≠nt L (sx L.length k)∧inTr (gt l (nt L (px L.length k))) (gt l (nt L k)) (gt l (nt L (sx L.length k))) (gt l (nt L j))
instance (l:List P2) (L:List Nat) (k j:Nat):Decidable (fr l L k j):=inferInstanceAs (Decidable (_∧_))
def rE (l:List P2) (L:List Nat) (k:Nat):Prop:=(crs (gt l (nt L (px L.length k))) (gt l (nt L k)) (gt l (nt L (sx L.length k)))).sign=(db l).sign∧∀j,j<L.length→¬fr l L k j
theorem Rn.inj {l:List P2} {L:List Nat} (h:Rn l L) {i j:Nat} (hi:i<L.length) (hj:j<L.length) (e:nt L i=nt L j):i=j:=by
  have hnL:L.Nodup:=nd_of_map (f:=gt l) h.sc.nd
  unfold nt at e
  rw [List.getD_eq_getElem?_getD,List.getD_eq_getElem?_getD,List.getElem?_eq_getElem hi,List.getElem?_eq_getElem hj] at e
  have he2:L[i]=L[j]:=e
  have hp:=List.pairwise_iff_getElem.1 hnL
  rcases Nat.lt_trichotomy i j with k|k|k
  · exact absurd he2 (hp _ _ (by omega) (by omega) k)
  · exact k
  · exact absurd he2.symm (hp _ _ (by omega) (by omega) k)
theorem tix {m k j a b:Nat} (hk:k<m) (hj:j<m) (h4:4≤m) (ha:a<m) (hb:b<m) (h0:0<m) (p:k=0∧a=m - 1∨0<k∧a=k - 1) (q:k+1<m∧b=k+1∨m≤k+1∧b=0) (j1:j≠a) (j2:j≠k) (j3:j≠b):∃t,t<m - 3∧(k+2+t)%m=j:=by
  by_cases c:k+2≤j
  · refine ⟨j - (k + 2), by omega, ?_⟩
    have md:=md_c (x:=k+2+(j - (k+2))) (m:=m) (by omega)
    omega
  · refine ⟨j + m - (k + 2), by omega, ?_⟩
    have md:=md_c (x:=k+2+(j+m - (k+2))) (m:=m) (by omega)
    omega
theorem rE_iff {l:List P2} {L:List Nat} (hd:db l≠0) (h:Rn l L) (h4:4≤L.length) {k:Nat} (hk:k<L.length):rE l L k↔earI l (Pg.sg l) L k:=by
  have hs:=sg_rng l
  have hsd:(db l).sign=Pg.sg l:=by
    unfold Pg.sg
    have:=Sw.sgn_c (db l)
    split <;> omega
  have p:=px_c L.length k
  have q:=sx_c L.length k
  have hp:=px_lt hk
  have hq:=sx_lt hk
  unfold rE earI corn
  rw [hsd]
  generalize hc:crs (gt l (nt L (px L.length k))) (gt l (nt L k)) (gt l (nt L (sx L.length k)))=D
  have hiff:D.sign=Pg.sg l↔0<Pg.sg l*D.sign:=by
    have:=Sw.sgn_c D
    rcases hs with e|e <;> rw [e] <;> omega
  rw [hiff]
  refine and_congr_right fun hD=> ?_
  have hin:∀x:P2,inTr (gt l (nt L (px L.length k))) (gt l (nt L k)) (gt l (nt L (sx L.length k))) x↔in3 (Pg.sg l) (gt l (nt L (px L.length k))) (gt l (nt L k)) (gt l (nt L (sx L.length k))) x:=fun x=>by
    have hb:=byS (gt l (nt L (px L.length k))) (gt l (nt L k)) (gt l (nt L (sx L.length k))) x
    rw [hc] at hb
    unfold inTr in3
    generalize crs (gt l (nt L (px L.length k))) (gt l (nt L k)) x=X at*
    generalize crs (gt l (nt L k)) (gt l (nt L (sx L.length k))) x=Y at*
    generalize crs (gt l (nt L (sx L.length k))) (gt l (nt L (px L.length k))) x=Z at*
    have sX:=Sw.sgn_c X
    have sY:=Sw.sgn_c Y
    have sZ:=Sw.sgn_c Z
    have sD:=Sw.sgn_c D
    rcases hs with e|e <;> rw [e] at hD ⊢ <;> constructor <;> intro hh <;> omega
  constructor
  · intro hall t ht hi
    have mt:=md_c (x:=k+2+t) (m:=L.length) (by omega)
    have ht2:(k+2+t)%L.length<L.length:=Nat.mod_lt _ (by omega)
    refine hall _ ht2 ⟨fun z=> ?_,fun z=> ?_,fun z=> ?_,(hin _).2 hi⟩
    · have:=h.inj ht2 hp z;omega
    · have:=h.inj ht2 hk z;omega
    · have:=h.inj ht2 hq z;omega
  · rintro hall j hj ⟨n1, n2, n3, n4⟩
    have j1:j≠px L.length k:=fun z=>n1 (by rw [z])
    have j2:j≠k:=fun z=>n2 (by rw [z])
    have j3:j≠sx L.length k:=fun z=>n3 (by rw [z])
    obtain ⟨t,ht,e⟩:=tix hk hj h4 (by omega) (by omega) (by omega) p q j1 j2 j3
    refine hall t ht ?_
    unfold in3I
    rw [e];exact (hin _).1 n4
end Go.Proofs.YtjcpbhlijoigfaaGreat.Er
namespace Go.Proofs.YtjcpbhlijoigfaaGreat.Er
open Pg Sw
set_option linter.unusedVariables false
theorem iL_get (L:List Nat) (j:Nat):(iL L).getD j 0=((nt L j:Nat):Int):=by
  unfold iL nt
  rw [List.getD_eq_getElem?_getD,List.getD_eq_getElem?_getD,List.getElem?_map]
  cases L[j]? <;> rfl
theorem iL_len (L:List Nat):(iL L).length=L.length:=List.length_map _
theorem iL_range (k:Nat):iL (List.range (k+1))=iL (List.range k)++[(k:Int)]:=by
  rw [List.range_succ,iL_app];rfl
theorem px_md {m k:Nat} (h:k<m):(k+m - 1)%m=px m k:=by
  have h1:=md_c (x:=k+m - 1) (m:=m) (by omega)
  have h2:=px_c m k
  omega
theorem sx_md {m k:Nat} (h:k<m):(k+1)%m=sx m k:=by
  have h1:=md_c (x:=k+1) (m:=m) (by omega)
  have h2:=sx_c m k
  omega
def Fd (l:List P2) (L:List Nat) (out:List T3) (k:Nat) (az:Int) (o2:List T3):Prop:=k≤L.length∧((az= -1∧o2=out∧∀j,j<k→¬rE l L j)∨∃i,i<L.length∧k=i+1∧az=(i:Int)∧rE l L i∧(∀j,j<i→¬rE l L j)∧o2=out++[Pg.tri L i])
theorem Fd.zero {l:List P2} {L:List Nat} {out:List T3}:Fd l L out 0 (-1) out:=⟨Nat.zero_le _,.inl ⟨rfl,rfl,fun j h=>by omega⟩⟩
theorem Fd.neg {l:List P2} {L:List Nat} {out o2:List T3} {k:Nat} {az:Int} (h:Fd l L out k az o2) (ha:az<0):az= -1∧o2=out∧∀j,j<k→¬rE l L j:=by
  rcases h.2 with h|⟨i,h1,h2,h3,_⟩
  · exact h
  · omega
theorem Fd.no {l:List P2} {L:List Nat} {out o2:List T3} {k:Nat} {az:Int} (h:Fd l L out k az o2) (ha:az<0) (hk:k<L.length) (hn:¬rE l L k):Fd l L out (k+1) az o2:=by
  obtain ⟨a,b,c⟩:=h.neg ha
  exact ⟨hk,.inl ⟨a,b,Ms.all_lt_succ c hn⟩⟩
theorem Fd.yes {l:List P2} {L:List Nat} {out o2:List T3} {k:Nat} {az:Int} (h:Fd l L out k az o2) (ha:az<0) (hk:k<L.length) (hn:rE l L k):Fd l L out (k+1) (k:Int) (o2++[Pg.tri L k]):=by
  obtain ⟨a,b,c⟩:=h.neg ha
  exact ⟨hk,.inr ⟨k,hk,rfl,rfl,hn,c,by rw [b]⟩⟩
theorem Fd.fin {l:List P2} {L:List Nat} {out o2:List T3} {k:Nat} {az:Int} (h:Fd l L out k az o2) (hd:db l≠0) (hR:Rn l L) (h4:4≤L.length) (he:¬(k<L.length∧az<0)):∃i,i<L.length∧az=(i:Int)∧earI l (Pg.sg l) L i∧(∀j,j<i→¬earI l (Pg.sg l) L j)∧o2=out++[Pg.tri L i]:=by
  rcases h.2 with ⟨a,b,c⟩|⟨i,h1,h2,h3,h5,h6,h7⟩
  · obtain ⟨i, hi, hE⟩ := hR.ear h4
    have:=h.1
    exact absurd ((rE_iff hd hR h4 hi).2 hE) (c i (by omega))
  · exact ⟨i,h1,h3,(rE_iff hd hR h4 h1).1 h5,fun j hj k=>h6 j hj ((rE_iff hd hR h4 (by omega)).2 k),h7⟩
theorem Fd.len {l:List P2} {L:List Nat} {out o2:List T3} {k:Nat} {az:Int} (h:Fd l L out k az o2):o2.length≤out.length+1:=by
  rcases h.2 with ⟨_,b,_⟩|⟨i,_,_,_,_,_,b⟩
  · rw [b];omega
  · rw [b,List.length_append];exact Nat.le_refl _
def ern (L:List Nat) (i j:Nat):List Nat:=(L.take j).eraseIdx i
theorem ern_len {L:List Nat} {i j:Nat}:(ern L i j).length≤j:=by
  unfold ern
  refine Nat.le_trans (List.length_eraseIdx_le ..) ?_
  rw [List.length_take];omega
theorem ern_ne {L:List Nat} {i j:Nat} (hj:j<L.length) (h:j≠i):ern L i (j+1)=ern L i j++[nt L j]:=by
  unfold ern
  rw [Ms.take_snoc 0 hj]
  have hl:(L.take j).length=j:=by rw [List.length_take];omega
  by_cases c:i<j
  · rw [List.eraseIdx_append_of_lt_length (by omega)]
  · rw [List.eraseIdx_of_length_le (by rw [List.length_append,hl];simp;omega),List.eraseIdx_of_length_le (by omega)]
theorem ern_eq {L:List Nat} {i:Nat} (hi:i<L.length):ern L i (i+1)=ern L i i:=by
  unfold ern
  have hl:(L.take i).length=i:=by rw [List.length_take];omega
  rw [Ms.take_snoc 0 hi,List.eraseIdx_append_of_length_le (by omega),hl,Nat.sub_self,List.eraseIdx_of_length_le (l:=L.take i) (by omega)]
  simp
theorem ern_ni {L:List Nat} {i j:Nat} (hj:j<L.length) (h:j≠i):iL (ern L i (j+1))=iL (ern L i j)++[((nt L j:Nat):Int)]:=by rw [ern_ne hj h,iL_app];rfl
theorem ern_all {L:List Nat} {i j:Nat} (hj:L.length≤j):ern L i j=L.eraseIdx i:=by unfold ern;rw [List.take_of_length_le hj]
structure Oe (n:Nat) (l:List P2) (L:List Nat) (out:List T3):Prop where
  r:Rn l L
  n3:3≤L.length
  e:ears l (Pg.sg l) (L.length - 3) L out=earO l
  o:out.length+L.length=n
theorem Oe.zero {n:Nat} {l:List P2} (hk:ck l=0) (hn:l.length=n):Oe n l (List.range n) []:=by
  have h3:=(Sm.of hk).n3
  refine ⟨Rn.zero hk hn,by rw [List.length_range];omega,by rw [List.length_range];unfold earO;rw [hn],by rw [List.length_range];simp⟩
theorem Oe.step {n:Nat} {l:List P2} {L:List Nat} {out o2:List T3} (h:Oe n l L out) (h4:4≤L.length) {i:Nat} (hi:i<L.length) (he:earI l (Pg.sg l) L i) (hm:∀j,j<i→¬earI l (Pg.sg l) L j) (ho:o2=out++[Pg.tri L i]):Oe n l (L.eraseIdx i) o2:=by
  have hl:(L.eraseIdx i).length=L.length - 1:=by rw [List.length_eraseIdx,if_pos hi]
  refine ⟨h.r.step h4 hi he,by omega,?_,?_⟩
  · rw [ho,←ears_some (by omega) hi he hm];exact h.e
  · rw [ho, List.length_append]
    have:=h.o
    show out.length+1+_=_
    omega
theorem Oe.fin {n:Nat} {l:List P2} {L:List Nat} {out:List T3} (h:Oe n l L out) (hk:ck l=0) (h3:L.length=3):erV l=out++[(((nt L 0:Nat):Int),((nt L 1:Nat):Int),((nt L 2:Nat):Int))]:=by
  have he:=h.e
  rw [ears_end h3] at he
  exact (er_some hk he.symm).1
end Go.Proofs.YtjcpbhlijoigfaaGreat.Er
namespace Go.Proofs.YtjcpbhlijoigfaaGreat.Sp
open Go
set_option linter.unusedVariables false
set_option maxRecDepth 100000
set_option maxHeartbeats 8000000
theorem zkc {ex:Int} {ey:Int} (hwex: -9223372036854775808≤ex∧ex≤9223372036854775807) (hwey: -9223372036854775808≤ey∧ey≤9223372036854775807):Con yd 46 [.agg #[.int .i64 ex,.int .i64 ey]] [] [] (Y:=Unit) (fun y=>True) (fun y=> .bool (Pg.far (ex,ey))) (fun y=>[]) (fun y=>[]):=by
 refine zn Tryz.func46 rfl rfl rfl (fun c=> ?_)
 show RunC _ _ _ _ _ [(0,.agg #[.int .i64 ex,.int .i64 ey])] [] []
 refine zg<|za<|zO rfl rfl (zS rfl rfl) (fun b1=> ?_)
 refine e_p (zb rfl)<|zh<|zd<|zFa (X:=Unit) (fun x=>True) (fun x=>[(2,.bool (decide ((((ex<(-0x100000))∨(0x100000<ex))∨(ey<(-0x100000)))∨(0x100000<ey))))]) (fun x=>[boxA b1 30 [.int .i64 ex,.int .i64 ey]]) (fun x=>[]) ?_ ?_
 ·
  refine za<|e_p (zf ya rfl sz3 rfl rfl)<|e_ru (ze 0 ty3 rfl rfl rfl)<|e_p (zaa rfl rfl)<|zW rfl rfl (zV rfl) (fun h2=> ?_) (fun h2=> ?_)
  ·
   refine e_no<|e_no<|e_no<|e_p (zl rfl rfl)<|e_mv rfl<|e_no<|e_no<|e_no<|e_p (zl rfl rfl)<|e_mv rfl<|e_no<|e_no<|e_no<|e_p (zl rfl rfl)<|e_p (zb rfl)<|zh ?_
   exact zea () (show True from by first|trivial|omega|simp_all) ((.e rfl (congrArg Value.bool cbu) .n):SubM _ _) (ho:=((.c (i:=0) rfl .n):PickO _ _ _)) (.n:SelR _ _ _)
  ·
   refine e_p (zf ya rfl sz3 rfl rfl)<|e_ru (ze 0 ty3 rfl rfl rfl)<|e_p (zBa rfl rfl)<|e_p (zl rfl rfl)<|zW rfl rfl (zV rfl) (fun h3=> ?_) (fun h3=> ?_)
   ·
    refine e_no<|e_no<|e_no<|e_p (zl rfl rfl)<|e_mv rfl<|e_no<|e_no<|e_no<|e_p (zl rfl rfl)<|e_p (zb rfl)<|zh ?_
    exact zea () (show True from by first|trivial|omega|simp_all) ((.e rfl (congrArg Value.bool cbu) .n):SubM _ _) (ho:=((.c (i:=0) rfl .n):PickO _ _ _)) (.n:SelR _ _ _)
   ·
    refine e_p (zf ya rfl sz3 rfl rfl)<|e_ru (ze 0 ty3 rfl rfl rfl)<|e_p (zaa rfl rfl)<|e_p (zl rfl rfl)<|zW rfl rfl (zV rfl) (fun h4=> ?_) (fun h4=> ?_)
    ·
     refine e_no<|e_no<|e_no<|e_p (zl rfl rfl)<|e_p (zb rfl)<|zh ?_
     exact zea () (show True from by first|trivial|omega|simp_all) ((.e rfl (congrArg Value.bool cbu) .n):SubM _ _) (ho:=((.c (i:=0) rfl .n):PickO _ _ _)) (.n:SelR _ _ _)
    ·
     refine e_p (zf ya rfl sz3 rfl rfl)<|e_ru (ze 0 ty3 rfl rfl rfl)<|e_p (zBa rfl rfl)<|e_p (zl rfl rfl)<|e_p (zb rfl)<|zh ?_
     exact zea () (show True from by first|trivial|omega|simp_all) ((.e rfl (congrArg Value.bool cbu) .n):SubM _ _) (ho:=((.c (i:=0) rfl .n):PickO _ _ _)) (.n:SelR _ _ _)
 ·
  rintro ⟨⟩ -
  try dsimp only
  refine zK ?_
  exact zx Tryz.results46 () trivial (zk rfl) (congrArg Value.bool (by first|rfl|(simp [Pg.far,Pg.inR];omega)|(rw [Bool.eq_iff_iff,decide_eq_true_iff];simp [Pg.far,Pg.inR];omega))) (ho:=(.n:PickO _ _ _)) (.n:SelR _ _ _)
theorem zue {ex:Int} {ey:Int} (hwex: -9223372036854775808≤ex∧ex≤9223372036854775807) (hwey: -9223372036854775808≤ey∧ey≤9223372036854775807):Con yd 48 [.agg #[.int .i64 ex,.int .i64 ey]] [] [] (Y:=Unit) (fun y=>True) (fun y=> .bool (decide (Pg.inR (ex,ey)))) (fun y=>[]) (fun y=>[]):=by
 refine zn Tryz.func48 rfl rfl rfl (fun c=> ?_)
 show RunC _ _ _ _ _ [(0,.agg #[.int .i64 ex,.int .i64 ey])] [] []
 refine zg<|za<|zO rfl rfl (zS rfl rfl) (fun b1=> ?_)
 refine e_p (zb rfl)<|zh<|zd<|zFa (X:=Unit) (fun x=>True) (fun x=>[(2,.bool (decide (((((-0x100000)≤ex)∧(ex≤0x100000))∧((-0x100000)≤ey))∧(ey≤0x100000))))]) (fun x=>[boxA b1 30 [.int .i64 ex,.int .i64 ey]]) (fun x=>[]) ?_ ?_
 ·
  refine za<|e_p (zf ya rfl sz3 rfl rfl)<|e_ru (ze 0 ty3 rfl rfl rfl)<|e_p (zGa rfl rfl)<|zW rfl rfl (zV rfl) (fun h2=> ?_) (fun h2=> ?_)
  ·
   refine e_p (zf ya rfl sz3 rfl rfl)<|e_ru (ze 0 ty3 rfl rfl rfl)<|e_p (zJa rfl rfl)<|e_p (zl rfl rfl)<|zW rfl rfl (zV rfl) (fun h3=> ?_) (fun h3=> ?_)
   ·
    refine e_p (zf ya rfl sz3 rfl rfl)<|e_ru (ze 0 ty3 rfl rfl rfl)<|e_p (zGa rfl rfl)<|e_p (zl rfl rfl)<|zW rfl rfl (zV rfl) (fun h4=> ?_) (fun h4=> ?_)
    ·
     refine e_p (zf ya rfl sz3 rfl rfl)<|e_ru (ze 0 ty3 rfl rfl rfl)<|e_p (zJa rfl rfl)<|e_p (zl rfl rfl)<|e_p (zb rfl)<|zh ?_
     exact zea () (show True from by first|trivial|omega|simp_all) ((.e rfl (congrArg Value.bool cbu) .n):SubM _ _) (ho:=((.c (i:=0) rfl .n):PickO _ _ _)) (.n:SelR _ _ _)
    ·
     refine e_no<|e_no<|e_no<|e_p (zl rfl rfl)<|e_p (zb rfl)<|zh ?_
     exact zea () (show True from by first|trivial|omega|simp_all) ((.e rfl (congrArg Value.bool cbu) .n):SubM _ _) (ho:=((.c (i:=0) rfl .n):PickO _ _ _)) (.n:SelR _ _ _)
   ·
    refine e_no<|e_no<|e_no<|e_p (zl rfl rfl)<|e_mv rfl<|e_no<|e_no<|e_no<|e_p (zl rfl rfl)<|e_p (zb rfl)<|zh ?_
    exact zea () (show True from by first|trivial|omega|simp_all) ((.e rfl (congrArg Value.bool cbu) .n):SubM _ _) (ho:=((.c (i:=0) rfl .n):PickO _ _ _)) (.n:SelR _ _ _)
  ·
   refine e_no<|e_no<|e_no<|e_p (zl rfl rfl)<|e_mv rfl<|e_no<|e_no<|e_no<|e_p (zl rfl rfl)<|e_mv rfl<|e_no<|e_no<|e_no<|e_p (zl rfl rfl)<|e_p (zb rfl)<|zh ?_
   exact zea () (show True from by first|trivial|omega|simp_all) ((.e rfl (congrArg Value.bool cbu) .n):SubM _ _) (ho:=((.c (i:=0) rfl .n):PickO _ _ _)) (.n:SelR _ _ _)
 ·
  rintro ⟨⟩ -
  try dsimp only
  refine zK ?_
  exact zx Tryz.results48 () trivial (zk rfl) (congrArg Value.bool (by first|rfl|(rw [Bool.eq_iff_iff,decide_eq_true_iff,decide_eq_true_iff];unfold Pg.inR;dsimp only;omega)|(simp [Pg.inR,and_assoc];done))) (ho:=(.n:PickO _ _ _)) (.n:SelR _ _ _)
theorem zYa {ex:Int} {ey:Int} {fx:Int} {fy:Int} {gx:Int} {gy:Int} (hre:Pg.inR (ex,ey)) (hrf:Pg.inR (fx,fy)) (hrg:Pg.inR (gx,gy)):Con yd 54 [.agg #[.int .i64 ex,.int .i64 ey],.agg #[.int .i64 fx,.int .i64 fy],.agg #[.int .i64 gx,.int .i64 gy]] [] [] (Y:=Unit) (fun y=>True) (fun y=> .int .i64 ((Pg.crs (ex,ey) (fx,fy) (gx,gy)).sign)) (fun y=>[]) (fun y=>[]):=by
 refine zn Tryz.func54 rfl rfl rfl (fun c=> ?_)
 show RunC _ _ _ _ _ [(0,.agg #[.int .i64 ex,.int .i64 ey]),(1,.agg #[.int .i64 fx,.int .i64 fy]),(2,.agg #[.int .i64 gx,.int .i64 gy])] [] []
 have hue:(-1048576≤ex∧ex≤1048576)∧(-1048576≤ey∧ey≤1048576):=hre
 have huf:(-1048576≤fx∧fx≤1048576)∧(-1048576≤fy∧fy≤1048576):=hrf
 have hug:(-1048576≤gx∧gx≤1048576)∧(-1048576≤gy∧gy≤1048576):=hrg
 obtain ⟨hk1,hk2,hk3⟩:=Pg.cb hre hrf hrg
 dsimp only [Pg.crs] at hk1 hk2 hk3
 refine zg<|za<|zO rfl rfl (zS rfl rfl) (fun b1=> ?_)
 refine zO rfl rfl (zS rfl rfl) (fun b2=> ?_)
 refine zO rfl rfl (zS rfl rfl) (fun b3=> ?_)
 refine e_p (zb rfl)<|zh<|zd<|zg<|za<|e_p (zf ya rfl sz3 rfl rfl)<|e_ru (ze 1 ty3 rfl rfl rfl)<|e_p (zf ya rfl sz3 rfl rfl)<|e_ru (ze 2 ty3 rfl rfl rfl)<|e_p (zoa (z:=(fx - ex)) rfl rfl (w64 om))<|e_p (zf ya rfl sz3 rfl rfl)<|e_ru (ze 0 ty3 rfl rfl rfl)<|e_p (zf ya rfl sz3 rfl rfl)<|e_ru (ze 2 ty3 rfl rfl rfl)<|e_p (zoa (z:=(gy - ey)) rfl rfl (w64 om))<|e_p (zDa (z:=((fx - ex)*(gy - ey))) rfl rfl (w64 om))<|e_p (zf ya rfl sz3 rfl rfl)<|e_ru (ze 1 ty3 rfl rfl rfl)<|e_p (zf ya rfl sz3 rfl rfl)<|e_ru (ze 2 ty3 rfl rfl rfl)<|e_p (zoa (z:=(fy - ey)) rfl rfl (w64 om))<|e_p (zf ya rfl sz3 rfl rfl)<|e_ru (ze 0 ty3 rfl rfl rfl)<|e_p (zf ya rfl sz3 rfl rfl)<|e_ru (ze 2 ty3 rfl rfl rfl)<|e_p (zoa (z:=(gx - ex)) rfl rfl (w64 om))<|e_p (zDa (z:=((fy - ey)*(gx - ex))) rfl rfl (w64 om))<|e_p (zoa (z:=(((fx - ex)*(gy - ey)) - ((fy - ey)*(gx - ex)))) rfl rfl (w64 om))<|e_p (zb rfl)<|zh<|zd<|zg<|zv<|zg<|za<|e_mv rfl<|e_p (zBa rfl rfl)<|e_p (zb rfl)<|zh<|zd<|zG rfl (fun hpos=> ?_) (fun hpos=> ?_)
 ·
  refine zg<|za<|e_p (zb rfl)<|zh<|zd<|zK<|zm<|zi ?_
  exact zx Tryz.results54 () trivial (zk rfl) (congrArg (Value.int .i64) (Int.sign_eq_one_of_pos (a:=Pg.crs (ex,ey) (fx,fy) (gx,gy)) (by dsimp only [Pg.crs];omega))) (ho:=(.n:PickO _ _ _)) (.n:SelR _ _ _)
 ·
  refine zg<|za<|e_mv rfl<|e_p (zaa rfl rfl)<|e_p (zb rfl)<|zh<|zd<|zG rfl (fun hneg=> ?_) (fun hneg=> ?_)
  ·
   refine zg<|za<|e_p (zb rfl)<|zh<|zd<|zK<|zm<|zi ?_
   exact zx Tryz.results54 () trivial (zk rfl) (congrArg (Value.int .i64) (Int.sign_eq_neg_one_of_neg (a:=Pg.crs (ex,ey) (fx,fy) (gx,gy)) (by dsimp only [Pg.crs];omega))) (ho:=(.n:PickO _ _ _)) (.n:SelR _ _ _)
  ·
   refine zt<|zP<|zd<|zg<|za<|e_p (zb rfl)<|zh<|zd<|zK ?_
   exact zx Tryz.results54 () trivial (zk rfl) (congrArg (Value.int .i64) (Int.sign_eq_zero_iff_zero.2 (show Pg.crs (ex,ey) (fx,fy) (gx,gy)=0 by dsimp only [Pg.crs];omega))) (ho:=(.n:PickO _ _ _)) (.n:SelR _ _ _)
theorem zhb {ex:Int} {ey:Int} {fx:Int} {fy:Int} {gx:Int} {gy:Int} (hre:Pg.inR (ex,ey)) (hrf:Pg.inR (fx,fy)) (hrg:Pg.inR (gx,gy)):Con yd 55 [.agg #[.int .i64 ex,.int .i64 ey],.agg #[.int .i64 fx,.int .i64 fy],.agg #[.int .i64 gx,.int .i64 gy]] [] [] (Y:=Unit) (fun y=>True) (fun y=> .int .i64 (Pg.crs (ex,ey) (fx,fy) (gx,gy))) (fun y=>[]) (fun y=>[]):=by
 refine zn Tryz.func55 rfl rfl rfl (fun c=> ?_)
 show RunC _ _ _ _ _ [(0,.agg #[.int .i64 ex,.int .i64 ey]),(1,.agg #[.int .i64 fx,.int .i64 fy]),(2,.agg #[.int .i64 gx,.int .i64 gy])] [] []
 have hue:(-1048576≤ex∧ex≤1048576)∧(-1048576≤ey∧ey≤1048576):=hre
 have huf:(-1048576≤fx∧fx≤1048576)∧(-1048576≤fy∧fy≤1048576):=hrf
 have hug:(-1048576≤gx∧gx≤1048576)∧(-1048576≤gy∧gy≤1048576):=hrg
 obtain ⟨hk1,hk2,hk3⟩:=Pg.cb hre hrf hrg
 dsimp only [Pg.crs] at hk1 hk2 hk3
 refine zg<|za<|zO rfl rfl (zS rfl rfl) (fun b1=> ?_)
 refine zO rfl rfl (zS rfl rfl) (fun b2=> ?_)
 refine zO rfl rfl (zS rfl rfl) (fun b3=> ?_)
 refine e_p (zb rfl)<|zh<|zd<|zg<|za<|e_p (zf ya rfl sz3 rfl rfl)<|e_ru (ze 1 ty3 rfl rfl rfl)<|e_p (zf ya rfl sz3 rfl rfl)<|e_ru (ze 2 ty3 rfl rfl rfl)<|e_p (zoa (z:=(fx - ex)) rfl rfl (w64 om))<|e_p (zf ya rfl sz3 rfl rfl)<|e_ru (ze 0 ty3 rfl rfl rfl)<|e_p (zf ya rfl sz3 rfl rfl)<|e_ru (ze 2 ty3 rfl rfl rfl)<|e_p (zoa (z:=(gy - ey)) rfl rfl (w64 om))<|e_p (zDa (z:=((fx - ex)*(gy - ey))) rfl rfl (w64 om))<|e_p (zf ya rfl sz3 rfl rfl)<|e_ru (ze 1 ty3 rfl rfl rfl)<|e_p (zf ya rfl sz3 rfl rfl)<|e_ru (ze 2 ty3 rfl rfl rfl)<|e_p (zoa (z:=(fy - ey)) rfl rfl (w64 om))<|e_p (zf ya rfl sz3 rfl rfl)<|e_ru (ze 0 ty3 rfl rfl rfl)<|e_p (zf ya rfl sz3 rfl rfl)<|e_ru (ze 2 ty3 rfl rfl rfl)<|e_p (zoa (z:=(gx - ex)) rfl rfl (w64 om))<|e_p (zDa (z:=((fy - ey)*(gx - ex))) rfl rfl (w64 om))<|e_p (zoa (z:=(((fx - ex)*(gy - ey)) - ((fy - ey)*(gx - ex)))) rfl rfl (w64 om))<|e_p (zb rfl)<|zh<|zd<|zK ?_
 exact zx Tryz.results55 () trivial (zk rfl) rfl (ho:=(.n:PickO _ _ _)) (.n:SelR _ _ _)
theorem zib {z:Int} (hz: -9223372036854775808≤z∧z≤9223372036854775807):Con yd 65 [.int .i64 z] [] [] (Y:=Unit) (fun y=>True) (fun y=> .int .i64 (z.sign)) (fun y=>[]) (fun y=>[]):=by
 refine zn Tryz.func65 rfl rfl rfl (fun c=> ?_)
 show RunC _ _ _ _ _ [(0,.int .i64 z)] [] []
 refine zg<|za<|e_p (zb rfl)<|zh<|zd<|zg<|zg<|za<|e_mv rfl<|e_p (zaa rfl rfl)<|zh<|zd<|zG rfl (fun hneg=> ?_) (fun hneg=> ?_)
 ·
  refine zg<|za<|e_p (zb rfl)<|zh<|zd<|zK<|zi ?_
  exact zx Tryz.results65 () trivial (zk rfl) (congrArg (Value.int .i64) (Int.sign_eq_neg_one_of_neg hneg)) (ho:=(.n:PickO _ _ _)) (.n:SelR _ _ _)
 ·
  refine zt<|zd<|zg<|zg<|za<|e_mv rfl<|e_p (zBa rfl rfl)<|zh<|zd<|zG rfl (fun hpos=> ?_) (fun hpos=> ?_)
  ·
   refine zg<|za<|e_p (zb rfl)<|zh<|zd<|zK<|zi ?_
   exact zx Tryz.results65 () trivial (zk rfl) (congrArg (Value.int .i64) (Int.sign_eq_one_of_pos hpos)) (ho:=(.n:PickO _ _ _)) (.n:SelR _ _ _)
  ·
   refine zt<|zd<|zg<|za<|e_p (zb rfl)<|zh<|zd<|zK ?_
   exact zx Tryz.results65 () trivial (zk rfl) (congrArg (Value.int .i64) (Int.sign_eq_zero_iff_zero.2 (show z=0 by omega))) (ho:=(.n:PickO _ _ _)) (.n:SelR _ _ _)
theorem zVf {ex:Int} {ey:Int} {fx:Int} {fy:Int} {gx:Int} {gy:Int}:Con yd 91 [.agg #[.int .i64 ex,.int .i64 ey],.agg #[.int .i64 fx,.int .i64 fy],.agg #[.int .i64 gx,.int .i64 gy]] [] [] (Y:=Unit) (fun y=>True) (fun y=> .bool (decide (Pg.betw (ex,ey) (fx,fy) (gx,gy)))) (fun y=>[]) (fun y=>[]):=by
 refine zn Tryz.func91 rfl rfl rfl (fun c=> ?_)
 show RunC _ _ _ _ _ [(0,.agg #[.int .i64 ex,.int .i64 ey]),(1,.agg #[.int .i64 fx,.int .i64 fy]),(2,.agg #[.int .i64 gx,.int .i64 gy])] [] []
 refine zg<|za<|zO rfl rfl (zS rfl rfl) (fun b1=> ?_)
 refine zO rfl rfl (zS rfl rfl) (fun b2=> ?_)
 refine zO rfl rfl (zS rfl rfl) (fun b3=> ?_)
 refine e_p (zb rfl)<|zh<|zd<|zFa (X:=Unit) (fun x=>True) (fun x=>[(6,.bool (decide (((((min ex fx)≤gx)∧(gx≤(max ex fx)))∧((min ey fy)≤gy))∧(gy≤(max ey fy)))))]) (fun x=>[boxA b3 30 [.int .i64 gx,.int .i64 gy],boxA b2 30 [.int .i64 fx,.int .i64 fy],boxA b1 30 [.int .i64 ex,.int .i64 ey]]) (fun x=>[]) ?_ ?_
 ·
  refine za<|e_p (zf ya rfl sz3 rfl rfl)<|e_ru (ze 2 ty3 rfl rfl rfl)<|e_p (zf ya rfl sz3 rfl rfl)<|e_ru (ze 1 ty3 rfl rfl rfl)<|e_p (zjg rfl rfl)<|e_p (zf ya rfl sz3 rfl rfl)<|e_ru (ze 0 ty3 rfl rfl rfl)<|e_p (zJa rfl rfl)<|zW rfl rfl (zV rfl) (fun h4=> ?_) (fun h4=> ?_)
  ·
   refine e_p (zf ya rfl sz3 rfl rfl)<|e_ru (ze 0 ty3 rfl rfl rfl)<|e_p (zf ya rfl sz3 rfl rfl)<|e_ru (ze 2 ty3 rfl rfl rfl)<|e_p (zf ya rfl sz3 rfl rfl)<|e_ru (ze 1 ty3 rfl rfl rfl)<|e_p (zZe rfl rfl)<|e_p (zJa rfl rfl)<|e_p (zl rfl rfl)<|zW rfl rfl (zV rfl) (fun h5=> ?_) (fun h5=> ?_)
   ·
    refine e_p (zf ya rfl sz3 rfl rfl)<|e_ru (ze 2 ty3 rfl rfl rfl)<|e_p (zf ya rfl sz3 rfl rfl)<|e_ru (ze 1 ty3 rfl rfl rfl)<|e_p (zjg rfl rfl)<|e_p (zf ya rfl sz3 rfl rfl)<|e_ru (ze 0 ty3 rfl rfl rfl)<|e_p (zJa rfl rfl)<|e_p (zl rfl rfl)<|zW rfl rfl (zV rfl) (fun h6=> ?_) (fun h6=> ?_)
    ·
     refine e_p (zf ya rfl sz3 rfl rfl)<|e_ru (ze 0 ty3 rfl rfl rfl)<|e_p (zf ya rfl sz3 rfl rfl)<|e_ru (ze 2 ty3 rfl rfl rfl)<|e_p (zf ya rfl sz3 rfl rfl)<|e_ru (ze 1 ty3 rfl rfl rfl)<|e_p (zZe rfl rfl)<|e_p (zJa rfl rfl)<|e_p (zl rfl rfl)<|e_p (zb rfl)<|zh ?_
     exact zea () (show True from by first|trivial|omega|simp_all) ((.e rfl (congrArg Value.bool cbu) .n):SubM _ _) (ho:=((.of [0,0,0] rfl):PickO _ _ _)) (.n:SelR _ _ _)
    ·
     refine e_no<|e_no<|e_no<|e_no<|e_no<|e_no<|e_no<|e_no<|e_p (zl rfl rfl)<|e_p (zb rfl)<|zh ?_
     exact zea () (show True from by first|trivial|omega|simp_all) ((.e rfl (congrArg Value.bool cbu) .n):SubM _ _) (ho:=((.of [0,0,0] rfl):PickO _ _ _)) (.n:SelR _ _ _)
   ·
    refine e_no<|e_no<|e_no<|e_no<|e_no<|e_no<|e_no<|e_no<|e_p (zl rfl rfl)<|e_mv rfl<|e_no<|e_no<|e_no<|e_no<|e_no<|e_no<|e_no<|e_no<|e_p (zl rfl rfl)<|e_p (zb rfl)<|zh ?_
    exact zea () (show True from by first|trivial|omega|simp_all) ((.e rfl (congrArg Value.bool cbu) .n):SubM _ _) (ho:=((.of [0,0,0] rfl):PickO _ _ _)) (.n:SelR _ _ _)
  ·
   refine e_no<|e_no<|e_no<|e_no<|e_no<|e_no<|e_no<|e_no<|e_p (zl rfl rfl)<|e_mv rfl<|e_no<|e_no<|e_no<|e_no<|e_no<|e_no<|e_no<|e_no<|e_p (zl rfl rfl)<|e_mv rfl<|e_no<|e_no<|e_no<|e_no<|e_no<|e_no<|e_no<|e_no<|e_p (zl rfl rfl)<|e_p (zb rfl)<|zh ?_
   exact zea () (show True from by first|trivial|omega|simp_all) ((.e rfl (congrArg Value.bool cbu) .n):SubM _ _) (ho:=((.of [0,0,0] rfl):PickO _ _ _)) (.n:SelR _ _ _)
 ·
  rintro ⟨⟩ -
  try dsimp only
  refine zK ?_
  exact zx Tryz.results91 () trivial (zk rfl) (congrArg Value.bool (by first|rfl|(rw [Bool.eq_iff_iff,decide_eq_true_iff];simp [Pg.betw,and_assoc,or_assoc];done)|(rw [Bool.eq_iff_iff,decide_eq_true_iff];simp_all [Pg.betw]))) (ho:=(.n:PickO _ _ _)) (.n:SelR _ _ _)
theorem zrf {ex:Int} {ey:Int} {fx:Int}:Con yd 81 [.int .i64 ex,.int .i64 ey,.int .i64 fx] [] [] (Y:=Unit) (fun y=>True) (fun y=> .bool (decide (Pg.wi ex ey fx))) (fun y=>[]) (fun y=>[]):=by
 refine zn Tryz.func81 rfl rfl rfl (fun c=> ?_)
 show RunC _ _ _ _ _ [(0,.int .i64 ex),(1,.int .i64 ey),(2,.int .i64 fx)] [] []
 refine zg<|za<|e_p (zb rfl)<|zh<|zd<|zFa (X:=Unit) (fun x=>True) (fun x=>[(6,.bool (decide (((ex≤fx)∧(fx≤ey))∨((ey≤fx)∧(fx≤ex)))))]) (fun x=>[]) (fun x=>[]) ?_ ?_
 ·
  refine za<|e_mv rfl<|e_mv rfl<|e_p (zJa rfl rfl)<|zW rfl rfl (zV rfl) (fun h1=> ?_) (fun h1=> ?_)
  ·
   refine e_mv rfl<|e_mv rfl<|e_p (zJa rfl rfl)<|e_p (zl rfl rfl)<|zW rfl rfl (zV rfl) (fun h2=> ?_) (fun h2=> ?_)
   ·
    refine e_no<|e_no<|e_no<|e_no<|e_no<|e_no<|e_no<|e_no<|e_p (zl rfl rfl)<|e_p (zb rfl)<|zh ?_
    exact zea () (show True from by first|trivial|omega|simp_all) ((.e rfl (congrArg Value.bool cbu) .n):SubM _ _) (ho:=(.n:PickO _ _ _)) (.n:SelR _ _ _)
   ·
    refine e_mv rfl<|e_mv rfl<|e_p (zJa rfl rfl)<|zW rfl rfl (zV rfl) (fun h3=> ?_) (fun h3=> ?_)
    ·
     refine e_mv rfl<|e_mv rfl<|e_p (zJa rfl rfl)<|e_p (zl rfl rfl)<|e_p (zl rfl rfl)<|e_p (zb rfl)<|zh ?_
     exact zea () (show True from by first|trivial|omega|simp_all) ((.e rfl (congrArg Value.bool cbu) .n):SubM _ _) (ho:=(.n:PickO _ _ _)) (.n:SelR _ _ _)
    ·
     refine e_no<|e_no<|e_no<|e_p (zl rfl rfl)<|e_p (zl rfl rfl)<|e_p (zb rfl)<|zh ?_
     exact zea () (show True from by first|trivial|omega|simp_all) ((.e rfl (congrArg Value.bool cbu) .n):SubM _ _) (ho:=(.n:PickO _ _ _)) (.n:SelR _ _ _)
  ·
   refine e_no<|e_no<|e_no<|e_p (zl rfl rfl)<|e_mv rfl<|e_mv rfl<|e_mv rfl<|e_p (zJa rfl rfl)<|zW rfl rfl (zV rfl) (fun h4=> ?_) (fun h4=> ?_)
   ·
    refine e_mv rfl<|e_mv rfl<|e_p (zJa rfl rfl)<|e_p (zl rfl rfl)<|e_p (zl rfl rfl)<|e_p (zb rfl)<|zh ?_
    exact zea () (show True from by first|trivial|omega|simp_all) ((.e rfl (congrArg Value.bool cbu) .n):SubM _ _) (ho:=(.n:PickO _ _ _)) (.n:SelR _ _ _)
   ·
    refine e_no<|e_no<|e_no<|e_p (zl rfl rfl)<|e_p (zl rfl rfl)<|e_p (zb rfl)<|zh ?_
    exact zea () (show True from by first|trivial|omega|simp_all) ((.e rfl (congrArg Value.bool cbu) .n):SubM _ _) (ho:=(.n:PickO _ _ _)) (.n:SelR _ _ _)
 ·
  rintro ⟨⟩ -
  try dsimp only
  refine zK ?_
  exact zx Tryz.results81 () trivial (zk rfl) (congrArg Value.bool (by first|rfl|(simp [Pg.wi];done)|simp_all [Pg.wi])) (ho:=(.n:PickO _ _ _)) (.n:SelR _ _ _)
theorem zac {ex:Int} {ey:Int} {fx:Int} {fy:Int} {gx:Int} {gy:Int} (hre:Pg.inR (ex,ey)) (hrf:Pg.inR (fx,fy)) (hrg:Pg.inR (gx,gy)):Con yd 50 [.agg #[.int .i64 ex,.int .i64 ey],.agg #[.int .i64 fx,.int .i64 fy],.agg #[.int .i64 gx,.int .i64 gy]] [] [] (Y:=Unit) (fun y=>True) (fun y=> .bool (decide (Pg.onS (ex,ey) (fx,fy) (gx,gy)))) (fun y=>[]) (fun y=>[]):=by
 refine zn Tryz.func50 rfl rfl rfl (fun c=> ?_)
 show RunC _ _ _ _ _ [(0,.agg #[.int .i64 ex,.int .i64 ey]),(1,.agg #[.int .i64 fx,.int .i64 fy]),(2,.agg #[.int .i64 gx,.int .i64 gy])] [] []
 refine zg<|za<|zO rfl rfl (zS rfl rfl) (fun b1=> ?_)
 refine zO rfl rfl (zS rfl rfl) (fun b2=> ?_)
 refine zO rfl rfl (zS rfl rfl) (fun b3=> ?_)
 refine e_p (zb rfl)<|zh<|zd<|zFa (X:=Unit) (fun x=>True) (fun x=>[(6,.bool (decide (((Pg.crs (ex,ey) (fx,fy) (gx,gy)).sign=0)∧(Pg.betw (ex,ey) (fx,fy) (gx,gy)))))]) (fun x=>[boxA b3 30 [.int .i64 gx,.int .i64 gy],boxA b2 30 [.int .i64 fx,.int .i64 fy],boxA b1 30 [.int .i64 ex,.int .i64 ey]]) (fun x=>[]) ?_ ?_
 ·
  refine za<|e_ru (zc 2 ty30 rfl rfl (.t2 .nil))<|e_ru (zc 1 ty30 rfl rfl (.t2 .nil))<|e_ru (zc 0 ty30 rfl rfl (.t2 .nil))<|zN rfl rfl (.c rfl (.c rfl (.c rfl .n))) ce54 (zYa (ex:=ex) (ey:=ey) (fx:=fx) (fy:=fy) (gx:=gx) (gy:=gy) (hre:=ass) (hrf:=ass) (hrg:=ass)) (.n)<|e_p (zCa rfl rfl)<|zW rfl rfl (zV rfl) (fun h4=> ?_) (fun h4=> ?_)
  ·
   refine e_ru (zc 2 ty30 rfl rfl (.t2 .nil))<|e_ru (zc 1 ty30 rfl rfl (.t2 .nil))<|e_ru (zc 0 ty30 rfl rfl (.t2 .nil))<|zN rfl rfl (.c rfl (.c rfl (.c rfl .n))) ce91 (zVf (ex:=ex) (ey:=ey) (fx:=fx) (fy:=fy) (gx:=gx) (gy:=gy)) (.n)<|e_p (zl rfl rfl)<|e_p (zb rfl)<|zh ?_
   exact zea () (show True from by first|trivial|omega|simp_all) ((.e rfl (congrArg Value.bool cbu) .n):SubM _ _) (ho:=((.of [0,0,0] rfl):PickO _ _ _)) (.n:SelR _ _ _)
  ·
   refine e_no<|e_no<|e_no<|e_no<|e_p (zl rfl rfl)<|e_p (zb rfl)<|zh ?_
   exact zea () (show True from by first|trivial|omega|simp_all) ((.e rfl (congrArg Value.bool cbu) .n):SubM _ _) (ho:=((.of [0,0,0] rfl):PickO _ _ _)) (.n:SelR _ _ _)
 ·
  rintro ⟨⟩ -
  try dsimp only
  refine zK ?_
  exact zx Tryz.results50 () trivial (zk rfl) (congrArg Value.bool (by first|rfl|(rw [Bool.eq_iff_iff,decide_eq_true_iff];simp [Pg.onS,Int.sign_eq_zero_iff_zero,and_assoc,or_assoc];done)|(rw [Bool.eq_iff_iff,decide_eq_true_iff];simp_all [Pg.onS,Int.sign_eq_zero_iff_zero]))) (ho:=(.n:PickO _ _ _)) (.n:SelR _ _ _)
theorem zPb {ex:Int} {ey:Int} {fx:Int} {fy:Int} {gx:Int} {gy:Int} (hre:Pg.inR (ex,ey)) (hrf:Pg.inR (fx,fy)) (hrg:Pg.inR (gx,gy)):Con yd 35 [.agg #[.int .i64 ex,.int .i64 ey],.agg #[.int .i64 fx,.int .i64 fy],.agg #[.int .i64 gx,.int .i64 gy]] [] [] (Y:=Unit) (fun y=>True) (fun y=> .bool (decide (Pg.onS (ex,ey) (fx,fy) (gx,gy)))) (fun y=>[]) (fun y=>[]):=by
 refine zn Tryz.func35 rfl rfl rfl (fun c=> ?_)
 show RunC _ _ _ _ _ [(0,.agg #[.int .i64 ex,.int .i64 ey]),(1,.agg #[.int .i64 fx,.int .i64 fy]),(2,.agg #[.int .i64 gx,.int .i64 gy])] [] []
 refine zg<|za<|zO rfl rfl (zS rfl rfl) (fun b1=> ?_)
 refine zO rfl rfl (zS rfl rfl) (fun b2=> ?_)
 refine zO rfl rfl (zS rfl rfl) (fun b3=> ?_)
 refine e_p (zb rfl)<|zh<|zd<|zFa (X:=Unit) (fun x=>True) (fun x=>[(6,.bool (decide (((Pg.crs (ex,ey) (fx,fy) (gx,gy)=0)∧(Pg.wi ex fx gx))∧(Pg.wi ey fy gy))))]) (fun x=>[boxA b3 30 [.int .i64 gx,.int .i64 gy],boxA b2 30 [.int .i64 fx,.int .i64 fy],boxA b1 30 [.int .i64 ex,.int .i64 ey]]) (fun x=>[]) ?_ ?_
 ·
  refine za<|e_ru (zc 2 ty30 rfl rfl (.t2 .nil))<|e_ru (zc 1 ty30 rfl rfl (.t2 .nil))<|e_ru (zc 0 ty30 rfl rfl (.t2 .nil))<|zN rfl rfl (.c rfl (.c rfl (.c rfl .n))) ce55 (zhb (ex:=ex) (ey:=ey) (fx:=fx) (fy:=fy) (gx:=gx) (gy:=gy) (hre:=ass) (hrf:=ass) (hrg:=ass)) (.n)<|e_p (zCa rfl rfl)<|zW rfl rfl (zV rfl) (fun h4=> ?_) (fun h4=> ?_)
  ·
   refine e_p (zf ya rfl sz3 rfl rfl)<|e_ru (ze 2 ty3 rfl rfl rfl)<|e_p (zf ya rfl sz3 rfl rfl)<|e_ru (ze 1 ty3 rfl rfl rfl)<|e_p (zf ya rfl sz3 rfl rfl)<|e_ru (ze 0 ty3 rfl rfl rfl)<|zN rfl rfl (.c rfl (.c rfl (.c rfl .n))) ce81 (zrf (ex:=ex) (ey:=fx) (fx:=gx)) (.n)<|e_p (zl rfl rfl)<|zW rfl rfl (zV rfl) (fun h5=> ?_) (fun h5=> ?_)
   ·
    refine e_p (zf ya rfl sz3 rfl rfl)<|e_ru (ze 2 ty3 rfl rfl rfl)<|e_p (zf ya rfl sz3 rfl rfl)<|e_ru (ze 1 ty3 rfl rfl rfl)<|e_p (zf ya rfl sz3 rfl rfl)<|e_ru (ze 0 ty3 rfl rfl rfl)<|zN rfl rfl (.c rfl (.c rfl (.c rfl .n))) ce81 (zrf (ex:=ey) (ey:=fy) (fx:=gy)) (.n)<|e_p (zl rfl rfl)<|e_p (zb rfl)<|zh ?_
    exact zea () (show True from by first|trivial|omega|simp_all) ((.e rfl (congrArg Value.bool cbu) .n):SubM _ _) (ho:=((.of [0,0,0] rfl):PickO _ _ _)) (.n:SelR _ _ _)
   ·
    refine e_no<|e_no<|e_no<|e_no<|e_no<|e_no<|e_no<|e_p (zl rfl rfl)<|e_p (zb rfl)<|zh ?_
    exact zea () (show True from by first|trivial|omega|simp_all) ((.e rfl (congrArg Value.bool cbu) .n):SubM _ _) (ho:=((.of [0,0,0] rfl):PickO _ _ _)) (.n:SelR _ _ _)
  ·
   refine e_no<|e_no<|e_no<|e_no<|e_no<|e_no<|e_no<|e_p (zl rfl rfl)<|e_mv rfl<|e_no<|e_no<|e_no<|e_no<|e_no<|e_no<|e_no<|e_p (zl rfl rfl)<|e_p (zb rfl)<|zh ?_
   exact zea () (show True from by first|trivial|omega|simp_all) ((.e rfl (congrArg Value.bool cbu) .n):SubM _ _) (ho:=((.of [0,0,0] rfl):PickO _ _ _)) (.n:SelR _ _ _)
 ·
  rintro ⟨⟩ -
  try dsimp only
  refine zK ?_
  exact zx Tryz.results35 () trivial (zk rfl) (congrArg Value.bool (by first|rfl|(rw [Bool.eq_iff_iff,decide_eq_true_iff];simp [Pg.onS,Pg.betw_wi,and_assoc,or_assoc];done)|(rw [Bool.eq_iff_iff,decide_eq_true_iff];simp_all [Pg.onS,Pg.betw_wi]))) (ho:=(.n:PickO _ _ _)) (.n:SelR _ _ _)
theorem zsf {ex:Int} {ey:Int} {fx:Int} {fy:Int}:Con yd 52 [.agg #[.int .i64 ex,.int .i64 ey],.agg #[.int .i64 fx,.int .i64 fy]] [] [] (Y:=Unit) (fun y=>True) (fun y=> .bool (decide ((ex,ey)=(fx,fy)))) (fun y=>[]) (fun y=>[]):=by
 refine zn Tryz.func52 rfl rfl rfl (fun c=> ?_)
 show RunC _ _ _ _ _ [(0,.agg #[.int .i64 ex,.int .i64 ey]),(1,.agg #[.int .i64 fx,.int .i64 fy])] [] []
 refine zg<|za<|zO rfl rfl (zS rfl rfl) (fun b1=> ?_)
 refine zO rfl rfl (zS rfl rfl) (fun b2=> ?_)
 refine e_p (zb rfl)<|zh<|zd<|zFa (X:=Unit) (fun x=>True) (fun x=>[(4,.bool (decide ((ex=fx)∧(ey=fy))))]) (fun x=>[boxA b2 30 [.int .i64 fx,.int .i64 fy],boxA b1 30 [.int .i64 ex,.int .i64 ey]]) (fun x=>[]) ?_ ?_
 ·
  refine za<|e_p (zf ya rfl sz3 rfl rfl)<|e_ru (ze 1 ty3 rfl rfl rfl)<|e_p (zf ya rfl sz3 rfl rfl)<|e_ru (ze 0 ty3 rfl rfl rfl)<|e_p (zCa rfl rfl)<|zW rfl rfl (zV rfl) (fun h3=> ?_) (fun h3=> ?_)
  ·
   refine e_p (zf ya rfl sz3 rfl rfl)<|e_ru (ze 1 ty3 rfl rfl rfl)<|e_p (zf ya rfl sz3 rfl rfl)<|e_ru (ze 0 ty3 rfl rfl rfl)<|e_p (zCa rfl rfl)<|e_p (zl rfl rfl)<|e_p (zb rfl)<|zh ?_
   exact zea () (show True from by first|trivial|omega|simp_all) ((.e rfl (congrArg Value.bool cbu) .n):SubM _ _) (ho:=((.of [0,0] rfl):PickO _ _ _)) (.n:SelR _ _ _)
  ·
   refine e_no<|e_no<|e_no<|e_no<|e_no<|e_p (zl rfl rfl)<|e_p (zb rfl)<|zh ?_
   exact zea () (show True from by first|trivial|omega|simp_all) ((.e rfl (congrArg Value.bool cbu) .n):SubM _ _) (ho:=((.of [0,0] rfl):PickO _ _ _)) (.n:SelR _ _ _)
 ·
  rintro ⟨⟩ -
  try dsimp only
  refine zK ?_
  exact zx Tryz.results52 () trivial (zk rfl) (congrArg Value.bool (by first|rfl|(simp;done)|simp_all)) (ho:=(.n:PickO _ _ _)) (.n:SelR _ _ _)
theorem ztf {ex:Int} {ey:Int} {fx:Int} {fy:Int} {gx:Int} {gy:Int} {hx:Int} {hy:Int} (hre:Pg.inR (ex,ey)) (hrf:Pg.inR (fx,fy)) (hrg:Pg.inR (gx,gy)) (hrh:Pg.inR (hx,hy)):Con yd 51 [.agg #[.int .i64 ex,.int .i64 ey],.agg #[.int .i64 fx,.int .i64 fy],.agg #[.int .i64 gx,.int .i64 gy],.agg #[.int .i64 hx,.int .i64 hy]] [] [] (Y:=Unit) (fun y=>True) (fun y=> .bool (decide (Pg.mt (ex,ey) (fx,fy) (gx,gy) (hx,hy)))) (fun y=>[]) (fun y=>[]):=by
 refine zn Tryz.func51 rfl rfl rfl (fun c=> ?_)
 show RunC _ _ _ _ _ [(0,.agg #[.int .i64 ex,.int .i64 ey]),(1,.agg #[.int .i64 fx,.int .i64 fy]),(2,.agg #[.int .i64 gx,.int .i64 gy]),(3,.agg #[.int .i64 hx,.int .i64 hy])] [] []
 have hs0:=Pg.sgn_mul (Pg.crs (ex,ey) (fx,fy) (gx,gy)) (Pg.crs (ex,ey) (fx,fy) (hx,hy))
 have hs1:=Pg.sgn_mul (Pg.crs (gx,gy) (hx,hy) (ex,ey)) (Pg.crs (gx,gy) (hx,hy) (fx,fy))
 have hc0:=(Pg.cb hre hrf hrg).c
 have hc1:=(Pg.cb hre hrf hrh).c
 have hc2:=(Pg.cb hrg hrh hre).c
 have hc3:=(Pg.cb hrg hrh hrf).c
 refine zg<|za<|zO rfl rfl (zS rfl rfl) (fun b1=> ?_)
 refine zO rfl rfl (zS rfl rfl) (fun b2=> ?_)
 refine zO rfl rfl (zS rfl rfl) (fun b3=> ?_)
 refine zO rfl rfl (zS rfl rfl) (fun b4=> ?_)
 refine e_p (zb rfl)<|zh<|zd<|zg<|zFa (X:=Unit) (fun x=>True) (fun x=>[(30,.bool (decide ((((Pg.crs (ex,ey) (fx,fy) (gx,gy)).sign*(Pg.crs (ex,ey) (fx,fy) (hx,hy)).sign)<0)∧(((Pg.crs (gx,gy) (hx,hy) (ex,ey)).sign*(Pg.crs (gx,gy) (hx,hy) (fx,fy)).sign)<0)))),(8,.bool false),(7,.pointer (some ⟨b4,0,none⟩)),(6,.pointer (some ⟨b3,0,none⟩)),(5,.pointer (some ⟨b2,0,none⟩)),(4,.pointer (some ⟨b1,0,none⟩))]) (fun x=>[boxA b4 30 [.int .i64 hx,.int .i64 hy],boxA b3 30 [.int .i64 gx,.int .i64 gy],boxA b2 30 [.int .i64 fx,.int .i64 fy],boxA b1 30 [.int .i64 ex,.int .i64 ey]]) (fun x=>[]) ?_ ?_
 ·
  refine zba (OW:=[]) (O:=[boxA b4 30 [.int .i64 hx,.int .i64 hy],boxA b3 30 [.int .i64 gx,.int .i64 gy],boxA b2 30 [.int .i64 fx,.int .i64 fy],boxA b1 30 [.int .i64 ex,.int .i64 ey]]) 100000 mixed (.then (.then .ret)) kr<|e_u 0 rfl rfl (zc 3 ty30 rfl rfl (.t2 .nil))<|e_u 1 rfl rfl (zc 2 ty30 rfl rfl (.t2 .nil))<|e_u 2 rfl rfl (zc 1 ty30 rfl rfl (.t2 .nil))<|e_u 4 rfl rfl (zc 3 ty30 rfl rfl (.t2 .nil))<|e_u 5 rfl rfl (zc 2 ty30 rfl rfl (.t2 .nil))<|e_u 6 rfl rfl (zc 0 ty30 rfl rfl (.t2 .nil))<|e_one 3 (zwa rfl rfl rfl rfl (.c rfl (.c rfl (.c rfl .n))) ce54 (zYa (ex:=ex) (ey:=ey) (fx:=fx) (fy:=fy) (gx:=gx) (gy:=gy) (hre:=ass) (hrf:=ass) (hrg:=ass)) (.n) ?_)
  refine e_one 7 (zwa rfl rfl rfl rfl (.c rfl (.c rfl (.c rfl .n))) ce54 (zYa (ex:=ex) (ey:=ey) (fx:=fx) (fy:=fy) (gx:=hx) (gy:=hy) (hre:=ass) (hrf:=ass) (hrg:=ass)) (.n) ?_)
  refine e_pv 8 rfl rfl (zDa (z:=((Pg.crs (ex,ey) (fx,fy) (gx,gy)).sign*(Pg.crs (ex,ey) (fx,fy) (hx,hy)).sign)) rfl rfl (w64 om))<|e_pv 9 rfl rfl (zaa rfl rfl)<|znb 10 rfl rfl kr kr rfl rfl (zV rfl) (fun h5=> ?_) (fun h5=> ?_)
  ·
   refine e_u 11 rfl rfl (zc 1 ty30 rfl rfl (.t2 .nil))<|e_u 12 rfl rfl (zc 0 ty30 rfl rfl (.t2 .nil))<|e_u 13 rfl rfl (zc 3 ty30 rfl rfl (.t2 .nil))<|e_u 15 rfl rfl (zc 1 ty30 rfl rfl (.t2 .nil))<|e_u 16 rfl rfl (zc 0 ty30 rfl rfl (.t2 .nil))<|e_u 17 rfl rfl (zc 2 ty30 rfl rfl (.t2 .nil))<|e_one 14 (zwa rfl rfl rfl rfl (.c rfl (.c rfl (.c rfl .n))) ce54 (zYa (ex:=gx) (ey:=gy) (fx:=hx) (fy:=hy) (gx:=ex) (gy:=ey) (hre:=ass) (hrf:=ass) (hrg:=ass)) (.n) ?_)
   refine e_one 18 (zwa rfl rfl rfl rfl (.c rfl (.c rfl (.c rfl .n))) ce54 (zYa (ex:=gx) (ey:=gy) (fx:=hx) (fy:=hy) (gx:=fx) (gy:=fy) (hre:=ass) (hrf:=ass) (hrg:=ass)) (.n) ?_)
   refine e_pv 19 rfl rfl (zDa (z:=((Pg.crs (gx,gy) (hx,hy) (ex,ey)).sign*(Pg.crs (gx,gy) (hx,hy) (fx,fy)).sign)) rfl rfl (w64 om))<|e_pv 20 rfl rfl (zaa rfl rfl)<|e_pv 21 rfl rfl (zl rfl rfl)<|zX kr ?_
   exact zea () (show True from by first|trivial|omega|simp_all) ((.e rfl (congrArg Value.bool cbu) (.of rfl)):SubM _ _) (ho:=((.of [0,0,0,0] rfl):PickO _ _ _)) (.n:SelR _ _ _)
  ·
   refine e_skip 11 rfl rfl<|e_skip 12 rfl rfl<|e_skip 13 rfl rfl<|e_skip 14 rfl rfl<|e_skip 15 rfl rfl<|e_skip 16 rfl rfl<|e_skip 17 rfl rfl<|e_skip 18 rfl rfl<|e_skip 19 rfl rfl<|e_skip 20 rfl rfl<|e_pv 21 rfl rfl (zl rfl rfl)<|zX kr ?_
   exact zea () (show True from by first|trivial|omega|simp_all) ((.e rfl (congrArg Value.bool cbu) (.of rfl)):SubM _ _) (ho:=((.of [0,0,0,0] rfl):PickO _ _ _)) (.n:SelR _ _ _)
 ·
  rintro ⟨⟩ -
  try dsimp only
  refine zG rfl (fun hm=> ?_) (fun hm=> ?_)
  ·
   refine zg<|za<|e_p (zb rfl)<|zh<|zd<|zK<|zi ?_
   exact zx Tryz.results51 () trivial (zk rfl) (congrArg Value.bool (decide_eq_true (Or.inl hm))) (ho:=(.n:PickO _ _ _)) (.n:SelR _ _ _)
  ·
   refine zt<|zd<|zFa (X:=Unit) (fun x=>True) (fun x=>[(8,.bool (decide ((((Pg.onS (ex,ey) (fx,fy) (gx,gy))∨(Pg.onS (ex,ey) (fx,fy) (hx,hy)))∨(Pg.onS (gx,gy) (hx,hy) (ex,ey)))∨(Pg.onS (gx,gy) (hx,hy) (fx,fy)))))]) (fun x=>[boxA b4 30 [.int .i64 hx,.int .i64 hy],boxA b3 30 [.int .i64 gx,.int .i64 gy],boxA b2 30 [.int .i64 fx,.int .i64 fy],boxA b1 30 [.int .i64 ex,.int .i64 ey]]) (fun x=>[]) ?_ ?_
   ·
    refine za<|e_ru (zc 3 ty30 rfl rfl (.t2 .nil))<|e_ru (zc 2 ty30 rfl rfl (.t2 .nil))<|e_ru (zc 1 ty30 rfl rfl (.t2 .nil))<|zN rfl rfl (.c rfl (.c rfl (.c rfl .n))) ce50 (zac (ex:=ex) (ey:=ey) (fx:=fx) (fy:=fy) (gx:=gx) (gy:=gy) (hre:=ass) (hrf:=ass) (hrg:=ass)) (.n)<|zW rfl rfl (zV rfl) (fun h6=> ?_) (fun h6=> ?_)
    ·
     refine e_no<|e_no<|e_no<|e_no<|e_p (zl rfl rfl)<|e_mv rfl<|e_no<|e_no<|e_no<|e_no<|e_p (zl rfl rfl)<|e_mv rfl<|e_no<|e_no<|e_no<|e_no<|e_p (zl rfl rfl)<|e_p (zb rfl)<|zh ?_
     exact zea () (show True from by first|trivial|omega|simp_all) ((.e rfl (congrArg Value.bool cbu) .n):SubM _ _) (ho:=((.of [0,0,0,0] rfl):PickO _ _ _)) (.n:SelR _ _ _)
    ·
     refine e_ru (zc 3 ty30 rfl rfl (.t2 .nil))<|e_ru (zc 2 ty30 rfl rfl (.t2 .nil))<|e_ru (zc 0 ty30 rfl rfl (.t2 .nil))<|zN rfl rfl (.c rfl (.c rfl (.c rfl .n))) ce50 (zac (ex:=ex) (ey:=ey) (fx:=fx) (fy:=fy) (gx:=hx) (gy:=hy) (hre:=ass) (hrf:=ass) (hrg:=ass)) (.n)<|e_p (zl rfl rfl)<|zW rfl rfl (zV rfl) (fun h7=> ?_) (fun h7=> ?_)
     ·
      refine e_no<|e_no<|e_no<|e_no<|e_p (zl rfl rfl)<|e_mv rfl<|e_no<|e_no<|e_no<|e_no<|e_p (zl rfl rfl)<|e_p (zb rfl)<|zh ?_
      exact zea () (show True from by first|trivial|omega|simp_all) ((.e rfl (congrArg Value.bool cbu) .n):SubM _ _) (ho:=((.of [0,0,0,0] rfl):PickO _ _ _)) (.n:SelR _ _ _)
     ·
      refine e_ru (zc 1 ty30 rfl rfl (.t2 .nil))<|e_ru (zc 0 ty30 rfl rfl (.t2 .nil))<|e_ru (zc 3 ty30 rfl rfl (.t2 .nil))<|zN rfl rfl (.c rfl (.c rfl (.c rfl .n))) ce50 (zac (ex:=gx) (ey:=gy) (fx:=hx) (fy:=hy) (gx:=ex) (gy:=ey) (hre:=ass) (hrf:=ass) (hrg:=ass)) (.n)<|e_p (zl rfl rfl)<|zW rfl rfl (zV rfl) (fun h8=> ?_) (fun h8=> ?_)
      ·
       refine e_no<|e_no<|e_no<|e_no<|e_p (zl rfl rfl)<|e_p (zb rfl)<|zh ?_
       exact zea () (show True from by first|trivial|omega|simp_all) ((.e rfl (congrArg Value.bool cbu) .n):SubM _ _) (ho:=((.of [0,0,0,0] rfl):PickO _ _ _)) (.n:SelR _ _ _)
      ·
       refine e_ru (zc 1 ty30 rfl rfl (.t2 .nil))<|e_ru (zc 0 ty30 rfl rfl (.t2 .nil))<|e_ru (zc 2 ty30 rfl rfl (.t2 .nil))<|zN rfl rfl (.c rfl (.c rfl (.c rfl .n))) ce50 (zac (ex:=gx) (ey:=gy) (fx:=hx) (fy:=hy) (gx:=fx) (gy:=fy) (hre:=ass) (hrf:=ass) (hrg:=ass)) (.n)<|e_p (zl rfl rfl)<|e_p (zb rfl)<|zh ?_
       exact zea () (show True from by first|trivial|omega|simp_all) ((.e rfl (congrArg Value.bool cbu) .n):SubM _ _) (ho:=((.of [0,0,0,0] rfl):PickO _ _ _)) (.n:SelR _ _ _)
   ·
    rintro ⟨⟩ -
    try dsimp only
    refine zK ?_
    exact zx Tryz.results51 () trivial (zk rfl) (congrArg Value.bool (by rw [Bool.eq_iff_iff,decide_eq_true_iff];show Pg.mt0 _ _ _ _∨Pg.mt1 _ _ _ _↔_;rw [or_iff_right (show ¬Pg.mt0 _ _ _ _ from hm)];simp [Pg.mt1,or_assoc])) (ho:=(.n:PickO _ _ _)) (.n:SelR _ _ _)
theorem zuf {ex:Int} {ey:Int} {fx:Int} {fy:Int} {gx:Int} {gy:Int} {hx:Int} {hy:Int} (hre:Pg.inR (ex,ey)) (hrf:Pg.inR (fx,fy)) (hrg:Pg.inR (gx,gy)) (hrh:Pg.inR (hx,hy)):Con yd 92 [.agg #[.int .i64 ex,.int .i64 ey],.agg #[.int .i64 fx,.int .i64 fy],.agg #[.int .i64 gx,.int .i64 gy],.agg #[.int .i64 hx,.int .i64 hy]] [] [] (Y:=Unit) (fun y=>True) (fun y=> .bool (decide (Pg.mt (ex,ey) (fx,fy) (gx,gy) (hx,hy)))) (fun y=>[]) (fun y=>[]):=by
 refine zn Tryz.func92 rfl rfl rfl (fun c=> ?_)
 show RunC _ _ _ _ _ [(0,.agg #[.int .i64 ex,.int .i64 ey]),(1,.agg #[.int .i64 fx,.int .i64 fy]),(2,.agg #[.int .i64 gx,.int .i64 gy]),(3,.agg #[.int .i64 hx,.int .i64 hy])] [] []
 have hs0:=Pg.sgn_mul (Pg.crs (ex,ey) (fx,fy) (gx,gy)) (Pg.crs (ex,ey) (fx,fy) (hx,hy))
 have hs1:=Pg.sgn_mul (Pg.crs (gx,gy) (hx,hy) (ex,ey)) (Pg.crs (gx,gy) (hx,hy) (fx,fy))
 have hc0:=(Pg.cb hre hrf hrg).c
 have hc1:=(Pg.cb hre hrf hrh).c
 have hc2:=(Pg.cb hrg hrh hre).c
 have hc3:=(Pg.cb hrg hrh hrf).c
 refine zg<|za<|zO rfl rfl (zS rfl rfl) (fun b1=> ?_)
 refine zO rfl rfl (zS rfl rfl) (fun b2=> ?_)
 refine zO rfl rfl (zS rfl rfl) (fun b3=> ?_)
 refine zO rfl rfl (zS rfl rfl) (fun b4=> ?_)
 refine e_p (zb rfl)<|zh<|zd<|zg<|zFa (X:=Unit) (fun x=>True) (fun x=>[(30,.bool (decide ((((Pg.onS (ex,ey) (fx,fy) (gx,gy))∨(Pg.onS (ex,ey) (fx,fy) (hx,hy)))∨(Pg.onS (gx,gy) (hx,hy) (ex,ey)))∨(Pg.onS (gx,gy) (hx,hy) (fx,fy))))),(8,.bool false),(7,.pointer (some ⟨b4,0,none⟩)),(6,.pointer (some ⟨b3,0,none⟩)),(5,.pointer (some ⟨b2,0,none⟩)),(4,.pointer (some ⟨b1,0,none⟩))]) (fun x=>[boxA b4 30 [.int .i64 hx,.int .i64 hy],boxA b3 30 [.int .i64 gx,.int .i64 gy],boxA b2 30 [.int .i64 fx,.int .i64 fy],boxA b1 30 [.int .i64 ex,.int .i64 ey]]) (fun x=>[]) ?_ ?_
 ·
  refine za<|e_ru (zc 3 ty30 rfl rfl (.t2 .nil))<|e_ru (zc 2 ty30 rfl rfl (.t2 .nil))<|e_ru (zc 1 ty30 rfl rfl (.t2 .nil))<|zN rfl rfl (.c rfl (.c rfl (.c rfl .n))) ce35 (zPb (ex:=ex) (ey:=ey) (fx:=fx) (fy:=fy) (gx:=gx) (gy:=gy) (hre:=ass) (hrf:=ass) (hrg:=ass)) (.n)<|zW rfl rfl (zV rfl) (fun h5=> ?_) (fun h5=> ?_)
  ·
   refine e_no<|e_no<|e_no<|e_no<|e_p (zl rfl rfl)<|e_mv rfl<|e_no<|e_no<|e_no<|e_no<|e_p (zl rfl rfl)<|e_mv rfl<|e_no<|e_no<|e_no<|e_no<|e_p (zl rfl rfl)<|zh ?_
   exact zea () (show True from by first|trivial|omega|simp_all) ((.e rfl (congrArg Value.bool cbu) (.of rfl)):SubM _ _) (ho:=((.of [0,0,0,0] rfl):PickO _ _ _)) (.n:SelR _ _ _)
  ·
   refine e_ru (zc 3 ty30 rfl rfl (.t2 .nil))<|e_ru (zc 2 ty30 rfl rfl (.t2 .nil))<|e_ru (zc 0 ty30 rfl rfl (.t2 .nil))<|zN rfl rfl (.c rfl (.c rfl (.c rfl .n))) ce35 (zPb (ex:=ex) (ey:=ey) (fx:=fx) (fy:=fy) (gx:=hx) (gy:=hy) (hre:=ass) (hrf:=ass) (hrg:=ass)) (.n)<|e_p (zl rfl rfl)<|zW rfl rfl (zV rfl) (fun h6=> ?_) (fun h6=> ?_)
   ·
    refine e_no<|e_no<|e_no<|e_no<|e_p (zl rfl rfl)<|e_mv rfl<|e_no<|e_no<|e_no<|e_no<|e_p (zl rfl rfl)<|zh ?_
    exact zea () (show True from by first|trivial|omega|simp_all) ((.e rfl (congrArg Value.bool cbu) (.of rfl)):SubM _ _) (ho:=((.of [0,0,0,0] rfl):PickO _ _ _)) (.n:SelR _ _ _)
   ·
    refine e_ru (zc 1 ty30 rfl rfl (.t2 .nil))<|e_ru (zc 0 ty30 rfl rfl (.t2 .nil))<|e_ru (zc 3 ty30 rfl rfl (.t2 .nil))<|zN rfl rfl (.c rfl (.c rfl (.c rfl .n))) ce35 (zPb (ex:=gx) (ey:=gy) (fx:=hx) (fy:=hy) (gx:=ex) (gy:=ey) (hre:=ass) (hrf:=ass) (hrg:=ass)) (.n)<|e_p (zl rfl rfl)<|zW rfl rfl (zV rfl) (fun h7=> ?_) (fun h7=> ?_)
    ·
     refine e_no<|e_no<|e_no<|e_no<|e_p (zl rfl rfl)<|zh ?_
     exact zea () (show True from by first|trivial|omega|simp_all) ((.e rfl (congrArg Value.bool cbu) (.of rfl)):SubM _ _) (ho:=((.of [0,0,0,0] rfl):PickO _ _ _)) (.n:SelR _ _ _)
    ·
     refine e_ru (zc 1 ty30 rfl rfl (.t2 .nil))<|e_ru (zc 0 ty30 rfl rfl (.t2 .nil))<|e_ru (zc 2 ty30 rfl rfl (.t2 .nil))<|zN rfl rfl (.c rfl (.c rfl (.c rfl .n))) ce35 (zPb (ex:=gx) (ey:=gy) (fx:=hx) (fy:=hy) (gx:=fx) (gy:=fy) (hre:=ass) (hrf:=ass) (hrg:=ass)) (.n)<|e_p (zl rfl rfl)<|zh ?_
     exact zea () (show True from by first|trivial|omega|simp_all) ((.e rfl (congrArg Value.bool cbu) (.of rfl)):SubM _ _) (ho:=((.of [0,0,0,0] rfl):PickO _ _ _)) (.n:SelR _ _ _)
 ·
  rintro ⟨⟩ -
  try dsimp only
  refine zG rfl (fun hm=> ?_) (fun hm=> ?_)
  ·
   refine zg<|za<|e_p (zb rfl)<|zh<|zd<|zK<|zi ?_
   exact zx Tryz.results92 () trivial (zk rfl) (congrArg Value.bool (by rw [decide_eq_true_iff];refine Or.inr ?_;unfold Pg.mt1;simpa [or_assoc] using hm)) (ho:=(.n:PickO _ _ _)) (.n:SelR _ _ _)
  ·
   refine zt<|zd<|zFa (X:=Unit) (fun x=>True) (fun x=>[(8,.bool (decide ((((Pg.crs (ex,ey) (fx,fy) (gx,gy)).sign*(Pg.crs (ex,ey) (fx,fy) (hx,hy)).sign)<0)∧(((Pg.crs (gx,gy) (hx,hy) (ex,ey)).sign*(Pg.crs (gx,gy) (hx,hy) (fx,fy)).sign)<0))))]) (fun x=>[boxA b4 30 [.int .i64 hx,.int .i64 hy],boxA b3 30 [.int .i64 gx,.int .i64 gy],boxA b2 30 [.int .i64 fx,.int .i64 fy],boxA b1 30 [.int .i64 ex,.int .i64 ey]]) (fun x=>[]) ?_ ?_
   ·
    refine zba (OW:=[]) (O:=[boxA b4 30 [.int .i64 hx,.int .i64 hy],boxA b3 30 [.int .i64 gx,.int .i64 gy],boxA b2 30 [.int .i64 fx,.int .i64 fy],boxA b1 30 [.int .i64 ex,.int .i64 ey]]) 100000 mixed (.then .ret) kr<|e_u 0 rfl rfl (zc 3 ty30 rfl rfl (.t2 .nil))<|e_u 1 rfl rfl (zc 2 ty30 rfl rfl (.t2 .nil))<|e_u 2 rfl rfl (zc 1 ty30 rfl rfl (.t2 .nil))<|e_u 5 rfl rfl (zc 3 ty30 rfl rfl (.t2 .nil))<|e_u 6 rfl rfl (zc 2 ty30 rfl rfl (.t2 .nil))<|e_u 7 rfl rfl (zc 0 ty30 rfl rfl (.t2 .nil))<|e_one 3 (zwa rfl rfl rfl rfl (.c rfl (.c rfl (.c rfl .n))) ce55 (zhb (ex:=ex) (ey:=ey) (fx:=fx) (fy:=fy) (gx:=gx) (gy:=gy) (hre:=ass) (hrf:=ass) (hrg:=ass)) (.n) ?_)
    refine e_one 4 (zwa rfl rfl rfl rfl (.c rfl .n) ce65 (zib (z:=Pg.crs (ex,ey) (fx,fy) (gx,gy)) (hz:=cbo)) (.n) ?_)
    refine e_one 8 (zwa rfl rfl rfl rfl (.c rfl (.c rfl (.c rfl .n))) ce55 (zhb (ex:=ex) (ey:=ey) (fx:=fx) (fy:=fy) (gx:=hx) (gy:=hy) (hre:=ass) (hrf:=ass) (hrg:=ass)) (.n) ?_)
    refine e_one 9 (zwa rfl rfl rfl rfl (.c rfl .n) ce65 (zib (z:=Pg.crs (ex,ey) (fx,fy) (hx,hy)) (hz:=cbo)) (.n) ?_)
    refine e_pv 10 rfl rfl (zDa (z:=((Pg.crs (ex,ey) (fx,fy) (gx,gy)).sign*(Pg.crs (ex,ey) (fx,fy) (hx,hy)).sign)) rfl rfl (w64 om))<|e_pv 11 rfl rfl (zaa rfl rfl)<|znb 12 rfl rfl kr kr rfl rfl (zV rfl) (fun h8=> ?_) (fun h8=> ?_)
    ·
     refine e_u 13 rfl rfl (zc 1 ty30 rfl rfl (.t2 .nil))<|e_u 14 rfl rfl (zc 0 ty30 rfl rfl (.t2 .nil))<|e_u 15 rfl rfl (zc 3 ty30 rfl rfl (.t2 .nil))<|e_u 18 rfl rfl (zc 1 ty30 rfl rfl (.t2 .nil))<|e_u 19 rfl rfl (zc 0 ty30 rfl rfl (.t2 .nil))<|e_u 20 rfl rfl (zc 2 ty30 rfl rfl (.t2 .nil))<|e_one 16 (zwa rfl rfl rfl rfl (.c rfl (.c rfl (.c rfl .n))) ce55 (zhb (ex:=gx) (ey:=gy) (fx:=hx) (fy:=hy) (gx:=ex) (gy:=ey) (hre:=ass) (hrf:=ass) (hrg:=ass)) (.n) ?_)
     refine e_one 17 (zwa rfl rfl rfl rfl (.c rfl .n) ce65 (zib (z:=Pg.crs (gx,gy) (hx,hy) (ex,ey)) (hz:=cbo)) (.n) ?_)
     refine e_one 21 (zwa rfl rfl rfl rfl (.c rfl (.c rfl (.c rfl .n))) ce55 (zhb (ex:=gx) (ey:=gy) (fx:=hx) (fy:=hy) (gx:=fx) (gy:=fy) (hre:=ass) (hrf:=ass) (hrg:=ass)) (.n) ?_)
     refine e_one 22 (zwa rfl rfl rfl rfl (.c rfl .n) ce65 (zib (z:=Pg.crs (gx,gy) (hx,hy) (fx,fy)) (hz:=cbo)) (.n) ?_)
     refine e_pv 23 rfl rfl (zDa (z:=((Pg.crs (gx,gy) (hx,hy) (ex,ey)).sign*(Pg.crs (gx,gy) (hx,hy) (fx,fy)).sign)) rfl rfl (w64 om))<|e_pv 24 rfl rfl (zaa rfl rfl)<|e_pv 25 rfl rfl (zl rfl rfl)<|e_pv 26 rfl rfl (zb rfl)<|zX kr ?_
     exact zea () (show True from by first|trivial|omega|simp_all) ((.e rfl (congrArg Value.bool cbu) .n):SubM _ _) (ho:=((.of [0,0,0,0] rfl):PickO _ _ _)) (.n:SelR _ _ _)
    ·
     refine e_skip 13 rfl rfl<|e_skip 14 rfl rfl<|e_skip 15 rfl rfl<|e_skip 16 rfl rfl<|e_skip 17 rfl rfl<|e_skip 18 rfl rfl<|e_skip 19 rfl rfl<|e_skip 20 rfl rfl<|e_skip 21 rfl rfl<|e_skip 22 rfl rfl<|e_skip 23 rfl rfl<|e_skip 24 rfl rfl<|e_pv 25 rfl rfl (zl rfl rfl)<|e_pv 26 rfl rfl (zb rfl)<|zX kr ?_
     exact zea () (show True from by first|trivial|omega|simp_all) ((.e rfl (congrArg Value.bool cbu) .n):SubM _ _) (ho:=((.of [0,0,0,0] rfl):PickO _ _ _)) (.n:SelR _ _ _)
   ·
    rintro ⟨⟩ -
    try dsimp only
    refine zK ?_
    exact zx Tryz.results92 () trivial (zk rfl) (congrArg Value.bool (by rw [Bool.eq_iff_iff,decide_eq_true_iff];show Pg.mt0 _ _ _ _∨Pg.mt1 _ _ _ _↔_;rw [or_iff_left (fun k=>hm (by unfold Pg.mt1 at k;simpa [or_assoc] using k))];simp [Pg.mt0])) (ho:=(.n:PickO _ _ _)) (.n:SelR _ _ _)
end Go.Proofs.YtjcpbhlijoigfaaGreat.Sp
namespace Go.Proofs.YtjcpbhlijoigfaaGreat.Sp
open Go
set_option linter.unusedVariables false
set_option maxRecDepth 100000
set_option maxHeartbeats 8000000
theorem zde {p:Option Addr} {n:Nat} {cap:Nat} {l:List Pg.P2} (hn:l.length=n) (h64:n≤64) (hrng:∀x∈l,Pg.inR x):Con yd 53 [.slice p n cap] [] [slF (rI2 .i64) p cap l] (Y:=Unit) (fun y=>True) (fun y=> .bool (decide (Pg.smpR l))) (fun y=>[]) (fun y=>[]):=by
 refine zn Tryz.func53 rfl rfl rfl (fun c=> ?_)
 show RunC _ _ _ _ _ [(0,.slice p n cap)] [] [slF (rI2 .i64) p cap l]
 refine zia 0 rfl (fun hL0=> ?_)
 refine zg<|za<|e_p (zb rfl)<|zh<|zd<|zg<|za<|e_mv rfl<|e_p (zQ yb rfl)<|e_p (zb rfl)<|zh<|zd<|zg<|zg<|za<|e_p (zb rfl)<|zh<|zd<|zv<|zqa (X:=Nat) (fun x:Nat=>x≤n∧∀w,w<x→∀j,j<n→w<j→¬Pg.bad n l w j) (fun x=>[(4,.int .i64 ((x:Nat):Int)),(3,.int .i64 ((n:Nat):Int)),(0,.slice p n cap)]) (fun x=>[]) (fun x=>[slF (rI2 .i64) p cap l]) (fun x:Nat=>n - x) 0 (show 0≤n∧∀w,w<0→∀j,j<n→w<j→¬Pg.bad n l w j from by exact ⟨Nat.zero_le _,fun w h=>by omega⟩) ((.e rfl (by first|rfl|(congr 1;omega)|simp_all) (.c rfl (.c rfl .n))):SubM _ _) (ho:=(.n:PickO _ _ _)) ((.c (j:=0) rfl .n):SelR _ _ _) ?_
 rintro k hI
 replace hI:k≤n∧∀w,w<k→∀j,j<n→w<j→¬Pg.bad n l w j:=hI
 try dsimp only
 obtain ⟨hk,hall⟩:=hI
 refine zg<|zg<|za<|e_mv rfl<|e_mv rfl<|e_p (zaa rfl rfl)<|zh<|zd<|zG rfl (fun h1=> ?_) (fun h1=> ?_)
 ·
  refine zt<|zd<|zg<|zv<|zg<|za<|e_mv rfl<|e_p (zI (z:=(((k+1):Nat):Int)) rfl rfl (w64 om))<|e_p (zb rfl)<|zh<|zd<|zv<|zqa (X:=Nat) (fun x:Nat=>k+1≤x∧∀w,w<x→k<w→¬Pg.bad n l k w) (fun x=>[(5,.int .i64 ((x:Nat):Int)),(4,.int .i64 ((k:Nat):Int)),(3,.int .i64 ((n:Nat):Int)),(0,.slice p n cap)]) (fun x=>[]) (fun x=>[slF (rI2 .i64) p cap l]) (fun x:Nat=>n - x) (k+1) (show k+1≤(k+1)∧∀w,w<(k+1)→k<w→¬Pg.bad n l k w from by exact ⟨Nat.le_refl _,fun w h h2=>by omega⟩) ((.of rfl):SubM _ _) (ho:=(.n:PickO _ _ _)) ((.c (j:=0) rfl .n):SelR _ _ _) ?_
  rintro j hJ
  replace hJ:k+1≤j∧∀w,w<j→k<w→¬Pg.bad n l k w:=hJ
  try dsimp only
  obtain ⟨hj2,hB2⟩:=hJ
  refine zg<|zg<|za<|e_mv rfl<|e_mv rfl<|e_p (zaa rfl rfl)<|zh<|zd<|zG rfl (fun h2=> ?_) (fun h2=> ?_)
  ·
   have hm1:(k+1)%n<n:=Nat.mod_lt _ om
   have hm3:(j+1)%n<n:=Nat.mod_lt _ om
   have hg0:Pg.inR (l.getD k (0,0)):=Pg.Ok.gt hrng om
   have hg1:Pg.inR (l.getD ((k+1)%n) (0,0)):=Pg.Ok.gt hrng om
   have hg2:Pg.inR (l.getD j (0,0)):=Pg.Ok.gt hrng om
   have hg3:Pg.inR (l.getD ((j+1)%n) (0,0)):=Pg.Ok.gt hrng om
   refine zt<|zd<|zg<|zv<|zg<|za<|e_mv rfl<|e_mv rfl<|zY (x0:=(l.getD k (0,0))) 0 k rfl yb sz30 rfl rfl rfl cbs rfl rfl (gD (d:=(0,0)) om) (fun b3 o4 hok5=> ?_)
   obtain ⟨hok5x,hok5y⟩:=hok5
   replace hok5x:=zq.1 hok5x
   replace hok5y:=zq.1 hok5y
   refine e_ru (zA (j:=0) 0 ty30 rfl rfl rfl (.t2 .nil))<|zO rfl rfl (zp zr30 rfl) (fun b6=> ?_)
   refine zo 0 rfl rfl rfl rfl rfl sz30 rfl (.t2 .nil) .z<|zh<|zd<|zg<|za<|e_mv rfl<|e_mv rfl<|e_p (zI (z:=(((k+1):Nat):Int)) rfl rfl (w64 om))<|e_mv rfl<|e_p (zya (z:=((((k+1)%n):Nat):Int)) rfl rfl om (remN om om))<|zY (x0:=(l.getD ((k+1)%n) (0,0))) 1 ((k+1)%n) rfl yb sz30 rfl rfl rfl cbs rfl rfl (gD (d:=(0,0)) om) (fun b7 o8 hok9=> ?_)
   obtain ⟨hok9x,hok9y⟩:=hok9
   replace hok9x:=zq.1 hok9x
   replace hok9y:=zq.1 hok9y
   refine e_ru (zA (j:=0) 0 ty30 rfl rfl rfl (.t2 .nil))<|zO rfl rfl (zp zr30 rfl) (fun b10=> ?_)
   refine zo 0 rfl rfl rfl rfl rfl sz30 rfl (.t2 .nil) .z<|zh<|zd<|zg<|za<|e_mv rfl<|e_mv rfl<|zY (x0:=(l.getD j (0,0))) 2 j rfl yb sz30 rfl rfl rfl cbs rfl rfl (gD (d:=(0,0)) om) (fun b11 o12 hok13=> ?_)
   obtain ⟨hok13x,hok13y⟩:=hok13
   replace hok13x:=zq.1 hok13x
   replace hok13y:=zq.1 hok13y
   refine e_ru (zA (j:=0) 0 ty30 rfl rfl rfl (.t2 .nil))<|zO rfl rfl (zp zr30 rfl) (fun b14=> ?_)
   refine zo 0 rfl rfl rfl rfl rfl sz30 rfl (.t2 .nil) .z<|zh<|zd<|zg<|za<|e_mv rfl<|e_mv rfl<|e_p (zI (z:=(((j+1):Nat):Int)) rfl rfl (w64 om))<|e_mv rfl<|e_p (zya (z:=((((j+1)%n):Nat):Int)) rfl rfl om (remN om om))<|zY (x0:=(l.getD ((j+1)%n) (0,0))) 3 ((j+1)%n) rfl yb sz30 rfl rfl rfl cbs rfl rfl (gD (d:=(0,0)) om) (fun b15 o16 hok17=> ?_)
   obtain ⟨hok17x,hok17y⟩:=hok17
   replace hok17x:=zq.1 hok17x
   replace hok17y:=zq.1 hok17y
   refine e_ru (zA (j:=0) 0 ty30 rfl rfl rfl (.t2 .nil))<|zO rfl rfl (zp zr30 rfl) (fun b18=> ?_)
   refine zo 0 rfl rfl rfl rfl rfl sz30 rfl (.t2 .nil) .z<|zh<|zd<|zg<|za<|e_mv rfl<|e_mv rfl<|e_p (zI (z:=(((k+1):Nat):Int)) rfl rfl (w64 om))<|e_p (zCa rfl rfl)<|zh<|zd<|zG rfl (fun he=> ?_) (fun he=> ?_)
   ·
    refine zFa (X:=Unit) (fun x=>True) (fun x=>[(59,.bool (decide ((Pg.onS (((l.getD k (0,0)).1),((l.getD k (0,0)).2)) (((l.getD ((k+1)%n) (0,0)).1),((l.getD ((k+1)%n) (0,0)).2)) (((l.getD ((j+1)%n) (0,0)).1),((l.getD ((j+1)%n) (0,0)).2)))∨(Pg.onS (((l.getD j (0,0)).1),((l.getD j (0,0)).2)) (((l.getD ((j+1)%n) (0,0)).1),((l.getD ((j+1)%n) (0,0)).2)) (((l.getD k (0,0)).1),((l.getD k (0,0)).2)))))),(5,.int .i64 ((j:Nat):Int)),(4,.int .i64 ((k:Nat):Int)),(3,.int .i64 ((n:Nat):Int)),(0,.slice p n cap)]) (fun x=>[boxA b18 30 [.int .i64 ((l.getD ((j+1)%n) (0,0)).1),.int .i64 ((l.getD ((j+1)%n) (0,0)).2)],boxA b14 30 [.int .i64 ((l.getD j (0,0)).1),.int .i64 ((l.getD j (0,0)).2)],boxA b10 30 [.int .i64 ((l.getD ((k+1)%n) (0,0)).1),.int .i64 ((l.getD ((k+1)%n) (0,0)).2)],boxA b6 30 [.int .i64 ((l.getD k (0,0)).1),.int .i64 ((l.getD k (0,0)).2)]]) (fun x=>[atF b15 o16 [.int .i64 ((l.getD ((j+1)%n) (0,0)).1),.int .i64 ((l.getD ((j+1)%n) (0,0)).2)],atF b11 o12 [.int .i64 ((l.getD j (0,0)).1),.int .i64 ((l.getD j (0,0)).2)],atF b7 o8 [.int .i64 ((l.getD ((k+1)%n) (0,0)).1),.int .i64 ((l.getD ((k+1)%n) (0,0)).2)],atF b3 o4 [.int .i64 ((l.getD k (0,0)).1),.int .i64 ((l.getD k (0,0)).2)],slF (rI2 .i64) p cap l]) ?_ ?_
    ·
     refine za<|e_ru (zc 3 ty30 rfl rfl (.t2 .nil))<|e_ru (zc 2 ty30 rfl rfl (.t2 .nil))<|e_ru (zc 0 ty30 rfl rfl (.t2 .nil))<|zN rfl rfl (.c rfl (.c rfl (.c rfl .n))) ce35 (zPb (ex:=(l.getD k (0,0)).1) (ey:=(l.getD k (0,0)).2) (fx:=(l.getD ((k+1)%n) (0,0)).1) (fy:=(l.getD ((k+1)%n) (0,0)).2) (gx:=(l.getD ((j+1)%n) (0,0)).1) (gy:=(l.getD ((j+1)%n) (0,0)).2) (hre:=cbo) (hrf:=cbo) (hrg:=cbo)) (.n)<|zW rfl rfl (zV rfl) (fun h19=> ?_) (fun h19=> ?_)
     ·
      refine e_no<|e_no<|e_no<|e_no<|e_p (zl rfl rfl)<|zh ?_
      exact zea () (show True from by first|trivial|omega|simp_all) ((.e rfl (congrArg Value.bool cbu) (.of rfl)):SubM _ _) (ho:=((.of [0,0,0,0] rfl):PickO _ _ _)) ((.of [0,1,2,3,4] rfl):SelR _ _ _)
     ·
      refine e_ru (zc 1 ty30 rfl rfl (.t2 .nil))<|e_ru (zc 0 ty30 rfl rfl (.t2 .nil))<|e_ru (zc 3 ty30 rfl rfl (.t2 .nil))<|zN rfl rfl (.c rfl (.c rfl (.c rfl .n))) ce35 (zPb (ex:=(l.getD j (0,0)).1) (ey:=(l.getD j (0,0)).2) (fx:=(l.getD ((j+1)%n) (0,0)).1) (fy:=(l.getD ((j+1)%n) (0,0)).2) (gx:=(l.getD k (0,0)).1) (gy:=(l.getD k (0,0)).2) (hre:=cbo) (hrf:=cbo) (hrg:=cbo)) (.n)<|e_p (zl rfl rfl)<|zh ?_
      exact zea () (show True from by first|trivial|omega|simp_all) ((.e rfl (congrArg Value.bool cbu) (.of rfl)):SubM _ _) (ho:=((.of [0,0,0,0] rfl):PickO _ _ _)) ((.of [0,1,2,3,4] rfl):SelR _ _ _)
    ·
     rintro ⟨⟩ -
     try dsimp only
     refine zG rfl (fun hb1=> ?_) (fun hb1=> ?_)
     ·
      refine zg<|za<|e_p (zb rfl)<|zh<|zd<|zK<|zm<|zi<|zi<|zm<|zm<|zi<|zi<|zm<|zi ?_
      exact zx yh () trivial (zk rfl) (congrArg Value.bool (decide_eq_false (fun h=>(Pg.smpR_n hn).1 h k om j om om ((Pg.bad_1 om).2 hb1)))) (ho:=(.n:PickO _ _ _)) (.n:SelR _ _ _)
     ·
      refine zt<|zP<|zd<|za<|e_mv rfl<|e_p (zI (z:=(((j+1):Nat):Int)) rfl rfl (w64 om))<|e_p (zb rfl)<|zh<|zha (j+1) (show k+1≤(j+1)∧∀w,w<(j+1)→k<w→¬Pg.bad n l k w from by exact ⟨by omega,Ms.all_lt_succ hB2 (fun _ hb=>hb1 ((Pg.bad_1 om).1 hb))⟩) (by show n - (j+1)<n - j;omega) ((.of rfl):SubM _ _) (ho:=(.n:PickO _ _ _)) ((.c (j:=4) rfl .n):SelR _ _ _)
   ·
    refine zg<|za<|e_mv rfl<|e_p (zI (z:=(((j+1):Nat):Int)) rfl rfl (w64 om))<|e_mv rfl<|e_p (zya (z:=((((j+1)%n):Nat):Int)) rfl rfl om (remN om om))<|e_mv rfl<|e_p (zCa rfl rfl)<|zh<|zd<|zG rfl (fun he2=> ?_) (fun he2=> ?_)
    ·
     refine zFa (X:=Unit) (fun x=>True) (fun x=>[(75,.bool (decide ((Pg.onS (((l.getD k (0,0)).1),((l.getD k (0,0)).2)) (((l.getD ((k+1)%n) (0,0)).1),((l.getD ((k+1)%n) (0,0)).2)) (((l.getD j (0,0)).1),((l.getD j (0,0)).2)))∨(Pg.onS (((l.getD j (0,0)).1),((l.getD j (0,0)).2)) (((l.getD ((j+1)%n) (0,0)).1),((l.getD ((j+1)%n) (0,0)).2)) (((l.getD ((k+1)%n) (0,0)).1),((l.getD ((k+1)%n) (0,0)).2)))))),(5,.int .i64 ((j:Nat):Int)),(4,.int .i64 ((k:Nat):Int)),(3,.int .i64 ((n:Nat):Int)),(0,.slice p n cap)]) (fun x=>[boxA b18 30 [.int .i64 ((l.getD ((j+1)%n) (0,0)).1),.int .i64 ((l.getD ((j+1)%n) (0,0)).2)],boxA b14 30 [.int .i64 ((l.getD j (0,0)).1),.int .i64 ((l.getD j (0,0)).2)],boxA b10 30 [.int .i64 ((l.getD ((k+1)%n) (0,0)).1),.int .i64 ((l.getD ((k+1)%n) (0,0)).2)],boxA b6 30 [.int .i64 ((l.getD k (0,0)).1),.int .i64 ((l.getD k (0,0)).2)]]) (fun x=>[atF b15 o16 [.int .i64 ((l.getD ((j+1)%n) (0,0)).1),.int .i64 ((l.getD ((j+1)%n) (0,0)).2)],atF b11 o12 [.int .i64 ((l.getD j (0,0)).1),.int .i64 ((l.getD j (0,0)).2)],atF b7 o8 [.int .i64 ((l.getD ((k+1)%n) (0,0)).1),.int .i64 ((l.getD ((k+1)%n) (0,0)).2)],atF b3 o4 [.int .i64 ((l.getD k (0,0)).1),.int .i64 ((l.getD k (0,0)).2)],slF (rI2 .i64) p cap l]) ?_ ?_
     ·
      refine za<|e_ru (zc 3 ty30 rfl rfl (.t2 .nil))<|e_ru (zc 2 ty30 rfl rfl (.t2 .nil))<|e_ru (zc 1 ty30 rfl rfl (.t2 .nil))<|zN rfl rfl (.c rfl (.c rfl (.c rfl .n))) ce35 (zPb (ex:=(l.getD k (0,0)).1) (ey:=(l.getD k (0,0)).2) (fx:=(l.getD ((k+1)%n) (0,0)).1) (fy:=(l.getD ((k+1)%n) (0,0)).2) (gx:=(l.getD j (0,0)).1) (gy:=(l.getD j (0,0)).2) (hre:=cbo) (hrf:=cbo) (hrg:=cbo)) (.n)<|zW rfl rfl (zV rfl) (fun h20=> ?_) (fun h20=> ?_)
      ·
       refine e_no<|e_no<|e_no<|e_no<|e_p (zl rfl rfl)<|zh ?_
       exact zea () (show True from by first|trivial|omega|simp_all) ((.e rfl (congrArg Value.bool cbu) (.of rfl)):SubM _ _) (ho:=((.of [0,0,0,0] rfl):PickO _ _ _)) ((.of [0,1,2,3,4] rfl):SelR _ _ _)
      ·
       refine e_ru (zc 1 ty30 rfl rfl (.t2 .nil))<|e_ru (zc 0 ty30 rfl rfl (.t2 .nil))<|e_ru (zc 2 ty30 rfl rfl (.t2 .nil))<|zN rfl rfl (.c rfl (.c rfl (.c rfl .n))) ce35 (zPb (ex:=(l.getD j (0,0)).1) (ey:=(l.getD j (0,0)).2) (fx:=(l.getD ((j+1)%n) (0,0)).1) (fy:=(l.getD ((j+1)%n) (0,0)).2) (gx:=(l.getD ((k+1)%n) (0,0)).1) (gy:=(l.getD ((k+1)%n) (0,0)).2) (hre:=cbo) (hrf:=cbo) (hrg:=cbo)) (.n)<|e_p (zl rfl rfl)<|zh ?_
       exact zea () (show True from by first|trivial|omega|simp_all) ((.e rfl (congrArg Value.bool cbu) (.of rfl)):SubM _ _) (ho:=((.of [0,0,0,0] rfl):PickO _ _ _)) ((.of [0,1,2,3,4] rfl):SelR _ _ _)
     ·
      rintro ⟨⟩ -
      try dsimp only
      refine zG rfl (fun hb2=> ?_) (fun hb2=> ?_)
      ·
       refine zg<|za<|e_p (zb rfl)<|zh<|zd<|zK<|zm<|zi<|zi<|zm<|zm<|zi<|zi<|zm<|zi ?_
       exact zx yh () trivial (zk rfl) (congrArg Value.bool (decide_eq_false (fun h=>(Pg.smpR_n hn).1 h k om j om om ((Pg.bad_2 om om).2 hb2)))) (ho:=(.n:PickO _ _ _)) (.n:SelR _ _ _)
      ·
       refine zt<|zP<|zd<|za<|e_mv rfl<|e_p (zI (z:=(((j+1):Nat):Int)) rfl rfl (w64 om))<|e_p (zb rfl)<|zh<|zha (j+1) (show k+1≤(j+1)∧∀w,w<(j+1)→k<w→¬Pg.bad n l k w from by exact ⟨by omega,Ms.all_lt_succ hB2 (fun _ hb=>hb2 ((Pg.bad_2 om om).1 hb))⟩) (by show n - (j+1)<n - j;omega) ((.of rfl):SubM _ _) (ho:=(.n:PickO _ _ _)) ((.c (j:=4) rfl .n):SelR _ _ _)
    ·
     refine zg<|za<|e_ru (zc 3 ty30 rfl rfl (.t2 .nil))<|e_ru (zc 2 ty30 rfl rfl (.t2 .nil))<|e_ru (zc 1 ty30 rfl rfl (.t2 .nil))<|e_ru (zc 0 ty30 rfl rfl (.t2 .nil))<|zN rfl rfl (.c rfl (.c rfl (.c rfl (.c rfl .n)))) ce92 (zuf (ex:=(l.getD k (0,0)).1) (ey:=(l.getD k (0,0)).2) (fx:=(l.getD ((k+1)%n) (0,0)).1) (fy:=(l.getD ((k+1)%n) (0,0)).2) (gx:=(l.getD j (0,0)).1) (gy:=(l.getD j (0,0)).2) (hx:=(l.getD ((j+1)%n) (0,0)).1) (hy:=(l.getD ((j+1)%n) (0,0)).2) (hre:=cbo) (hrf:=cbo) (hrg:=cbo) (hrh:=cbo)) (.n)<|zh<|zd<|zG rfl (fun hb3=> ?_) (fun hb3=> ?_)
     ·
      refine zg<|za<|e_p (zb rfl)<|zh<|zd<|zK<|zm<|zi<|zi<|zm<|zm<|zi<|zi<|zm<|zi ?_
      exact zx yh () trivial (zk rfl) (congrArg Value.bool (decide_eq_false (fun h=>(Pg.smpR_n hn).1 h k om j om om ((Pg.bad_3 om om).2 hb3)))) (ho:=(.n:PickO _ _ _)) (.n:SelR _ _ _)
     ·
      refine zt<|zP<|zd<|za<|e_mv rfl<|e_p (zI (z:=(((j+1):Nat):Int)) rfl rfl (w64 om))<|e_p (zb rfl)<|zh<|zha (j+1) (show k+1≤(j+1)∧∀w,w<(j+1)→k<w→¬Pg.bad n l k w from by exact ⟨by omega,Ms.all_lt_succ hB2 (fun _ hb=>hb3 ((Pg.bad_3 om om).1 hb))⟩) (by show n - (j+1)<n - j;omega) ((.of rfl):SubM _ _) (ho:=(.n:PickO _ _ _)) ((.c (j:=4) rfl .n):SelR _ _ _)
  ·
   refine zla<|zj<|zj<|zr<|zP<|zd<|za<|e_mv rfl<|e_p (zI (z:=(((k+1):Nat):Int)) rfl rfl (w64 om))<|e_p (zb rfl)<|zh<|zha (k+1) (show (k+1)≤n∧∀w,w<(k+1)→∀j,j<n→w<j→¬Pg.bad n l w j from by exact ⟨by omega,Ms.all_lt_succ hall (fun w hw hw2=>hB2 w om hw2)⟩) (by show n - (k+1)<n - k;omega) ((.of rfl):SubM _ _) (ho:=(.n:PickO _ _ _)) ((.c (j:=0) rfl .n):SelR _ _ _)
 ·
  refine zla<|zj<|zj<|zr<|zd<|zg<|za<|e_p (zb rfl)<|zh<|zd<|zK ?_
  exact zx yh () trivial (zk rfl) (congrArg Value.bool (decide_eq_true ((Pg.smpR_n hn).2 (fun w hw=>hall w om)))) (ho:=(.n:PickO _ _ _)) (.n:SelR _ _ _)
theorem zKe {p:Option Addr} {n:Nat} {cap:Nat} {l:List Pg.P2} (hn:l.length=n):Con yd 16 [.slice p n cap] [] [slF (rI2 .i64) p cap l] (Y:=Unit) (fun y=>True) (fun y=> .int .i64 (Pg.ck l)) (fun y=>[]) (fun y=>[]):=by
 refine zn Tryz.func16 rfl rfl rfl (fun c=> ?_)
 show RunC _ _ _ _ _ [(0,.slice p n cap)] [] [slF (rI2 .i64) p cap l]
 refine zia 0 rfl (fun hL0=> ?_)
 refine zg<|za<|e_p (zb rfl)<|zh<|zd<|zg<|zFa (X:=Unit) (fun x=>True) (fun x=>[(12,.bool (decide ((((n:Nat):Int)<3)∨(64<((n:Nat):Int))))),(2,.int .i64 0),(0,.slice p n cap)]) (fun x=>[]) (fun x=>[slF (rI2 .i64) p cap l]) ?_ ?_
 ·
  refine za<|e_mv rfl<|e_p (zQ yb rfl)<|e_p (zaa rfl rfl)<|zW rfl rfl (zV rfl) (fun h1=> ?_) (fun h1=> ?_)
  ·
   refine e_no<|e_no<|e_no<|e_p (zl rfl rfl)<|zh ?_
   exact zea () (show True from by first|trivial|omega|simp_all) ((.e rfl (congrArg Value.bool cbu) (.c rfl (.c rfl .n))):SubM _ _) (ho:=(.n:PickO _ _ _)) ((.c (j:=0) rfl .n):SelR _ _ _)
  ·
   refine e_mv rfl<|e_p (zQ yb rfl)<|e_p (zBa rfl rfl)<|e_p (zl rfl rfl)<|zh ?_
   exact zea () (show True from by first|trivial|omega|simp_all) ((.e rfl (congrArg Value.bool cbu) (.c rfl (.c rfl .n))):SubM _ _) (ho:=(.n:PickO _ _ _)) ((.c (j:=0) rfl .n):SelR _ _ _)
 ·
  rintro ⟨⟩ -
  try dsimp only
  refine zG rfl (fun hlim=> ?_) (fun hlim=> ?_)
  ·
   refine zg<|za<|e_p (zb rfl)<|zh<|zd<|zK<|zi ?_
   exact zx yg () trivial (zk rfl) (by rw [Pg.ck_lim om]) (ho:=(.n:PickO _ _ _)) (.n:SelR _ _ _)
  ·
   have hlm:¬(l.length<3∨64<l.length):=by omega
   refine zt<|zd<|zg<|zg<|za<|e_p (zb rfl)<|zh<|zd<|zv<|zqa (X:=Nat) (fun x:Nat=>x≤n∧Pg.ck1 (l.take x) (l.drop x)=Pg.ck1 [] l) (fun x=>[(3,.int .i64 ((x:Nat):Int)),(0,.slice p n cap)]) (fun x=>[]) (fun x=>[slF (rI2 .i64) p cap l]) (fun x:Nat=>n - x) 0 (show 0≤n∧Pg.ck1 (l.take 0) (l.drop 0)=Pg.ck1 [] l from by exact ⟨Nat.zero_le _,rfl⟩) ((.e rfl (by first|rfl|(congr 1;omega)|simp_all) (.c rfl .n)):SubM _ _) (ho:=(.n:PickO _ _ _)) ((.c (j:=0) rfl .n):SelR _ _ _) ?_
   rintro i hI
   replace hI:i≤n∧Pg.ck1 (l.take i) (l.drop i)=Pg.ck1 [] l:=hI
   try dsimp only
   obtain ⟨hi,hck⟩:=hI
   refine zg<|zg<|za<|e_mv rfl<|e_mv rfl<|e_p (zQ yb rfl)<|e_p (zaa rfl rfl)<|zh<|zd<|zG rfl (fun h2=> ?_) (fun h2=> ?_)
   ·
    refine zt<|zd<|zg<|zv<|zg<|zg<|za<|e_mv rfl<|e_mv rfl<|zY (x0:=(l.getD i (0,0))) 0 i rfl yb sz30 rfl rfl rfl cbs rfl rfl (gD (d:=(0,0)) om) (fun b3 o4 hok5=> ?_)
    obtain ⟨hok5x,hok5y⟩:=hok5
    replace hok5x:=zq.1 hok5x
    replace hok5y:=zq.1 hok5y
    refine e_ru (zA (j:=0) 0 ty30 rfl rfl rfl (.t2 .nil))<|zN rfl rfl (.c rfl .n) ce48 (zue (ex:=(l.getD i (0,0)).1) (ey:=(l.getD i (0,0)).2) (hwex:=cbo) (hwey:=cbo)) (.n)<|e_p (ztb rfl)<|zh<|zd<|zG rfl (fun hfar=> ?_) (fun hfar=> ?_)
    ·
     refine zg<|za<|e_p (zb rfl)<|zh<|zd<|zK<|zi<|zm<|zi<|zi<|zm<|zi ?_
     have hv1:=Pg.ck1_far (l:=l) (i:=i) om (by simpa [Pg.far] using hfar)
     exact zx yg () trivial (zk rfl) (by rw [Pg.ck_one hlm (by rw [← hck,hv1];decide),←hck,hv1]) (ho:=(.n:PickO _ _ _)) (.n:SelR _ _ _)
    ·
     refine zt<|zd<|zg<|za<|e_p (zb rfl)<|zh<|zd<|zv<|zqa (X:=Nat) (fun x:Nat=>x≤i∧∀w,w<x→¬(l.getD i (0,0))=(l.getD w (0,0))) (fun x=>[(4,.int .i64 ((x:Nat):Int)),(3,.int .i64 ((i:Nat):Int)),(0,.slice p n cap)]) (fun x=>[]) (fun x=>[atF b3 o4 [.int .i64 ((l.getD i (0,0)).1),.int .i64 ((l.getD i (0,0)).2)],slF (rI2 .i64) p cap l]) (fun x:Nat=>i - x) 0 (show 0≤i∧∀w,w<0→¬(l.getD i (0,0))=(l.getD w (0,0)) from by exact ⟨Nat.zero_le _,fun w h=>by omega⟩) ((.e rfl (by first|rfl|(congr 1;omega)|simp_all) (.c rfl (.c rfl .n))):SubM _ _) (ho:=(.n:PickO _ _ _)) ((.of [0,1] rfl):SelR _ _ _) ?_
     rintro j hJ
     replace hJ:j≤i∧∀w,w<j→¬(l.getD i (0,0))=(l.getD w (0,0)):=hJ
     try dsimp only
     obtain ⟨hj2,hB2⟩:=hJ
     refine zg<|zg<|za<|e_mv rfl<|e_mv rfl<|e_p (zaa rfl rfl)<|zh<|zd<|zG rfl (fun h6=> ?_) (fun h6=> ?_)
     ·
      refine zt<|zd<|zg<|zv<|zg<|zba (OW:=[]) (O:=[]) 100000 mixed (.then (.block (.then (.then (.block (.block (.then (.then (.block (.then .ret)))))))))) kr<|e_dm 0 rfl rfl rfl<|e_dm 1 rfl rfl rfl<|zca (x0:=(l.getD i (0,0))) 2 rfl rfl kr kr 1 i rfl yb sz30 rfl rfl rfl cbs rfl rfl (gD (d:=(0,0)) om) (fun b7 o8 hok9=> ?_)
      obtain ⟨hok9x,hok9y⟩:=hok9
      replace hok9x:=zq.1 hok9x
      replace hok9y:=zq.1 hok9y
      refine e_u 3 rfl rfl (zA (j:=0) 0 ty30 rfl rfl rfl (.t2 .nil))<|e_dm 4 rfl rfl rfl<|e_dm 5 rfl rfl rfl<|zca (x0:=(l.getD j (0,0))) 6 rfl rfl kr kr 2 j rfl yb sz30 rfl rfl rfl cbs rfl rfl (gD (d:=(0,0)) om) (fun b10 o11 hok12=> ?_)
      obtain ⟨hok12x,hok12y⟩:=hok12
      replace hok12x:=zq.1 hok12x
      replace hok12y:=zq.1 hok12y
      refine e_u 7 rfl rfl (zA (j:=0) 0 ty30 rfl rfl rfl (.t2 .nil))<|e_one 8 (zwa rfl rfl rfl rfl (.c rfl (.c rfl .n)) ce52 (zsf (ex:=(l.getD i (0,0)).1) (ey:=(l.getD i (0,0)).2) (fx:=(l.getD j (0,0)).1) (fy:=(l.getD j (0,0)).2)) (.n) ?_)
      refine zX kr<|zd<|zG rfl (fun hdup=> ?_) (fun hdup=> ?_)
      ·
       refine zg<|za<|e_p (zb rfl)<|zh<|zd<|zK<|zm<|zi<|zi<|zm<|zm<|zi<|zi<|zm<|zi ?_
       have hv1:=Pg.ck1_dup (l:=l) (i:=i) om (by simpa [Pg.far] using hfar) (Pg.in_take (j:=j) om om hdup)
       exact zx yg () trivial (zk rfl) (by rw [Pg.ck_one hlm (by rw [← hck,hv1];decide),←hck,hv1]) (ho:=(.n:PickO _ _ _)) (.n:SelR _ _ _)
      ·
       refine zt<|zP<|zd<|za<|e_mv rfl<|e_p (zI (z:=(((j+1):Nat):Int)) rfl rfl (w64 om))<|e_p (zb rfl)<|zh<|zha (j+1) (show (j+1)≤i∧∀w,w<(j+1)→¬(l.getD i (0,0))=(l.getD w (0,0)) from by exact ⟨by omega,Ms.all_lt_succ hB2 hdup⟩) (by show i - (j+1)<i - j;omega) ((.of rfl):SubM _ _) (ho:=(.n:PickO _ _ _)) ((.of [2,3] rfl):SelR _ _ _)
     ·
      refine zla<|zj<|zj<|zr<|zP<|zd<|za<|e_mv rfl<|e_p (zI (z:=(((i+1):Nat):Int)) rfl rfl (w64 om))<|e_p (zb rfl)<|zh<|zha (i+1) (show (i+1)≤n∧Pg.ck1 (l.take (i+1)) (l.drop (i+1))=Pg.ck1 [] l from by exact ⟨by omega,(Pg.ck1_go om (by simpa [Pg.far] using hfar) (Pg.not_take om (fun w hw=>hB2 w om))).trans hck⟩) (by show n - (i+1)<n - i;omega) ((.c rfl (.c rfl .n)):SubM _ _) (ho:=(.n:PickO _ _ _)) ((.c (j:=1) rfl .n):SelR _ _ _)
   ·
    have hz1:Pg.ck1 [] l=0:=by rw [← hck];exact Pg.ck1_end om
    have hrng:=Pg.ck1_zero hz1
    refine zla<|zj<|zj<|zr<|zd<|zg<|zg<|za<|e_mv rfl<|zN rfl rfl (.c rfl .n) ce53 (zde (p:=p) (n:=n) (cap:=cap) (l:=l) (hn:=ass) (h64:=cbo) (hrng:=cbo)) (.c (j:=0) rfl .n)<|e_p (ztb rfl)<|zh<|zd<|zG rfl (fun hsm=> ?_) (fun hsm=> ?_)
    ·
     refine zg<|za<|e_p (zb rfl)<|zh<|zd<|zK<|zi ?_
     exact zx yg () trivial (zk rfl) (by rw [Pg.ck_two hlm hz1 (fun h=>absurd ((Pg.smp_iff om).1 h) (by simpa using hsm))]) (ho:=(.n:PickO _ _ _)) (.n:SelR _ _ _)
    ·
     refine zt<|zd<|zg<|za<|e_p (zb rfl)<|zh<|zd<|zK ?_
     exact zx yg () trivial (zk rfl) (by rw [Pg.ck_ok hlm hz1 ((Pg.smp_iff om).2 (by simpa using hsm))]) (ho:=(.n:PickO _ _ _)) (.n:SelR _ _ _)
theorem zvf {p:Option Addr} {n:Nat} {cap:Nat} {l:List Pg.P2} (hn:l.length=n):Con yd 14 [.slice p n cap] [] [slF (rI2 .i64) p cap l] (Y:=Unit) (fun y=>True) (fun y=> .tuple #[.int .i64 (Pg.arV l),.int .i64 (Pg.arC l)]) (fun y=>[]) (fun y=>[]):=by
 refine zn Tryz.func14 rfl rfl rfl (fun c=> ?_)
 show RunC _ _ _ _ _ [(0,.slice p n cap)] [] [slF (rI2 .i64) p cap l]
 refine zia 0 rfl (fun hL0=> ?_)
 refine zg<|za<|e_p (zb rfl)<|e_p (zb rfl)<|zh<|zd<|zg<|zg<|za<|e_mv rfl<|e_p (zQ yb rfl)<|e_p (zBa rfl rfl)<|zh<|zd<|zG rfl (fun hlim=> ?_) (fun hlim=> ?_)
 ·
  refine zg<|za<|e_p (zb rfl)<|e_p (zb rfl)<|zh<|zd<|zK<|zi ?_
  obtain ⟨hv1,hv2⟩:=Pg.ar_lim (l:=l) om
  exact zAa Tryz.results14 () trivial (zk rfl) (zk rfl) (by rw [hv1,hv2]) (ho:=(.n:PickO _ _ _)) (.n:SelR _ _ _)
 ·
  refine zt<|zd<|zg<|za<|e_p (zb rfl)<|zh<|zd<|zg<|zg<|za<|e_p (zb rfl)<|zh<|zd<|zv<|zqa (X:=Nat) (fun x:Nat=>x≤n∧∀j,j<x→Pg.far (l.getD j (0,0))=false) (fun x=>[(5,.int .i64 ((x:Nat):Int)),(4,.int .i64 0),(0,.slice p n cap)]) (fun x=>[]) (fun x=>[slF (rI2 .i64) p cap l]) (fun x:Nat=>n - x) 0 (show 0≤n∧∀j,j<0→Pg.far (l.getD j (0,0))=false from by exact ⟨Nat.zero_le _,fun j h=>by omega⟩) ((.e rfl (by first|rfl|(congr 1;omega)|simp_all) (.c rfl (.c rfl .n))):SubM _ _) (ho:=(.n:PickO _ _ _)) ((.c (j:=0) rfl .n):SelR _ _ _) ?_
  rintro i hI
  replace hI:i≤n∧∀j,j<i→Pg.far (l.getD j (0,0))=false:=hI
  try dsimp only
  obtain ⟨hi,hall⟩:=hI
  refine zg<|zg<|za<|e_mv rfl<|e_mv rfl<|e_p (zQ yb rfl)<|e_p (zaa rfl rfl)<|zh<|zd<|zG rfl (fun h1=> ?_) (fun h1=> ?_)
  ·
   refine zt<|zd<|zg<|zv<|zg<|za<|e_mv rfl<|e_mv rfl<|zY (x0:=(l.getD i (0,0))) 0 i rfl yb sz30 rfl rfl rfl cbs rfl rfl (gD (d:=(0,0)) om) (fun b2 o3 hok4=> ?_)
   obtain ⟨hok4x,hok4y⟩:=hok4
   replace hok4x:=zq.1 hok4x
   replace hok4y:=zq.1 hok4y
   refine e_ru (zA (j:=0) 0 ty30 rfl rfl rfl (.t2 .nil))<|zN rfl rfl (.c rfl .n) ce48 (zue (ex:=(l.getD i (0,0)).1) (ey:=(l.getD i (0,0)).2) (hwex:=cbo) (hwey:=cbo)) (.n)<|e_p (ztb rfl)<|zh<|zd<|zG rfl (fun hfar=> ?_) (fun hfar=> ?_)
   ·
    refine zg<|za<|e_p (zb rfl)<|e_p (zb rfl)<|zh<|zd<|zK<|zm<|zi<|zi<|zm<|zi ?_
    obtain ⟨hv1,hv2⟩:=Pg.ar_far (l:=l) om (Ms.any_true (0,0) (i:=i) om (by simpa [Pg.far] using hfar))
    exact zAa Tryz.results14 () trivial (zk rfl) (zk rfl) (by rw [hv1,hv2]) (ho:=(.n:PickO _ _ _)) (.n:SelR _ _ _)
   ·
    refine zt<|zP<|zd<|za<|e_mv rfl<|e_p (zI (z:=(((i+1):Nat):Int)) rfl rfl (w64 om))<|e_p (zb rfl)<|zh<|zha (i+1) (show (i+1)≤n∧∀j,j<(i+1)→Pg.far (l.getD j (0,0))=false from by exact ⟨by omega,Ms.all_lt_succ (P:=fun j=>Pg.far (l.getD j (0,0))=false) hall (by simpa [Pg.far] using hfar)⟩) (by show n - (i+1)<n - i;omega) ((.of rfl):SubM _ _) (ho:=(.n:PickO _ _ _)) ((.c (j:=1) rfl .n):SelR _ _ _)
  ·
   have hnf:¬l.any Pg.far=true:=by rw [Ms.any_false (0,0) (fun j hj=>hall j om)];decide
   have hrng:=Pg.any_far hnf
   refine zla<|zj<|zj<|zr<|zd<|zg<|zg<|za<|e_p (zb rfl)<|zh<|zd<|zv<|zqa (X:=Nat) (fun x:Nat=>x≤n) (fun x=>[(4,.int .i64 (Pg.dbN n l x)),(6,.int .i64 ((x:Nat):Int)),(0,.slice p n cap)]) (fun x=>[]) (fun x=>[slF (rI2 .i64) p cap l]) (fun x:Nat=>n - x) 0 (show 0≤n from by exact Nat.zero_le _) ((.e rfl (by first|rfl|(congr 1;omega)|simp_all) (.e rfl (by first|rfl|(congr 1;omega)|simp_all) (.c rfl .n))):SubM _ _) (ho:=(.n:PickO _ _ _)) ((.c (j:=0) rfl .n):SelR _ _ _) ?_
   rintro k hJ
   replace hJ:k≤n:=hJ
   try dsimp only
   refine zg<|zg<|za<|e_mv rfl<|e_mv rfl<|e_p (zQ yb rfl)<|e_p (zaa rfl rfl)<|zh<|zd<|zG rfl (fun h5=> ?_) (fun h5=> ?_)
   ·
    have hm1:(k+1)%n<n:=Nat.mod_lt _ om
    have hg0:Pg.inR (l.getD k (0,0)):=Pg.Ok.gt hrng om
    have hg1:Pg.inR (l.getD ((k+1)%n) (0,0)):=Pg.Ok.gt hrng om
    obtain ⟨hp1,hp2⟩:=Pg.ab hg0 hg1
    have hb1:=Pg.dbN_b hn hrng (i:=k) om
    refine zt<|zd<|zg<|zv<|zg<|za<|e_mv rfl<|e_mv rfl<|e_p (zI (z:=(((k+1):Nat):Int)) rfl rfl (w64 om))<|e_mv rfl<|e_p (zQ yb rfl)<|e_p (zya (z:=((((k+1)%n):Nat):Int)) rfl rfl om (remN om om))<|zY (x0:=(l.getD ((k+1)%n) (0,0))) 0 ((k+1)%n) rfl yb sz30 rfl rfl rfl cbs rfl rfl (gD (d:=(0,0)) om) (fun b6 o7 hok8=> ?_)
    obtain ⟨hok8x,hok8y⟩:=hok8
    replace hok8x:=zq.1 hok8x
    replace hok8y:=zq.1 hok8y
    refine e_ru (zA (j:=0) 0 ty30 rfl rfl rfl (.t2 .nil))<|zO rfl rfl (zp zr30 rfl) (fun b9=> ?_)
    refine zo 0 rfl rfl rfl rfl rfl sz30 rfl (.t2 .nil) .z<|zh<|zd<|zba (OW:=[]) (O:=[boxA b9 30 [.int .i64 ((l.getD ((k+1)%n) (0,0)).1),.int .i64 ((l.getD ((k+1)%n) (0,0)).2)]]) 100000 mixed (.block (.then (.then (.block (.then .ret))))) kr<|e_dm 0 rfl rfl rfl<|e_dm 1 rfl rfl rfl<|e_dm 2 rfl rfl rfl<|zca (x0:=(l.getD k (0,0))) 3 rfl rfl kr kr 1 k rfl yb sz30 rfl rfl rfl cbs rfl rfl (gD (d:=(0,0)) om) (fun b10 o11 hok12=> ?_)
    obtain ⟨hok12x,hok12y⟩:=hok12
    replace hok12x:=zq.1 hok12x
    replace hok12y:=zq.1 hok12y
    refine e_pv 4 rfl rfl (zf ya rfl sz3 rfl rfl)<|e_u 5 rfl rfl (zB (j:=0) 0 ty3 rfl rfl rfl rfl)<|e_pv 6 rfl rfl (zf ya rfl sz3 rfl rfl)<|e_u 7 rfl rfl (ze 0 ty3 rfl rfl rfl)<|e_pv 8 rfl rfl (zDa (z:=((l.getD k (0,0)).1*(l.getD ((k+1)%n) (0,0)).2)) rfl rfl (w64 om))<|e_pv 9 rfl rfl (zI (z:=((Pg.dbN n l k)+((l.getD k (0,0)).1*(l.getD ((k+1)%n) (0,0)).2))) rfl rfl (w64 om))<|e_pv 10 rfl rfl (zf ya rfl sz3 rfl rfl)<|e_u 11 rfl rfl (ze 0 ty3 rfl rfl rfl)<|e_dm 12 rfl rfl rfl<|e_dm 13 rfl rfl rfl<|zca (x0:=(l.getD k (0,0))) 14 rfl rfl kr kr 2 k rfl yb sz30 rfl rfl rfl cbs rfl rfl (gD (d:=(0,0)) om) (fun b13 o14 hok15=> ?_)
    obtain ⟨hok15x,hok15y⟩:=hok15
    replace hok15x:=zq.1 hok15x
    replace hok15y:=zq.1 hok15y
    refine e_pv 15 rfl rfl (zf ya rfl sz3 rfl rfl)<|e_u 16 rfl rfl (zB (j:=1) 0 ty3 rfl rfl rfl rfl)<|e_pv 17 rfl rfl (zDa (z:=((l.getD ((k+1)%n) (0,0)).1*(l.getD k (0,0)).2)) rfl rfl (w64 om))<|e_pv 18 rfl rfl (zoa (z:=(((Pg.dbN n l k)+((l.getD k (0,0)).1*(l.getD ((k+1)%n) (0,0)).2)) - ((l.getD ((k+1)%n) (0,0)).1*(l.getD k (0,0)).2))) rfl rfl (w64 om))<|e_pv 19 rfl rfl (zb rfl)<|zX kr<|zP<|zd<|za<|e_mv rfl<|e_p (zI (z:=(((k+1):Nat):Int)) rfl rfl (w64 om))<|e_p (zb rfl)<|zh<|zha (k+1) (show (k+1)≤n from by show k+1≤n;omega) (by show n - (k+1)<n - k;omega) ((.e rfl (by refine congrArg (Value.int .i64) ?_;show _=Pg.dbN n l k+Pg.tm n l k;unfold Pg.tm Pg.gt;omega) (.c rfl (.c rfl .n))):SubM _ _) (ho:=(.n:PickO _ _ _)) ((.c (j:=3) rfl .n):SelR _ _ _)
   ·
    refine zla<|zj<|zj<|zr<|zd<|zg<|za<|e_mv rfl<|e_p (zb rfl)<|e_p (zb rfl)<|zh<|zd<|zK ?_
    obtain ⟨hv1,hv2⟩:=Pg.ar_ok (l:=l) om hnf
    exact zAa Tryz.results14 () trivial (zk rfl) (zk rfl) (by rw [hv1,hv2,show k=n by omega,Pg.db,hn]) (ho:=(.n:PickO _ _ _)) (.n:SelR _ _ _)
end Go.Proofs.YtjcpbhlijoigfaaGreat.Sp
namespace Go.Proofs.YtjcpbhlijoigfaaGreat.Sw
open Pg
set_option linter.unusedVariables false
def onX (l:List P2) (q:P2) (x:T3):Prop:=onE (pt l x.1) (pt l x.2.1) (pt l x.2.2) q
instance (l:List P2) (q:P2) (x:T3):Decidable (onX l q x):=inferInstanceAs (Decidable (onE ..))
def inX (l:List P2) (q:P2) (x:T3):Prop:=inTr (pt l x.1) (pt l x.2.1) (pt l x.2.2) q
instance (l:List P2) (q:P2) (x:T3):Decidable (inX l q x):=inferInstanceAs (Decidable (inTr ..))
section
variable {n : Nat} {l : List P2} {T : List T3} {q : P2}
end
end Go.Proofs.YtjcpbhlijoigfaaGreat.Sw
namespace Go.Proofs.YtjcpbhlijoigfaaGreat.Sp
open Go
set_option linter.unusedVariables false
set_option maxRecDepth 100000
set_option maxHeartbeats 8000000
theorem zWf {ex:Int} {ey:Int} {fx:Int} {fy:Int} {gx:Int} {gy:Int} {hx:Int} {hy:Int} (hre:Pg.inR (ex,ey)) (hrf:Pg.inR (fx,fy)) (hrg:Pg.inR (gx,gy)) (hrh:Pg.inR (hx,hy)):Con yd 36 [.agg #[.int .i64 ex,.int .i64 ey],.agg #[.int .i64 fx,.int .i64 fy],.agg #[.int .i64 gx,.int .i64 gy],.agg #[.int .i64 hx,.int .i64 hy]] [] [] (Y:=Unit) (fun y=>True) (fun y=> .bool (decide (Sw.inTr (ex,ey) (fx,fy) (gx,gy) (hx,hy)))) (fun y=>[]) (fun y=>[]):=by
 refine zn Tryz.func36 rfl rfl rfl (fun c=> ?_)
 show RunC _ _ _ _ _ [(0,.agg #[.int .i64 ex,.int .i64 ey]),(1,.agg #[.int .i64 fx,.int .i64 fy]),(2,.agg #[.int .i64 gx,.int .i64 gy]),(3,.agg #[.int .i64 hx,.int .i64 hy])] [] []
 have hc0:=(Pg.cb hre hrf hrh).c
 have hc1:=(Pg.cb hrf hrg hrh).c
 have hc2:=(Pg.cb hrg hre hrh).c
 refine zg<|za<|zO rfl rfl (zS rfl rfl) (fun b1=> ?_)
 refine zO rfl rfl (zS rfl rfl) (fun b2=> ?_)
 refine zO rfl rfl (zS rfl rfl) (fun b3=> ?_)
 refine zO rfl rfl (zS rfl rfl) (fun b4=> ?_)
 refine e_p (zb rfl)<|zh<|zd<|zg<|za<|e_ru (zc 3 ty30 rfl rfl (.t2 .nil))<|e_ru (zc 2 ty30 rfl rfl (.t2 .nil))<|e_ru (zc 0 ty30 rfl rfl (.t2 .nil))<|zN rfl rfl (.c rfl (.c rfl (.c rfl .n))) ce55 (zhb (ex:=ex) (ey:=ey) (fx:=fx) (fy:=fy) (gx:=hx) (gy:=hy) (hre:=ass) (hrf:=ass) (hrg:=ass)) (.n)<|zN rfl rfl (.c rfl .n) ce65 (zib (z:=Pg.crs (ex,ey) (fx,fy) (hx,hy)) (hz:=cbo)) (.n)<|e_p (zb rfl)<|zh<|zd<|zg<|za<|e_ru (zc 2 ty30 rfl rfl (.t2 .nil))<|e_ru (zc 1 ty30 rfl rfl (.t2 .nil))<|e_ru (zc 0 ty30 rfl rfl (.t2 .nil))<|zN rfl rfl (.c rfl (.c rfl (.c rfl .n))) ce55 (zhb (ex:=fx) (ey:=fy) (fx:=gx) (fy:=gy) (gx:=hx) (gy:=hy) (hre:=ass) (hrf:=ass) (hrg:=ass)) (.n)<|zN rfl rfl (.c rfl .n) ce65 (zib (z:=Pg.crs (fx,fy) (gx,gy) (hx,hy)) (hz:=cbo)) (.n)<|e_p (zb rfl)<|zh<|zd<|zg<|za<|e_ru (zc 1 ty30 rfl rfl (.t2 .nil))<|e_ru (zc 3 ty30 rfl rfl (.t2 .nil))<|e_ru (zc 0 ty30 rfl rfl (.t2 .nil))<|zN rfl rfl (.c rfl (.c rfl (.c rfl .n))) ce55 (zhb (ex:=gx) (ey:=gy) (fx:=ex) (fy:=ey) (gx:=hx) (gy:=hy) (hre:=ass) (hrf:=ass) (hrg:=ass)) (.n)<|zN rfl rfl (.c rfl .n) ce65 (zib (z:=Pg.crs (gx,gy) (ex,ey) (hx,hy)) (hz:=cbo)) (.n)<|e_p (zb rfl)<|zh<|zd<|zFa (X:=Unit) (fun x=>True) (fun x=>[(8,.bool (decide ((((0≤(Pg.crs (ex,ey) (fx,fy) (hx,hy)).sign)∧(0≤(Pg.crs (fx,fy) (gx,gy) (hx,hy)).sign))∧(0≤(Pg.crs (gx,gy) (ex,ey) (hx,hy)).sign))∨((((Pg.crs (ex,ey) (fx,fy) (hx,hy)).sign≤0)∧((Pg.crs (fx,fy) (gx,gy) (hx,hy)).sign≤0))∧((Pg.crs (gx,gy) (ex,ey) (hx,hy)).sign≤0)))))]) (fun x=>[boxA b4 30 [.int .i64 hx,.int .i64 hy],boxA b3 30 [.int .i64 gx,.int .i64 gy],boxA b2 30 [.int .i64 fx,.int .i64 fy],boxA b1 30 [.int .i64 ex,.int .i64 ey]]) (fun x=>[]) ?_ ?_
 ·
  refine za<|e_mv rfl<|e_p (zGa rfl rfl)<|zW rfl rfl (zV rfl) (fun h5=> ?_) (fun h5=> ?_)
  ·
   refine e_mv rfl<|e_p (zGa rfl rfl)<|e_p (zl rfl rfl)<|zW rfl rfl (zV rfl) (fun h6=> ?_) (fun h6=> ?_)
   ·
    refine e_mv rfl<|e_p (zGa rfl rfl)<|e_p (zl rfl rfl)<|zW rfl rfl (zV rfl) (fun h7=> ?_) (fun h7=> ?_)
    ·
     refine e_no<|e_no<|e_no<|e_no<|e_no<|e_no<|e_no<|e_no<|e_no<|e_no<|e_p (zl rfl rfl)<|e_p (zb rfl)<|zh ?_
     exact zea () (show True from by first|trivial|omega|simp_all) ((.e rfl (congrArg Value.bool cbu) .n):SubM _ _) (ho:=((.of [0,0,0,0] rfl):PickO _ _ _)) (.n:SelR _ _ _)
    ·
     refine e_mv rfl<|e_p (zJa rfl rfl)<|zW rfl rfl (zV rfl) (fun h8=> ?_) (fun h8=> ?_)
     ·
      refine e_mv rfl<|e_p (zJa rfl rfl)<|e_p (zl rfl rfl)<|zW rfl rfl (zV rfl) (fun h9=> ?_) (fun h9=> ?_)
      ·
       refine e_mv rfl<|e_p (zJa rfl rfl)<|e_p (zl rfl rfl)<|e_p (zl rfl rfl)<|e_p (zb rfl)<|zh ?_
       exact zea () (show True from by first|trivial|omega|simp_all) ((.e rfl (congrArg Value.bool cbu) .n):SubM _ _) (ho:=((.of [0,0,0,0] rfl):PickO _ _ _)) (.n:SelR _ _ _)
      ·
       refine e_no<|e_no<|e_p (zl rfl rfl)<|e_p (zl rfl rfl)<|e_p (zb rfl)<|zh ?_
       exact zea () (show True from by first|trivial|omega|simp_all) ((.e rfl (congrArg Value.bool cbu) .n):SubM _ _) (ho:=((.of [0,0,0,0] rfl):PickO _ _ _)) (.n:SelR _ _ _)
     ·
      refine e_no<|e_no<|e_p (zl rfl rfl)<|e_mv rfl<|e_no<|e_no<|e_p (zl rfl rfl)<|e_p (zl rfl rfl)<|e_p (zb rfl)<|zh ?_
      exact zea () (show True from by first|trivial|omega|simp_all) ((.e rfl (congrArg Value.bool cbu) .n):SubM _ _) (ho:=((.of [0,0,0,0] rfl):PickO _ _ _)) (.n:SelR _ _ _)
   ·
    refine e_no<|e_no<|e_p (zl rfl rfl)<|e_mv rfl<|e_mv rfl<|e_p (zJa rfl rfl)<|zW rfl rfl (zV rfl) (fun h10=> ?_) (fun h10=> ?_)
    ·
     refine e_mv rfl<|e_p (zJa rfl rfl)<|e_p (zl rfl rfl)<|zW rfl rfl (zV rfl) (fun h11=> ?_) (fun h11=> ?_)
     ·
      refine e_mv rfl<|e_p (zJa rfl rfl)<|e_p (zl rfl rfl)<|e_p (zl rfl rfl)<|e_p (zb rfl)<|zh ?_
      exact zea () (show True from by first|trivial|omega|simp_all) ((.e rfl (congrArg Value.bool cbu) .n):SubM _ _) (ho:=((.of [0,0,0,0] rfl):PickO _ _ _)) (.n:SelR _ _ _)
     ·
      refine e_no<|e_no<|e_p (zl rfl rfl)<|e_p (zl rfl rfl)<|e_p (zb rfl)<|zh ?_
      exact zea () (show True from by first|trivial|omega|simp_all) ((.e rfl (congrArg Value.bool cbu) .n):SubM _ _) (ho:=((.of [0,0,0,0] rfl):PickO _ _ _)) (.n:SelR _ _ _)
    ·
     refine e_no<|e_no<|e_p (zl rfl rfl)<|e_mv rfl<|e_no<|e_no<|e_p (zl rfl rfl)<|e_p (zl rfl rfl)<|e_p (zb rfl)<|zh ?_
     exact zea () (show True from by first|trivial|omega|simp_all) ((.e rfl (congrArg Value.bool cbu) .n):SubM _ _) (ho:=((.of [0,0,0,0] rfl):PickO _ _ _)) (.n:SelR _ _ _)
  ·
   refine e_no<|e_no<|e_p (zl rfl rfl)<|e_mv rfl<|e_no<|e_no<|e_p (zl rfl rfl)<|e_mv rfl<|e_mv rfl<|e_p (zJa rfl rfl)<|zW rfl rfl (zV rfl) (fun h12=> ?_) (fun h12=> ?_)
   ·
    refine e_mv rfl<|e_p (zJa rfl rfl)<|e_p (zl rfl rfl)<|zW rfl rfl (zV rfl) (fun h13=> ?_) (fun h13=> ?_)
    ·
     refine e_mv rfl<|e_p (zJa rfl rfl)<|e_p (zl rfl rfl)<|e_p (zl rfl rfl)<|e_p (zb rfl)<|zh ?_
     exact zea () (show True from by first|trivial|omega|simp_all) ((.e rfl (congrArg Value.bool cbu) .n):SubM _ _) (ho:=((.of [0,0,0,0] rfl):PickO _ _ _)) (.n:SelR _ _ _)
    ·
     refine e_no<|e_no<|e_p (zl rfl rfl)<|e_p (zl rfl rfl)<|e_p (zb rfl)<|zh ?_
     exact zea () (show True from by first|trivial|omega|simp_all) ((.e rfl (congrArg Value.bool cbu) .n):SubM _ _) (ho:=((.of [0,0,0,0] rfl):PickO _ _ _)) (.n:SelR _ _ _)
   ·
    refine e_no<|e_no<|e_p (zl rfl rfl)<|e_mv rfl<|e_no<|e_no<|e_p (zl rfl rfl)<|e_p (zl rfl rfl)<|e_p (zb rfl)<|zh ?_
    exact zea () (show True from by first|trivial|omega|simp_all) ((.e rfl (congrArg Value.bool cbu) .n):SubM _ _) (ho:=((.of [0,0,0,0] rfl):PickO _ _ _)) (.n:SelR _ _ _)
 ·
  rintro ⟨⟩ -
  try dsimp only
  refine zK ?_
  exact zx Tryz.results36 () trivial (zk rfl) (congrArg Value.bool (by first|rfl|(rw [Bool.eq_iff_iff,decide_eq_true_iff];simp [Sw.inTr,and_assoc,or_assoc];done)|(rw [Bool.eq_iff_iff,decide_eq_true_iff];simp_all [Sw.inTr];done)|(rw [Bool.eq_iff_iff];simp_all [Sw.inTr];done))) (ho:=(.n:PickO _ _ _)) (.n:SelR _ _ _)
end Go.Proofs.YtjcpbhlijoigfaaGreat.Sp
namespace Go.Proofs.YtjcpbhlijoigfaaGreat.Sp
open Go
set_option linter.unusedVariables false
set_option maxRecDepth 100000
set_option maxHeartbeats 1000000
theorem zwf {p:Option Addr} {n:Nat} {cap:Nat} {l:List Pg.P2} (hn:l.length=n) (hz:Pg.ck l=0):Con yd 33 [.slice p n cap] [] [slF (rI2 .i64) p cap l] (Y:=(Option Addr)×Nat) (fun y=>True) (fun y=> .slice (y.1) ((Pg.erV l).length) (y.2)) (fun y=>[rowA 50 (rI3 .i64) (y.1) (y.2) (Pg.erV l)]) (fun y=>[]):=by
 refine zn Tryz.func33 rfl rfl rfl (fun c=> ?_)
 show RunC _ _ _ _ _ [(0,.slice p n cap)] [] [slF (rI2 .i64) p cap l]
 refine zia 0 rfl (fun hL0=> ?_)
 have hbad:=hz
 have hok:=Pg.ok hz
 have hrng:=hok.rng
 have h64:n≤64:=by have:=hok.n64;omega
 have hn3:3≤n:=by have:=hok.n3;omega
 have hsm:Pg.Sm n l:=by have h9:=Pg.Sm.of hz;rwa [hn] at h9
 have hdb:=Sw.db_ne hsm hrng
 have hnf:¬l.any Pg.far=true:=fun h=>by obtain ⟨x,hx,hf⟩:=List.any_eq_true.1 h;unfold Pg.far at hf;simp at hf;exact hf (hrng x hx)
 have hA:Pg.arV l=Pg.db l:=(Pg.ar_ok om hnf).1
 have hA0:Pg.arC l=0:=(Pg.ar_ok om hnf).2
 have hdbb:=Pg.dbN_b hn hrng (i:=n) (Nat.le_refl _)
 have hdb2:Pg.db l=Pg.dbN n l n:=by rw [Pg.db,hn]
 refine zg<|za<|e_p (zb rfl)<|zh<|zd<|zg<|za<|e_mv rfl<|zN rfl rfl (.c rfl .n) ce14 (zvf (p:=p) (n:=n) (cap:=cap) (l:=l) (hn:=ass)) (.c (j:=0) rfl .n)<|e_mv rfl<|e_p (zC rfl rfl)<|e_p (zC rfl rfl)<|e_p (zb rfl)<|e_p (zb rfl)<|zh<|zd<|zg ?_
 have e1:Pg.arV l=Pg.db l:=by exact hA
 rw [e1]
 refine za<|zIa rfl rfl (zta (rI .i64) yc inf3) (fun b2 _=> ?_)
 refine e_p (zb rfl)<|zh<|zd<|zg<|zg<|za<|e_p (zb rfl)<|zh<|zd<|zv<|zqa (X:=Nat×(Option Addr)×Nat) (fun x:Nat×(Option Addr)×Nat=>x.1≤n) (fun x=>[(5,.slice (x.2.1) (x.1) (x.2.2)),(6,.int .i64 ((x.1:Nat):Int)),(3,.int .i64 (Pg.db l)),(2,.slice none 0 0),(0,.slice p n cap)]) (fun x=>[rowA 3 (rI .i64) (x.2.1) (x.2.2) (Er.iL (List.range x.1))]) (fun x=>[slF (rI2 .i64) p cap l]) (fun x:Nat×(Option Addr)×Nat=>n - x.1) (0,some ⟨b2,0,none⟩,0) (show 0≤n from by exact Nat.zero_le _) ((.c rfl (.e rfl (by first|rfl|(congr 1;omega)|simp_all) (.of rfl))):SubM _ _) (ho:=((.e (i:=0) rfl (by first|rfl|(congr 1;omega)|simp_all) .n):PickO _ _ _)) ((.c (j:=0) rfl .n):SelR _ _ _) ?_
 rintro ⟨k,p7,c7⟩ hI
 replace hI:k≤n:=hI
 try dsimp only
 refine zg<|zg<|za<|e_mv rfl<|e_mv rfl<|e_p (zQ yb rfl)<|e_p (zaa rfl rfl)<|zh<|zd<|zG rfl (fun h3=> ?_) (fun h3=> ?_)
 ·
  refine zt<|zd<|zg<|zv<|za<|e_mv rfl<|e_mv rfl<|zIa rfl rfl (zT (enc:=fun z:Int=>[.int .i64 z]) (ok:=InK .i64) (h1:=fun _=>rfl) (h2:=fun _=>rfl) (k:=1) yc inf3 rfl dd dd dd (.c (x:=((k:Nat):Int)) rfl rfl (fun _ _=>by exact zq.2 om) .n)) (fun b4 _=> ?_)
  refine zma 0 rfl .z<|zLa 1 rfl rfl rfl (zra 0 rfl yc inf3 dd rfl rfl (by first|rfl|assumption|omega|(rw [Er.iL_len];first|done|rfl|omega|exact List.length_range)|(simp;done)|(simp;omega)) rfl (by first|rfl|assumption|omega|(rw [Er.iL_len];first|done|rfl|omega|exact List.length_range)|(simp;done)|(simp;omega)) om om) (fun _=>(.s .z)) ?_
  rintro ⟨p5,c6⟩ -
  dsimp only [aq,nq,cq]
  refine e_p (zb rfl)<|zh<|zP<|zd<|za<|e_mv rfl<|e_p (zI (z:=(((k+1):Nat):Int)) rfl rfl (w64 om))<|e_p (zb rfl)<|zh<|zha ((k+1),p5,c6) (show (k+1)≤n from by show k+1≤n;omega) (by show n - (k+1)<n - k;omega) ((.e rfl (by first|rfl|(congr 1;omega)|simp_all) (.of rfl)):SubM _ _) (ho:=((.e (i:=1) rfl (by first|rfl|(rw [Er.iL_range])) .n):PickO _ _ _)) ((.c (j:=1) rfl .n):SelR _ _ _)
 ·
  refine zla<|zj<|zj<|zr<|zd<|zg ?_
  have hkn:k=n:=by omega
  have e7:(List.range k)=(List.range n):=by rw [hkn]
  rw [e7]
  have e8:(.slice p7 k c7:Value)= .slice p7 ((List.range n).length) c7:=by rw [List.length_range,hkn]
  rw [e8]
  refine za<|zIa rfl rfl (zta (rI3 .i64) ye inf50) (fun b9 _=> ?_)
  refine e_p (zb rfl)<|zh<|zd<|zg<|zv<|zqa (X:=(List Nat)×(Option Addr)×Nat×(List Pg.T3)×(Option Addr)×Nat) (fun x:(List Nat)×(Option Addr)×Nat×(List Pg.T3)×(Option Addr)×Nat=>Er.Oe n l x.1 x.2.2.2.1) (fun x=>[(7,.slice (x.2.2.2.2.1) (x.2.2.2.1.length) (x.2.2.2.2.2)),(5,.slice (x.2.1) (x.1.length) (x.2.2.1)),(3,.int .i64 (Pg.db l)),(0,.slice p n cap)]) (fun x=>[rowA 50 (rI3 .i64) (x.2.2.2.2.1) (x.2.2.2.2.2) (x.2.2.2.1),rowA 3 (rI .i64) (x.2.1) (x.2.2.1) (Er.iL x.1)]) (fun x=>[slF (rI2 .i64) p cap l]) (fun x:(List Nat)×(Option Addr)×Nat×(List Pg.T3)×(Option Addr)×Nat=>x.1.length) ((List.range n),p7,c7,[],some ⟨b9,0,none⟩,0) (show Er.Oe n l (List.range n) ([]) from by exact Er.Oe.zero hz hn) ((.e rfl (by first|rfl|(congr 1;omega)|simp_all) (.of rfl)):SubM _ _) (ho:=((.of [0,0] rfl):PickO _ _ _)) ((.c (j:=0) rfl .n):SelR _ _ _) ?_
  rintro ⟨L,p5,c5,out,p7,c7⟩ hO
  replace hO:Er.Oe n l L out:=hO
  try dsimp only
  have hil:=Er.iL_len L
  refine zg<|zg<|za<|e_mv rfl<|e_p (zQ yc rfl)<|e_p (zBa rfl rfl)<|zh<|zd<|zG rfl (fun hgt=> ?_) (fun hgt=> ?_)
  ·
   refine zt<|zd<|zv<|zg<|za<|e_p (zb rfl)<|zh<|zd<|zg<|zg<|za<|e_p (zb rfl)<|zh<|zd<|zv<|zqa (X:=Nat×Int×(List Pg.T3)×(Option Addr)×Nat) (fun x:Nat×Int×(List Pg.T3)×(Option Addr)×Nat=>Er.Fd l L out x.1 x.2.1 x.2.2.1) (fun x=>[(7,.slice (x.2.2.2.1) (x.2.2.1.length) (x.2.2.2.2)),(8,.int .i64 (x.2.1)),(9,.int .i64 ((x.1:Nat):Int)),(5,.slice p5 (L.length) c5),(3,.int .i64 (Pg.db l)),(0,.slice p n cap)]) (fun x=>[rowA 50 (rI3 .i64) (x.2.2.2.1) (x.2.2.2.2) (x.2.2.1),rowA 3 (rI .i64) p5 c5 (Er.iL L)]) (fun x=>[slF (rI2 .i64) p cap l]) (fun x:Nat×Int×(List Pg.T3)×(Option Addr)×Nat=>L.length - x.1) (0,(-1),out,p7,c7) (show Er.Fd l L out 0 (-1) out from by exact Er.Fd.zero) ((.c rfl (.c rfl (.e rfl (by first|rfl|(congr 1;omega)|simp_all) (.of rfl)))):SubM _ _) (ho:=((.of [0,0] rfl):PickO _ _ _)) ((.c (j:=0) rfl .n):SelR _ _ _) ?_
   rintro ⟨k,az,o2,p8,c8⟩ hF
   replace hF:Er.Fd l L out k az o2:=hF
   try dsimp only
   have hkm:=hF.1
   have ho2l:=hF.len
   have hoo:=hO.o
   refine zg<|zFa (X:=Unit) (fun x=>True) (fun x=>[(44,.bool (decide ((((k:Nat):Int)<((L.length:Nat):Int))∧(az<0)))),(7,.slice p8 (o2.length) c8),(8,.int .i64 az),(9,.int .i64 ((k:Nat):Int)),(5,.slice p5 (L.length) c5),(3,.int .i64 (Pg.db l)),(0,.slice p n cap)]) (fun x=>[rowA 50 (rI3 .i64) p8 c8 o2,rowA 3 (rI .i64) p5 c5 (Er.iL L)]) (fun x=>[slF (rI2 .i64) p cap l]) ?_ ?_
   ·
    refine za<|e_mv rfl<|e_mv rfl<|e_p (zQ yc rfl)<|e_p (zaa rfl rfl)<|zW rfl rfl (zV rfl) (fun h10=> ?_) (fun h10=> ?_)
    ·
     refine e_mv rfl<|e_p (zaa rfl rfl)<|e_p (zl rfl rfl)<|zh ?_
     exact zea () (show True from by first|trivial|omega|simp_all) ((.e rfl (congrArg Value.bool cbu) (.of rfl)):SubM _ _) (ho:=((.of [0,0] rfl):PickO _ _ _)) ((.c (j:=0) rfl .n):SelR _ _ _)
    ·
     refine e_no<|e_no<|e_p (zl rfl rfl)<|zh ?_
     exact zea () (show True from by first|trivial|omega|simp_all) ((.e rfl (congrArg Value.bool cbu) (.of rfl)):SubM _ _) (ho:=((.of [0,0] rfl):PickO _ _ _)) ((.c (j:=0) rfl .n):SelR _ _ _)
   ·
    rintro ⟨⟩ -
    try dsimp only
    refine zG rfl (fun hgo=> ?_) (fun hgo=> ?_)
    ·
     have hkl:k<L.length:=by omega
     have haz0:az<0:=by omega
     have hL64:=hO.r.n64
     have hpm:(k+L.length - 1)%L.length<L.length:=Nat.mod_lt _ om
     have hsm2:(k+1)%L.length<L.length:=Nat.mod_lt _ om
     have hpx:=Pg.px_lt hkl
     have hsx:=Pg.sx_lt hkl
     have hnL:∀i,i<L.length→Pg.nt L i<n:=fun i h=>by have h9:=hO.r.lt _ (Ms.getD_mem 0 h);rw [hn] at h9;exact h9
     have hu1:=hnL _ hpx
     have hu2:=hnL _ hkl
     have hu3:=hnL _ hsx
     refine zt<|zd<|zg<|zv<|zg<|za<|e_mv rfl<|e_mv rfl<|e_mv rfl<|e_p (zQ yc rfl)<|e_p (zI (z:=(((k+L.length):Nat):Int)) rfl rfl (w64 om))<|e_p (zoa (z:=((((k+L.length):Nat):Int) - 1)) rfl rfl (w64 om)) ?_
     have e11:(((((k+L.length):Nat):Int) - 1):Int)=(((k+L.length - 1):Nat):Int):=by omega
     rw [e11]
     refine e_mv rfl<|e_p (zQ yc rfl)<|e_p (zya (z:=((((k+L.length - 1)%L.length):Nat):Int)) rfl rfl om (remN om om))<|e_ru (zfa 1 ((k+L.length - 1)%L.length) rfl yc sz3 rfl (by first|rfl|assumption|omega|(rw [Er.iL_len];first|done|rfl|omega|exact List.length_range)|(simp;done)|(simp;omega)) rfl rfl om)<|r_vl rfl rfl (zZ 1 ((k+L.length - 1)%L.length) rfl ty3 rfl rfl (gD (d:=0) om) rfl) (fun _ hok12=> ?_)
     replace hok12:=zq.1 hok12
     have e13:(((Er.iL L).getD ((k+L.length - 1)%L.length) 0):Int)=(((Pg.nt L (Pg.px L.length k)):Nat):Int):=by rw [Er.iL_get,Er.px_md hkl]
     rw [e13]
     refine e_p (zb rfl)<|zh<|zd<|zg<|za<|e_mv rfl<|e_mv rfl<|e_ru (zfa 1 k rfl yc sz3 rfl (by first|rfl|assumption|omega|(rw [Er.iL_len];first|done|rfl|omega|exact List.length_range)|(simp;done)|(simp;omega)) rfl rfl om)<|r_vl rfl rfl (zZ 1 k rfl ty3 rfl rfl (gD (d:=0) om) rfl) (fun _ hok14=> ?_)
     replace hok14:=zq.1 hok14
     have e15:(((Er.iL L).getD k 0):Int)=(((Pg.nt L k):Nat):Int):=by exact Er.iL_get _ _
     rw [e15]
     refine e_p (zb rfl)<|zh<|zd<|zg<|za<|e_mv rfl<|e_mv rfl<|e_p (zI (z:=(((k+1):Nat):Int)) rfl rfl (w64 om))<|e_mv rfl<|e_p (zQ yc rfl)<|e_p (zya (z:=((((k+1)%L.length):Nat):Int)) rfl rfl om (remN om om))<|e_ru (zfa 1 ((k+1)%L.length) rfl yc sz3 rfl (by first|rfl|assumption|omega|(rw [Er.iL_len];first|done|rfl|omega|exact List.length_range)|(simp;done)|(simp;omega)) rfl rfl om)<|r_vl rfl rfl (zZ 1 ((k+1)%L.length) rfl ty3 rfl rfl (gD (d:=0) om) rfl) (fun _ hok16=> ?_)
     replace hok16:=zq.1 hok16
     have e17:(((Er.iL L).getD ((k+1)%L.length) 0):Int)=(((Pg.nt L (Pg.sx L.length k)):Nat):Int):=by rw [Er.iL_get,Er.sx_md hkl]
     rw [e17]
     refine e_p (zb rfl)<|zh<|zd<|zg<|zg ?_
     have hg0:Pg.inR (l.getD (Pg.nt L (Pg.px L.length k)) (0,0)):=Pg.Ok.gt hrng om
     have hg1:Pg.inR (l.getD (Pg.nt L k) (0,0)):=Pg.Ok.gt hrng om
     have hg2:Pg.inR (l.getD (Pg.nt L (Pg.sx L.length k)) (0,0)):=Pg.Ok.gt hrng om
     have hcb: -35184372088832≤(Pg.crs ((l.getD (Pg.nt L (Pg.px L.length k)) (0,0)).1,(l.getD (Pg.nt L (Pg.px L.length k)) (0,0)).2) ((l.getD (Pg.nt L k) (0,0)).1,(l.getD (Pg.nt L k) (0,0)).2) ((l.getD (Pg.nt L (Pg.sx L.length k)) (0,0)).1,(l.getD (Pg.nt L (Pg.sx L.length k)) (0,0)).2))∧(Pg.crs ((l.getD (Pg.nt L (Pg.px L.length k)) (0,0)).1,(l.getD (Pg.nt L (Pg.px L.length k)) (0,0)).2) ((l.getD (Pg.nt L k) (0,0)).1,(l.getD (Pg.nt L k) (0,0)).2) ((l.getD (Pg.nt L (Pg.sx L.length k)) (0,0)).1,(l.getD (Pg.nt L (Pg.sx L.length k)) (0,0)).2))≤35184372088832:=(Pg.cb hg0 hg1 hg2).c
     refine zba (OW:=[]) (O:=[rowA 50 (rI3 .i64) p8 c8 o2,rowA 3 (rI .i64) p5 c5 (Er.iL L)]) 100000 mixed (.then (.then (.block (.then (.then (.block (.then (.block (.then (.block (.then .ret))))))))))) kr<|e_dm 0 rfl rfl rfl<|e_dm 1 rfl rfl rfl<|zca (x0:=(l.getD (Pg.nt L (Pg.px L.length k)) (0,0))) 2 rfl rfl kr kr 0 (Pg.nt L (Pg.px L.length k)) rfl yb sz30 rfl rfl rfl (by first|rfl|assumption|omega|(rw [Er.iL_len];first|done|rfl|omega|exact List.length_range)|(simp;done)|(simp;omega)) rfl rfl (gD (d:=(0,0)) om) (fun b18 o19 hok20=> ?_)
     obtain ⟨hok20x,hok20y⟩:=hok20
     replace hok20x:=zq.1 hok20x
     replace hok20y:=zq.1 hok20y
     refine e_u 3 rfl rfl (zA (j:=0) 0 ty30 rfl rfl rfl (.t2 .nil))<|e_dm 4 rfl rfl rfl<|e_dm 5 rfl rfl rfl<|zca (x0:=(l.getD (Pg.nt L k) (0,0))) 6 rfl rfl kr kr 1 (Pg.nt L k) rfl yb sz30 rfl rfl rfl (by first|rfl|assumption|omega|(rw [Er.iL_len];first|done|rfl|omega|exact List.length_range)|(simp;done)|(simp;omega)) rfl rfl (gD (d:=(0,0)) om) (fun b21 o22 hok23=> ?_)
     obtain ⟨hok23x,hok23y⟩:=hok23
     replace hok23x:=zq.1 hok23x
     replace hok23y:=zq.1 hok23y
     refine e_u 7 rfl rfl (zA (j:=0) 0 ty30 rfl rfl rfl (.t2 .nil))<|e_dm 8 rfl rfl rfl<|e_dm 9 rfl rfl rfl<|zca (x0:=(l.getD (Pg.nt L (Pg.sx L.length k)) (0,0))) 10 rfl rfl kr kr 2 (Pg.nt L (Pg.sx L.length k)) rfl yb sz30 rfl rfl rfl (by first|rfl|assumption|omega|(rw [Er.iL_len];first|done|rfl|omega|exact List.length_range)|(simp;done)|(simp;omega)) rfl rfl (gD (d:=(0,0)) om) (fun b24 o25 hok26=> ?_)
     obtain ⟨hok26x,hok26y⟩:=hok26
     replace hok26x:=zq.1 hok26x
     replace hok26y:=zq.1 hok26y
     refine e_u 11 rfl rfl (zA (j:=0) 0 ty30 rfl rfl rfl (.t2 .nil))<|e_dm 14 rfl rfl rfl<|e_one 12 (zwa rfl rfl rfl rfl (.c rfl (.c rfl (.c rfl .n))) ce55 (zhb (ex:=(l.getD (Pg.nt L (Pg.px L.length k)) (0,0)).1) (ey:=(l.getD (Pg.nt L (Pg.px L.length k)) (0,0)).2) (fx:=(l.getD (Pg.nt L k) (0,0)).1) (fy:=(l.getD (Pg.nt L k) (0,0)).2) (gx:=(l.getD (Pg.nt L (Pg.sx L.length k)) (0,0)).1) (gy:=(l.getD (Pg.nt L (Pg.sx L.length k)) (0,0)).2) (hre:=cbo) (hrf:=cbo) (hrg:=cbo)) (.n) ?_)
     refine e_one 13 (zwa rfl rfl rfl rfl (.c rfl .n) ce65 (zib (z:=Pg.crs (((l.getD (Pg.nt L (Pg.px L.length k)) (0,0)).1),((l.getD (Pg.nt L (Pg.px L.length k)) (0,0)).2)) (((l.getD (Pg.nt L k) (0,0)).1),((l.getD (Pg.nt L k) (0,0)).2)) (((l.getD (Pg.nt L (Pg.sx L.length k)) (0,0)).1),((l.getD (Pg.nt L (Pg.sx L.length k)) (0,0)).2))) (hz:=cbo)) (.n) ?_)
     refine e_one 15 (zwa rfl rfl rfl rfl (.c rfl .n) ce65 (zib (z:=Pg.db l) (hz:=cbo)) (.n) ?_)
     refine e_pv 16 rfl rfl (zQa rfl rfl)<|zX kr<|zd<|zG rfl (fun hsg=> ?_) (fun hsg=> ?_)
     ·
      have hnr:¬Er.rE l L k:=fun h=>hsg h.1
      refine zla<|zj<|zr<|zd<|za<|e_mv rfl<|e_p (zI (z:=(((k+1):Nat):Int)) rfl rfl (w64 om))<|e_p (zb rfl)<|zh<|zha ((k+1),az,o2,p8,c8) (show Er.Fd l L out (k+1) az o2 from by exact hF.no haz0 hkl hnr) (by show L.length - (k+1)<L.length - k;omega) ((.of rfl):SubM _ _) (ho:=((.of [0,0] rfl):PickO _ _ _)) ((.c (j:=3) rfl .n):SelR _ _ _)
     ·
      refine zt<|zd<|zg<|za<|e_p (zb rfl)<|zh<|zd<|zg<|zg<|za<|e_p (zb rfl)<|zh<|zd<|zv<|zqa (X:=Nat×Bool) (fun x:Nat×Bool=>x.1≤L.length∧(x.2=true↔∀i,i<x.1→¬Er.fr l L k i)) (fun x=>[(13,.bool (x.2)),(14,.int .i64 ((x.1:Nat):Int)),(12,.int .i64 (((Pg.nt L (Pg.sx L.length k)):Nat):Int)),(11,.int .i64 (((Pg.nt L k):Nat):Int)),(10,.int .i64 (((Pg.nt L (Pg.px L.length k)):Nat):Int)),(7,.slice p8 (o2.length) c8),(8,.int .i64 az),(9,.int .i64 ((k:Nat):Int)),(5,.slice p5 (L.length) c5),(3,.int .i64 (Pg.db l)),(0,.slice p n cap)]) (fun x=>[rowA 50 (rI3 .i64) p8 c8 o2,rowA 3 (rI .i64) p5 c5 (Er.iL L)]) (fun x=>[atF b24 o25 [.int .i64 ((l.getD (Pg.nt L (Pg.sx L.length k)) (0,0)).1),.int .i64 ((l.getD (Pg.nt L (Pg.sx L.length k)) (0,0)).2)],atF b21 o22 [.int .i64 ((l.getD (Pg.nt L k) (0,0)).1),.int .i64 ((l.getD (Pg.nt L k) (0,0)).2)],atF b18 o19 [.int .i64 ((l.getD (Pg.nt L (Pg.px L.length k)) (0,0)).1),.int .i64 ((l.getD (Pg.nt L (Pg.px L.length k)) (0,0)).2)],slF (rI2 .i64) p cap l]) (fun x:Nat×Bool=>L.length - x.1) (0,true) (show 0≤L.length∧(true=true↔∀i,i<0→¬Er.fr l L k i) from by exact ⟨Nat.zero_le _,fun _ i h=>by omega,fun _=>rfl⟩) ((.e rfl (by first|rfl|(congr 1;omega)|simp_all) (.e rfl (by first|rfl|(congr 1;omega)|simp_all) (.of rfl))):SubM _ _) (ho:=((.of [0,0] rfl):PickO _ _ _)) ((.of [0,1,2,3] rfl):SelR _ _ _) ?_
      rintro ⟨j,fb⟩ hJ
      replace hJ:j≤L.length∧(fb=true↔∀i,i<j→¬Er.fr l L k i):=hJ
      try dsimp only
      refine zg<|zg<|za<|e_mv rfl<|e_mv rfl<|e_p (zQ yc rfl)<|e_p (zaa rfl rfl)<|zh<|zd<|zG rfl (fun hjl=> ?_) (fun hjl=> ?_)
      ·
       have hujj:=hnL j om
       have hg3:Pg.inR (l.getD (Pg.nt L j) (0,0)):=Pg.Ok.gt hrng om
       refine zt<|zd<|zg<|zv<|zFa (X:=Unit) (fun x=>True) (fun x=>[(136,.bool (decide (Er.fr l L k j))),(13,.bool fb),(14,.int .i64 ((j:Nat):Int)),(12,.int .i64 (((Pg.nt L (Pg.sx L.length k)):Nat):Int)),(11,.int .i64 (((Pg.nt L k):Nat):Int)),(10,.int .i64 (((Pg.nt L (Pg.px L.length k)):Nat):Int)),(7,.slice p8 (o2.length) c8),(8,.int .i64 az),(9,.int .i64 ((k:Nat):Int)),(5,.slice p5 (L.length) c5),(3,.int .i64 (Pg.db l)),(0,.slice p n cap)]) (fun x=>[rowA 50 (rI3 .i64) p8 c8 o2,rowA 3 (rI .i64) p5 c5 (Er.iL L)]) (fun x=>[atF b24 o25 [.int .i64 ((l.getD (Pg.nt L (Pg.sx L.length k)) (0,0)).1),.int .i64 ((l.getD (Pg.nt L (Pg.sx L.length k)) (0,0)).2)],atF b21 o22 [.int .i64 ((l.getD (Pg.nt L k) (0,0)).1),.int .i64 ((l.getD (Pg.nt L k) (0,0)).2)],atF b18 o19 [.int .i64 ((l.getD (Pg.nt L (Pg.px L.length k)) (0,0)).1),.int .i64 ((l.getD (Pg.nt L (Pg.px L.length k)) (0,0)).2)],slF (rI2 .i64) p cap l]) ?_ ?_
       ·
        refine zba (OW:=[]) (O:=[rowA 50 (rI3 .i64) p8 c8 o2,rowA 3 (rI .i64) p5 c5 (Er.iL L)]) 100000 mixed (.then (.block (.then (.then (.block (.then (.block (.then (.then (.block (.then (.block (.then (.block (.then .ret))))))))))))))) kr<|e_dm 0 rfl rfl rfl<|e_dm 1 rfl rfl rfl<|e_u 2 rfl rfl (zfa 1 j rfl yc sz3 rfl (by first|rfl|assumption|omega|(rw [Er.iL_len];first|done|rfl|omega|exact List.length_range)|(simp;done)|(simp;omega)) rfl rfl om)<|d_vl 3 rfl rfl kr kr rfl rfl (zZ 1 j rfl ty3 rfl rfl (gD (d:=0) om) rfl) (fun _ hok27=> ?_)
        replace hok27:=zq.1 hok27
        have e28:(((Er.iL L).getD j 0):Int)=(((Pg.nt L j):Nat):Int):=by exact Er.iL_get _ _
        rw [e28]
        refine e_dm 4 rfl rfl rfl<|e_pv 5 rfl rfl (zQa rfl rfl)<|znb 6 rfl rfl kr kr rfl rfl (zV rfl) (fun h29=> ?_) (fun h29=> ?_)
        ·
         refine e_dm 7 rfl rfl rfl<|e_dm 8 rfl rfl rfl<|e_u 9 rfl rfl (zfa 1 j rfl yc sz3 rfl (by first|rfl|assumption|omega|(rw [Er.iL_len];first|done|rfl|omega|exact List.length_range)|(simp;done)|(simp;omega)) rfl rfl om)<|d_vl 10 rfl rfl kr kr rfl rfl (zZ 1 j rfl ty3 rfl rfl (gD (d:=0) om) rfl) (fun _ hok30=> ?_)
         replace hok30:=zq.1 hok30
         have e31:(((Er.iL L).getD j 0):Int)=(((Pg.nt L j):Nat):Int):=by exact Er.iL_get _ _
         rw [e31]
         refine e_dm 11 rfl rfl rfl<|e_pv 12 rfl rfl (zQa rfl rfl)<|e_pv 13 rfl rfl (zl rfl rfl)<|znb 14 rfl rfl kr kr rfl rfl (zV rfl) (fun h32=> ?_) (fun h32=> ?_)
         ·
          refine e_dm 15 rfl rfl rfl<|e_dm 16 rfl rfl rfl<|e_u 17 rfl rfl (zfa 1 j rfl yc sz3 rfl (by first|rfl|assumption|omega|(rw [Er.iL_len];first|done|rfl|omega|exact List.length_range)|(simp;done)|(simp;omega)) rfl rfl om)<|d_vl 18 rfl rfl kr kr rfl rfl (zZ 1 j rfl ty3 rfl rfl (gD (d:=0) om) rfl) (fun _ hok33=> ?_)
          replace hok33:=zq.1 hok33
          have e34:(((Er.iL L).getD j 0):Int)=(((Pg.nt L j):Nat):Int):=by exact Er.iL_get _ _
          rw [e34]
          refine e_dm 19 rfl rfl rfl<|e_pv 20 rfl rfl (zQa rfl rfl)<|e_pv 21 rfl rfl (zl rfl rfl)<|znb 22 rfl rfl kr kr rfl rfl (zV rfl) (fun h35=> ?_) (fun h35=> ?_)
          ·
           refine e_dm 23 rfl rfl rfl<|e_dm 24 rfl rfl rfl<|zca (x0:=(l.getD (Pg.nt L (Pg.px L.length k)) (0,0))) 25 rfl rfl kr kr 3 (Pg.nt L (Pg.px L.length k)) rfl yb sz30 rfl rfl rfl (by first|rfl|assumption|omega|(rw [Er.iL_len];first|done|rfl|omega|exact List.length_range)|(simp;done)|(simp;omega)) rfl rfl (gD (d:=(0,0)) om) (fun b36 o37 hok38=> ?_)
           obtain ⟨hok38x,hok38y⟩:=hok38
           replace hok38x:=zq.1 hok38x
           replace hok38y:=zq.1 hok38y
           refine e_u 26 rfl rfl (zA (j:=0) 0 ty30 rfl rfl rfl (.t2 .nil))<|e_dm 27 rfl rfl rfl<|e_dm 28 rfl rfl rfl<|zca (x0:=(l.getD (Pg.nt L k) (0,0))) 29 rfl rfl kr kr 4 (Pg.nt L k) rfl yb sz30 rfl rfl rfl (by first|rfl|assumption|omega|(rw [Er.iL_len];first|done|rfl|omega|exact List.length_range)|(simp;done)|(simp;omega)) rfl rfl (gD (d:=(0,0)) om) (fun b39 o40 hok41=> ?_)
           obtain ⟨hok41x,hok41y⟩:=hok41
           replace hok41x:=zq.1 hok41x
           replace hok41y:=zq.1 hok41y
           refine e_u 30 rfl rfl (zA (j:=0) 0 ty30 rfl rfl rfl (.t2 .nil))<|e_dm 31 rfl rfl rfl<|e_dm 32 rfl rfl rfl<|zca (x0:=(l.getD (Pg.nt L (Pg.sx L.length k)) (0,0))) 33 rfl rfl kr kr 5 (Pg.nt L (Pg.sx L.length k)) rfl yb sz30 rfl rfl rfl (by first|rfl|assumption|omega|(rw [Er.iL_len];first|done|rfl|omega|exact List.length_range)|(simp;done)|(simp;omega)) rfl rfl (gD (d:=(0,0)) om) (fun b42 o43 hok44=> ?_)
           obtain ⟨hok44x,hok44y⟩:=hok44
           replace hok44x:=zq.1 hok44x
           replace hok44y:=zq.1 hok44y
           refine e_u 34 rfl rfl (zA (j:=0) 0 ty30 rfl rfl rfl (.t2 .nil))<|e_dm 35 rfl rfl rfl<|e_dm 36 rfl rfl rfl<|e_dm 37 rfl rfl rfl<|e_u 38 rfl rfl (zfa 1 j rfl yc sz3 rfl (by first|rfl|assumption|omega|(rw [Er.iL_len];first|done|rfl|omega|exact List.length_range)|(simp;done)|(simp;omega)) rfl rfl om)<|d_vl 39 rfl rfl kr kr rfl rfl (zZ 1 j rfl ty3 rfl rfl (gD (d:=0) om) rfl) (fun _ hok45=> ?_)
           replace hok45:=zq.1 hok45
           have e46:(((Er.iL L).getD j 0):Int)=(((Pg.nt L j):Nat):Int):=by exact Er.iL_get _ _
           rw [e46]
           refine zca (x0:=(l.getD (Pg.nt L j) (0,0))) 40 rfl rfl kr kr 6 (Pg.nt L j) rfl yb sz30 rfl rfl rfl (by first|rfl|assumption|omega|(rw [Er.iL_len];first|done|rfl|omega|exact List.length_range)|(simp;done)|(simp;omega)) rfl rfl (gD (d:=(0,0)) om) (fun b47 o48 hok49=> ?_)
           obtain ⟨hok49x,hok49y⟩:=hok49
           replace hok49x:=zq.1 hok49x
           replace hok49y:=zq.1 hok49y
           refine e_u 41 rfl rfl (zA (j:=0) 0 ty30 rfl rfl rfl (.t2 .nil))<|e_one 42 (zwa rfl rfl rfl rfl (.c rfl (.c rfl (.c rfl (.c rfl .n)))) ce36 (zWf (ex:=(l.getD (Pg.nt L (Pg.px L.length k)) (0,0)).1) (ey:=(l.getD (Pg.nt L (Pg.px L.length k)) (0,0)).2) (fx:=(l.getD (Pg.nt L k) (0,0)).1) (fy:=(l.getD (Pg.nt L k) (0,0)).2) (gx:=(l.getD (Pg.nt L (Pg.sx L.length k)) (0,0)).1) (gy:=(l.getD (Pg.nt L (Pg.sx L.length k)) (0,0)).2) (hx:=(l.getD (Pg.nt L j) (0,0)).1) (hy:=(l.getD (Pg.nt L j) (0,0)).2) (hre:=cbo) (hrf:=cbo) (hrg:=cbo) (hrh:=cbo)) (.n) ?_)
           refine e_pv 43 rfl rfl (zl rfl rfl)<|zX kr ?_
           exact zea () (show True from by first|trivial|omega|simp_all) ((.e rfl (congrArg Value.bool (by first|exact (decide_eq_false (fun h=>by have h1:=h.1;omega)).symm|exact (decide_eq_false (fun h=>by have h1:=h.2.1;omega)).symm|exact (decide_eq_false (fun h=>by have h1:=h.2.2.1;omega)).symm|exact decide_eq_decide.2 ⟨fun h=>⟨by omega,by omega,by omega,h⟩,fun h=>h.2.2.2⟩)) (.of rfl)):SubM _ _) (ho:=((.of [0,0] rfl):PickO _ _ _)) ((.of [4,5,6,7] rfl):SelR _ _ _)
          ·
           refine e_skip 23 rfl rfl<|e_skip 24 rfl rfl<|e_skip 25 rfl rfl<|e_skip 26 rfl rfl<|e_skip 27 rfl rfl<|e_skip 28 rfl rfl<|e_skip 29 rfl rfl<|e_skip 30 rfl rfl<|e_skip 31 rfl rfl<|e_skip 32 rfl rfl<|e_skip 33 rfl rfl<|e_skip 34 rfl rfl<|e_skip 35 rfl rfl<|e_skip 36 rfl rfl<|e_skip 37 rfl rfl<|e_skip 38 rfl rfl<|e_skip 39 rfl rfl<|e_skip 40 rfl rfl<|e_skip 41 rfl rfl<|e_skip 42 rfl rfl<|e_pv 43 rfl rfl (zl rfl rfl)<|zX kr ?_
           exact zea () (show True from by first|trivial|omega|simp_all) ((.e rfl (congrArg Value.bool (by first|exact (decide_eq_false (fun h=>by have h1:=h.1;omega)).symm|exact (decide_eq_false (fun h=>by have h1:=h.2.1;omega)).symm|exact (decide_eq_false (fun h=>by have h1:=h.2.2.1;omega)).symm|exact decide_eq_decide.2 ⟨fun h=>⟨by omega,by omega,by omega,h⟩,fun h=>h.2.2.2⟩)) (.of rfl)):SubM _ _) (ho:=((.of [0,0] rfl):PickO _ _ _)) ((.of [0,1,2,3] rfl):SelR _ _ _)
         ·
          refine e_skip 15 rfl rfl<|e_skip 16 rfl rfl<|e_skip 17 rfl rfl<|e_skip 18 rfl rfl<|e_skip 19 rfl rfl<|e_skip 20 rfl rfl<|e_pv 21 rfl rfl (zl rfl rfl)<|e_dm 22 rfl rfl rfl<|e_skip 23 rfl rfl<|e_skip 24 rfl rfl<|e_skip 25 rfl rfl<|e_skip 26 rfl rfl<|e_skip 27 rfl rfl<|e_skip 28 rfl rfl<|e_skip 29 rfl rfl<|e_skip 30 rfl rfl<|e_skip 31 rfl rfl<|e_skip 32 rfl rfl<|e_skip 33 rfl rfl<|e_skip 34 rfl rfl<|e_skip 35 rfl rfl<|e_skip 36 rfl rfl<|e_skip 37 rfl rfl<|e_skip 38 rfl rfl<|e_skip 39 rfl rfl<|e_skip 40 rfl rfl<|e_skip 41 rfl rfl<|e_skip 42 rfl rfl<|e_pv 43 rfl rfl (zl rfl rfl)<|zX kr ?_
          exact zea () (show True from by first|trivial|omega|simp_all) ((.e rfl (congrArg Value.bool (by first|exact (decide_eq_false (fun h=>by have h1:=h.1;omega)).symm|exact (decide_eq_false (fun h=>by have h1:=h.2.1;omega)).symm|exact (decide_eq_false (fun h=>by have h1:=h.2.2.1;omega)).symm|exact decide_eq_decide.2 ⟨fun h=>⟨by omega,by omega,by omega,h⟩,fun h=>h.2.2.2⟩)) (.of rfl)):SubM _ _) (ho:=((.of [0,0] rfl):PickO _ _ _)) ((.of [0,1,2,3] rfl):SelR _ _ _)
        ·
         refine e_skip 7 rfl rfl<|e_skip 8 rfl rfl<|e_skip 9 rfl rfl<|e_skip 10 rfl rfl<|e_skip 11 rfl rfl<|e_skip 12 rfl rfl<|e_pv 13 rfl rfl (zl rfl rfl)<|e_dm 14 rfl rfl rfl<|e_skip 15 rfl rfl<|e_skip 16 rfl rfl<|e_skip 17 rfl rfl<|e_skip 18 rfl rfl<|e_skip 19 rfl rfl<|e_skip 20 rfl rfl<|e_pv 21 rfl rfl (zl rfl rfl)<|e_dm 22 rfl rfl rfl<|e_skip 23 rfl rfl<|e_skip 24 rfl rfl<|e_skip 25 rfl rfl<|e_skip 26 rfl rfl<|e_skip 27 rfl rfl<|e_skip 28 rfl rfl<|e_skip 29 rfl rfl<|e_skip 30 rfl rfl<|e_skip 31 rfl rfl<|e_skip 32 rfl rfl<|e_skip 33 rfl rfl<|e_skip 34 rfl rfl<|e_skip 35 rfl rfl<|e_skip 36 rfl rfl<|e_skip 37 rfl rfl<|e_skip 38 rfl rfl<|e_skip 39 rfl rfl<|e_skip 40 rfl rfl<|e_skip 41 rfl rfl<|e_skip 42 rfl rfl<|e_pv 43 rfl rfl (zl rfl rfl)<|zX kr ?_
         exact zea () (show True from by first|trivial|omega|simp_all) ((.e rfl (congrArg Value.bool (by first|exact (decide_eq_false (fun h=>by have h1:=h.1;omega)).symm|exact (decide_eq_false (fun h=>by have h1:=h.2.1;omega)).symm|exact (decide_eq_false (fun h=>by have h1:=h.2.2.1;omega)).symm|exact decide_eq_decide.2 ⟨fun h=>⟨by omega,by omega,by omega,h⟩,fun h=>h.2.2.2⟩)) (.of rfl)):SubM _ _) (ho:=((.of [0,0] rfl):PickO _ _ _)) ((.of [0,1,2,3] rfl):SelR _ _ _)
       ·
        rintro ⟨⟩ -
        try dsimp only
        refine zG rfl (fun hfr=> ?_) (fun hfr=> ?_)
        ·
         refine za<|e_p (zb rfl)<|zh<|zP<|zd<|za<|e_mv rfl<|e_p (zI (z:=(((j+1):Nat):Int)) rfl rfl (w64 om))<|e_p (zb rfl)<|zh<|zha ((j+1),false) (show (j+1)≤L.length∧(false=true↔∀i,i<(j+1)→¬Er.fr l L k i) from by exact ⟨by omega,fun h=>(by cases h),fun h=>absurd hfr (h j om)⟩) (by show L.length - (j+1)<L.length - j;omega) ((.e rfl (by first|rfl|(congr 1;omega)|simp_all) (.of rfl)):SubM _ _) (ho:=((.of [0,0] rfl):PickO _ _ _)) ((.of [0,1,2,3] rfl):SelR _ _ _)
        ·
         refine zt<|zP<|zd<|za<|e_mv rfl<|e_p (zI (z:=(((j+1):Nat):Int)) rfl rfl (w64 om))<|e_p (zb rfl)<|zh<|zha ((j+1),fb) (show (j+1)≤L.length∧(fb=true↔∀i,i<(j+1)→¬Er.fr l L k i) from by exact ⟨by omega,fun h=>Ms.all_lt_succ (hJ.2.1 h) hfr,fun h=>hJ.2.2 (fun i hi=>h i om)⟩) (by show L.length - (j+1)<L.length - j;omega) ((.of rfl):SubM _ _) (ho:=((.of [0,0] rfl):PickO _ _ _)) ((.of [0,1,2,3] rfl):SelR _ _ _)
      ·
       refine zla<|zj<|zj<|zr<|zd<|zg<|za<|e_mv rfl<|zh<|zd<|zZa rfl (fun hfb=> ?_) (fun hfb=> ?_)
       ·
        refine zg<|za<|e_mv rfl<|e_p (zb rfl)<|zh<|zd<|za<|e_mv rfl<|e_mv rfl<|e_mv rfl<|e_mv rfl<|e_p (zsa zr50 rfl Tryz.underlying50 sz3 (.c rfl (.c rfl (.c rfl .n))) (.c rfl rfl rfl (.take .nil) (.c rfl rfl rfl (.skip (.take .nil)) (.c rfl rfl rfl (.s2 (.take .nil)) .n))))<|zIa rfl rfl (zT (enc:=fun z:Int×Int×Int=>[.int .i64 z.1,.int .i64 z.2.1,.int .i64 z.2.2]) (ok:=fun z=>InK .i64 z.1∧InK .i64 z.2.1∧InK .i64 z.2.2) (h1:=fun _=>rfl) (h2:=fun _=>rfl) (k:=1) ye inf50 rfl dd dd dd (.c (x:=((((Pg.nt L (Pg.px L.length k)):Nat):Int),(((Pg.nt L k):Nat):Int),(((Pg.nt L (Pg.sx L.length k)):Nat):Int))) rfl rfl (fun _ _=>by exact ⟨zq.2 (by first|omega|decide|(dsimp only;omega)),zq.2 (by first|omega|decide|(dsimp only;omega)),zq.2 (by first|omega|decide|(dsimp only;omega))⟩) .n)) (fun b50 _=> ?_)
        refine zma 0 rfl .z<|zLa 1 rfl rfl rfl (zra 0 rfl ye inf50 dd rfl rfl (by first|rfl|assumption|omega|(rw [Er.iL_len];first|done|rfl|omega|exact List.length_range)|(simp;done)|(simp;omega)) rfl (by first|rfl|assumption|omega|(rw [Er.iL_len];first|done|rfl|omega|exact List.length_range)|(simp;done)|(simp;omega)) om om) (fun _=>(.s .z)) ?_
        rintro ⟨p51,c52⟩ -
        dsimp only [aq,nq,cq]
        refine e_p (zb rfl)<|zh<|zP<|zd<|za<|e_mv rfl<|e_p (zI (z:=(((k+1):Nat):Int)) rfl rfl (w64 om))<|e_p (zb rfl)<|zh<|zha ((k+1),((k:Nat):Int),(o2++([((((Pg.nt L (Pg.px L.length k)):Nat):Int),(((Pg.nt L k):Nat):Int),(((Pg.nt L (Pg.sx L.length k)):Nat):Int))])),p51,c52) (show Er.Fd l L out (k+1) ((k:Nat):Int) (o2++([((((Pg.nt L (Pg.px L.length k)):Nat):Int),(((Pg.nt L k):Nat):Int),(((Pg.nt L (Pg.sx L.length k)):Nat):Int))])) from by exact hF.yes haz0 hkl ⟨Decidable.not_not.1 hsg,fun i h=>hJ.2.1 hfb i om⟩) (by show L.length - (k+1)<L.length - k;omega) ((.e rfl (by first|rfl|(congr 1;omega)|simp_all) (.of rfl)):SubM _ _) (ho:=((.of [1,1] rfl):PickO _ _ _)) ((.c (j:=4) rfl .n):SelR _ _ _)
       ·
        refine zt<|zP<|zd<|za<|e_mv rfl<|e_p (zI (z:=(((k+1):Nat):Int)) rfl rfl (w64 om))<|e_p (zb rfl)<|zh<|zha ((k+1),az,o2,p8,c8) (show Er.Fd l L out (k+1) az o2 from by exact hF.no haz0 hkl (fun h=>by have h9:=hJ.2.2 (fun i hi=>h.2 i om);rw [hfb] at h9;cases h9)) (by show L.length - (k+1)<L.length - k;omega) ((.of rfl):SubM _ _) (ho:=((.of [0,0] rfl):PickO _ _ _)) ((.c (j:=3) rfl .n):SelR _ _ _)
    ·
     refine zla<|zj<|zj<|zr<|zd<|zg ?_
     obtain ⟨i,hi,haz,hE,hmin,ho2⟩:=hF.fin hdb hO.r om (fun h=>hgo ⟨by omega,h.2⟩)
     have e53:(az:Int)=((i:Nat):Int):=by exact haz
     rw [e53]
     refine za<|zIa rfl rfl (zta (rI .i64) yc inf3) (fun b54 _=> ?_)
     refine e_p (zb rfl)<|zh<|zd<|zg<|zg<|za<|e_p (zb rfl)<|zh<|zd<|zv<|zqa (X:=Nat×(Option Addr)×Nat) (fun x:Nat×(Option Addr)×Nat=>x.1≤L.length) (fun x=>[(15,.slice (x.2.1) ((Er.ern L i x.1).length) (x.2.2)),(16,.int .i64 ((x.1:Nat):Int)),(7,.slice p8 (o2.length) c8),(8,.int .i64 ((i:Nat):Int)),(5,.slice p5 (L.length) c5),(3,.int .i64 (Pg.db l)),(0,.slice p n cap)]) (fun x=>[rowA 3 (rI .i64) (x.2.1) (x.2.2) (Er.iL (Er.ern L i x.1)),rowA 50 (rI3 .i64) p8 c8 o2,rowA 3 (rI .i64) p5 c5 (Er.iL L)]) (fun x=>[slF (rI2 .i64) p cap l]) (fun x:Nat×(Option Addr)×Nat=>L.length - x.1) (0,some ⟨b54,0,none⟩,0) (show 0≤L.length from by exact Nat.zero_le _) ((.e rfl (by first|rfl|(congr 1;omega)|simp_all) (.e rfl (by first|rfl|(congr 1;omega)|simp_all) (.of rfl))):SubM _ _) (ho:=((.e (i:=0) rfl (by first|rfl|(congr 1;omega)|simp_all) (.of [0,0] rfl)):PickO _ _ _)) ((.c (j:=0) rfl .n):SelR _ _ _) ?_
     rintro ⟨j,p9,c9⟩ hK
     replace hK:j≤L.length:=hK
     try dsimp only
     have hel:=Er.ern_len (L:=L) (i:=i) (j:=j)
     have hL64:=hO.r.n64
     refine zg<|zg<|za<|e_mv rfl<|e_mv rfl<|e_p (zQ yc rfl)<|e_p (zaa rfl rfl)<|zh<|zd<|zG rfl (fun h55=> ?_) (fun h55=> ?_)
     ·
      refine zt<|zd<|zg<|zv<|zg<|za<|e_mv rfl<|e_mv rfl<|e_p (zQa rfl rfl)<|zh<|zd<|zG rfl (fun hji=> ?_) (fun hji=> ?_)
      ·
       refine za<|e_mv rfl<|e_mv rfl<|e_mv rfl<|e_ru (zfa 2 j rfl yc sz3 rfl (by first|rfl|assumption|omega|(rw [Er.iL_len];first|done|rfl|omega|exact List.length_range)|(simp;done)|(simp;omega)) rfl rfl om)<|r_vl rfl rfl (zZ 2 j rfl ty3 rfl rfl (gD (d:=0) om) rfl) (fun _ hok56=> ?_)
       replace hok56:=zq.1 hok56
       have e57:(((Er.iL L).getD j 0):Int)=(((Pg.nt L j):Nat):Int):=by exact Er.iL_get _ _
       rw [e57]
       refine zIa rfl rfl (zT (enc:=fun z:Int=>[.int .i64 z]) (ok:=InK .i64) (h1:=fun _=>rfl) (h2:=fun _=>rfl) (k:=1) yc inf3 rfl dd dd dd (.c (x:=(((Pg.nt L j):Nat):Int)) rfl rfl (fun _ _=>by exact zq.2 om) .n)) (fun b58 _=> ?_)
       refine zma 0 rfl .z<|zLa 1 rfl rfl rfl (zra 0 rfl yc inf3 dd rfl rfl (by first|rfl|assumption|omega|(rw [Er.iL_len];first|done|rfl|omega|exact List.length_range)|(simp;done)|(simp;omega)) rfl (by first|rfl|assumption|omega|(rw [Er.iL_len];first|done|rfl|omega|exact List.length_range)|(simp;done)|(simp;omega)) om om) (fun _=>(.s .z)) ?_
       rintro ⟨p59,c60⟩ -
       dsimp only [aq,nq,cq]
       refine e_p (zb rfl)<|zh<|zP<|zd<|za<|e_mv rfl<|e_p (zI (z:=(((j+1):Nat):Int)) rfl rfl (w64 om))<|e_p (zb rfl)<|zh<|zha ((j+1),p59,c60) (show (j+1)≤L.length from by show j+1≤L.length;omega) (by show L.length - (j+1)<L.length - j;omega) ((.e rfl (by first|rfl|(rw [Er.ern_ne om om,List.length_append];rfl)) (.of rfl)):SubM _ _) (ho:=((.e (i:=1) rfl (by first|rfl|(rw [Er.ern_ni om om])) (.of [1,1] rfl)):PickO _ _ _)) ((.c (j:=1) rfl .n):SelR _ _ _)
      ·
       refine zt<|zP<|zd<|za<|e_mv rfl<|e_p (zI (z:=(((j+1):Nat):Int)) rfl rfl (w64 om))<|e_p (zb rfl)<|zh<|zha ((j+1),p9,c9) (show (j+1)≤L.length from by show j+1≤L.length;omega) (by show L.length - (j+1)<L.length - j;omega) ((.e rfl (by first|rfl|(rw [show j=i by omega,Er.ern_eq om])) (.of rfl)):SubM _ _) (ho:=((.e (i:=0) rfl (by first|rfl|(rw [show j=i by omega,Er.ern_eq om])) (.of [0,0] rfl)):PickO _ _ _)) ((.c (j:=0) rfl .n):SelR _ _ _)
     ·
      refine zla<|zj<|zj<|zr<|zd<|zg ?_
      have e61:(Er.ern L i j)=(L.eraseIdx i):=by exact Er.ern_all om
      rw [e61]
      refine za<|e_mv rfl<|e_p (zb rfl)<|zh<|zd<|zg<|za<|e_mv rfl<|e_p (zaa rfl rfl)<|zh<|zd<|zG rfl (fun hlt=> ?_) (fun hlt=> ?_)
      ·
       exact absurd hlt om
      ·
       refine zt<|zP<|zha ((L.eraseIdx i),p9,c9,o2,p8,c8) (show Er.Oe n l (L.eraseIdx i) o2 from by exact hO.step om hi hE hmin ho2) (by show (L.eraseIdx i).length<L.length;rw [List.length_eraseIdx,if_pos hi];omega) ((.of rfl):SubM _ _) (ho:=((.of [1,0] rfl):PickO _ _ _)) ((.c (j:=0) rfl .n):SelR _ _ _)
  ·
   refine zla<|zj<|zj<|zr<|zd<|zg ?_
   have hL3:L.length=3:=by have:=hO.n3;omega
   have hoo:=hO.o
   refine zba (OW:=[rowA 50 (rI3 .i64) p7 c7 out]) (O:=[rowA 3 (rI .i64) p5 c5 (Er.iL L)]) 12 mixed (.then .ret) kr<|e_dm 0 rfl rfl rfl<|e_dm 1 rfl rfl rfl<|e_uw 2 rfl rfl (zfa 1 0 rfl yc sz3 rfl (by first|rfl|assumption|omega|(rw [Er.iL_len];first|done|rfl|omega|exact List.length_range)|(simp;done)|(simp;omega)) rfl rfl om)<|zOf 3 rfl rfl kr kr kr rfl rfl (zZ 1 0 rfl ty3 rfl rfl (gD (d:=0) om) rfl) (fun _ hok62=> ?_)
   replace hok62:=zq.1 hok62
   have e63:(((Er.iL L).getD 0 0):Int)=(((Pg.nt L 0):Nat):Int):=by exact Er.iL_get _ _
   rw [e63]
   refine e_dm 4 rfl rfl rfl<|e_uw 5 rfl rfl (zfa 1 1 rfl yc sz3 rfl (by first|rfl|assumption|omega|(rw [Er.iL_len];first|done|rfl|omega|exact List.length_range)|(simp;done)|(simp;omega)) rfl rfl om)<|zOf 6 rfl rfl kr kr kr rfl rfl (zZ 1 1 rfl ty3 rfl rfl (gD (d:=0) om) rfl) (fun _ hok64=> ?_)
   replace hok64:=zq.1 hok64
   have e65:(((Er.iL L).getD 1 0):Int)=(((Pg.nt L 1):Nat):Int):=by exact Er.iL_get _ _
   rw [e65]
   refine e_dm 7 rfl rfl rfl<|e_uw 8 rfl rfl (zfa 1 2 rfl yc sz3 rfl (by first|rfl|assumption|omega|(rw [Er.iL_len];first|done|rfl|omega|exact List.length_range)|(simp;done)|(simp;omega)) rfl rfl om)<|zOf 9 rfl rfl kr kr kr rfl rfl (zZ 1 2 rfl ty3 rfl rfl (gD (d:=0) om) rfl) (fun _ hok66=> ?_)
   replace hok66:=zq.1 hok66
   have e67:(((Er.iL L).getD 2 0):Int)=(((Pg.nt L 2):Nat):Int):=by exact Er.iL_get _ _
   rw [e67]
   refine e_pv 10 rfl rfl (zsa zr50 rfl Tryz.underlying50 sz3 (.c rfl (.c rfl (.c rfl .n))) (.c rfl rfl rfl (.take .nil) (.c rfl rfl rfl (.skip (.take .nil)) (.c rfl rfl rfl (.s2 (.take .nil)) .n))))<|e_one 11 (zTd rfl rfl rfl rfl (zT (enc:=fun z:Int×Int×Int=>[.int .i64 z.1,.int .i64 z.2.1,.int .i64 z.2.2]) (ok:=fun z=>InK .i64 z.1∧InK .i64 z.2.1∧InK .i64 z.2.2) (h1:=fun _=>rfl) (h2:=fun _=>rfl) (k:=1) ye inf50 rfl dd dd dd (.c (x:=((((Pg.nt L 0):Nat):Int),(((Pg.nt L 1):Nat):Int),(((Pg.nt L 2):Nat):Int))) rfl rfl (fun _ _=>by exact ⟨zq.2 (by first|omega|decide|(dsimp only;omega)),zq.2 (by first|omega|decide|(dsimp only;omega)),zq.2 (by first|omega|decide|(dsimp only;omega))⟩) .n)) (fun b68 _=> ?_))
   refine zCb 0 rfl .z<|e_one 12 (znd (A':=fun v:Option Addr×Nat=>rowA 50 (rI3 .i64) v.1 v.2 (out++([((((Pg.nt L 0):Nat):Int),(((Pg.nt L 1):Nat):Int),(((Pg.nt L 2):Nat):Int))]))) kr rfl rfl rfl (zra 0 rfl ye inf50 dd rfl rfl (by first|rfl|assumption|omega|(rw [Er.iL_len];first|done|rfl|omega|exact List.length_range)|(simp;done)|(simp;omega)) rfl (by first|rfl|assumption|omega|(rw [Er.iL_len];first|done|rfl|omega|exact List.length_range)|(simp;done)|(simp;omega)) om om) ?_)
   rintro ⟨p69,c70⟩ -
   dsimp only [aq,nq,cq]
   refine e_pv 13 rfl rfl (zb rfl)<|zX kr<|zd<|zK ?_
   have e71:((out++([((((Pg.nt L 0):Nat):Int),(((Pg.nt L 1):Nat):Int),(((Pg.nt L 2):Nat):Int))])):List Pg.T3)=(Pg.erV l):=by exact (hO.fin hz hL3).symm
   rw [e71]
   exact zx Tryz.results33 (p69,c70) trivial (zk rfl) (by rw [hO.fin hz hL3,List.length_append];rfl) (ho:=((.c (i:=0) rfl .n):PickO _ _ _)) (.n:SelR _ _ _)
end Go.Proofs.YtjcpbhlijoigfaaGreat.Sp
namespace Go.Proofs.YtjcpbhlijoigfaaGreat.Sp
open Go
set_option linter.unusedVariables false
set_option maxRecDepth 100000
set_option maxHeartbeats 8000000
theorem zug {p:Option Addr} {n:Nat} {cap:Nat} {l:List Pg.P2} {ex:Int} {ey:Int} (hn:l.length=n):Con yd 90 [.slice p n cap,.agg #[.int .i64 ex,.int .i64 ey]] [] [slF (rI2 .i64) p cap l] (Y:=Int) (fun y=>(0≤y↔(ex,ey)∈l)) (fun y=> .int .i64 y) (fun y=>[]) (fun y=>[]):=by
 refine zn Tryz.func90 rfl rfl rfl (fun c=> ?_)
 show RunC _ _ _ _ _ [(0,.slice p n cap),(1,.agg #[.int .i64 ex,.int .i64 ey])] [] [slF (rI2 .i64) p cap l]
 refine zia 0 rfl (fun hL0=> ?_)
 refine zg<|za<|zO rfl rfl (zS rfl rfl) (fun b1=> ?_)
 refine e_p (zb rfl)<|zh<|zd<|zg<|zg<|za<|e_mv rfl<|e_p (zQ yb rfl)<|e_mv rfl<|zh<|zd<|zv<|zqa (X:=Nat) (fun x:Nat=>x≤n∧∀j,j<x→¬((ex,ey)=(l.getD j (0,0)))) (fun x=>[(8,.int .i64 ((x:Nat):Int)),(7,.int .i64 ((n:Nat):Int)),(3,.pointer (some ⟨b1,0,none⟩)),(0,.slice p n cap)]) (fun x=>[boxA b1 30 [.int .i64 ex,.int .i64 ey]]) (fun x=>[slF (rI2 .i64) p cap l]) (fun x:Nat=>n - x) 0 (show 0≤n∧∀j,j<0→¬((ex,ey)=(l.getD j (0,0))) from by exact ⟨Nat.zero_le _,fun j h=>by omega⟩) ((.e rfl (by first|rfl|(congr 1;omega)|simp_all) (.of rfl)):SubM _ _) (ho:=((.c (i:=0) rfl .n):PickO _ _ _)) ((.c (j:=0) rfl .n):SelR _ _ _) ?_
 rintro i hI
 replace hI:i≤n∧∀j,j<i→¬((ex,ey)=(l.getD j (0,0))):=hI
 try dsimp only
 obtain ⟨hi,hall⟩:=hI
 refine zg<|za<|e_p (zaa rfl rfl)<|zh<|zd<|zg<|zG rfl (fun h2=> ?_) (fun h2=> ?_)
 ·
  refine zt<|zd<|zg<|zv<|zg<|za<|e_mv rfl<|e_p (zb rfl)<|zh<|zd<|zg<|zba (OW:=[]) (O:=[boxA b1 30 [.int .i64 ex,.int .i64 ey]]) 100000 mixed (.then (.block (.then (.then (.block (.then .ret)))))) kr<|e_u 0 rfl rfl (zc 0 ty30 rfl rfl (.t2 .nil))<|e_dm 1 rfl rfl rfl<|e_dm 2 rfl rfl rfl<|zca (x0:=(l.getD i (0,0))) 3 rfl rfl kr kr 0 i rfl yb sz30 rfl rfl rfl cbs rfl rfl (gD (d:=(0,0)) om) (fun b3 o4 hok5=> ?_)
  obtain ⟨hok5x,hok5y⟩:=hok5
  replace hok5x:=zq.1 hok5x
  replace hok5y:=zq.1 hok5y
  refine e_u 4 rfl rfl (zA (j:=0) 0 ty30 rfl rfl rfl (.t2 .nil))<|e_pv 5 rfl rfl (zHe (p:=ex=(l.getD i (0,0)).1∧ey=(l.getD i (0,0)).2) kr rfl rfl (zGe ya kr (zdf dd ty3 rfl rfl (zLc Tryz.underlying3) (zdf dd ty3 rfl rfl (zLc Tryz.underlying3) zpg))) (by simp [Bool.decide_and]))<|zX kr<|zd<|zG rfl (fun hb=> ?_) (fun hb=> ?_)
  ·
   refine zg<|za<|e_mv rfl<|e_p (zb rfl)<|zh<|zd<|zK<|zm<|zi<|zi<|zm<|zi ?_
   exact zx Tryz.results90 ((i:Nat):Int) (⟨fun _=>by have h9:(ex,ey)=(l.getD i (0,0)):=(by first|exact hb|exact Prod.ext hb.1 hb.2);rw [h9];exact Ms.getD_mem (0,0) om,fun _=>by omega⟩) (zk rfl) rfl (ho:=(.n:PickO _ _ _)) (.n:SelR _ _ _)
  ·
   refine zt<|zP<|zd<|za<|e_p (zI (z:=(((i+1):Nat):Int)) rfl rfl (w64 om))<|e_mv rfl<|zh<|zha (i+1) (show (i+1)≤n∧∀j,j<(i+1)→¬((ex,ey)=(l.getD j (0,0))) from by exact ⟨by omega,Ms.all_lt_succ (P:=fun j=>¬((ex,ey)=(l.getD j (0,0)))) hall (fun k=>hb (by first|exact k|exact ⟨congrArg Prod.fst k,congrArg Prod.snd k⟩))⟩) (by show n - (i+1)<n - i;omega) ((.of rfl):SubM _ _) (ho:=((.c (i:=0) rfl .n):PickO _ _ _)) ((.c (j:=1) rfl .n):SelR _ _ _)
 ·
  refine zla<|zj<|zj<|zr<|zd<|zg<|za<|e_p (zb rfl)<|zh<|zd<|zK ?_
  exact zx Tryz.results90 (-1) (⟨fun h=>by omega,fun h=>by obtain ⟨j,h1,h2⟩:=Ms.mem_getD (0,0) h;exact absurd h2.symm (hall j om)⟩) (zk rfl) rfl (ho:=(.n:PickO _ _ _)) (.n:SelR _ _ _)
theorem zvg {p:Option Addr} {n:Nat} {cap:Nat} {l:List Pg.P2} {ex:Int} {ey:Int} (hn:l.length=n):Con yd 49 [.slice p n cap,.agg #[.int .i64 ex,.int .i64 ey]] [] [slF (rI2 .i64) p cap l] (Y:=Unit) (fun y=>True) (fun y=> .bool (decide ((ex,ey)∈l))) (fun y=>[]) (fun y=>[]):=by
 refine zn Tryz.func49 rfl rfl rfl (fun c=> ?_)
 show RunC _ _ _ _ _ [(0,.slice p n cap),(1,.agg #[.int .i64 ex,.int .i64 ey])] [] [slF (rI2 .i64) p cap l]
 refine zia 0 rfl (fun hL0=> ?_)
 refine zg<|za<|zO rfl rfl (zS rfl rfl) (fun b1=> ?_)
 refine e_p (zb rfl)<|zh<|zd<|zg<|za<|e_mv rfl<|e_ru (zc 0 ty30 rfl rfl (.t2 .nil))<|zJ rfl rfl (.c rfl (.c rfl .n)) ce90 (zug (p:=p) (n:=n) (cap:=cap) (l:=l) (ex:=ex) (ey:=ey) (hn:=ass)) (.c (j:=0) rfl .n) ?_
 rintro r2 hr
 dsimp only [aq,nq,cq]
 replace hr:(0≤r2↔(ex,ey)∈l):=hr
 refine e_p (zGa rfl rfl)<|e_p (zb rfl)<|zh<|zd<|zK ?_
 exact zx Tryz.results49 () trivial (zk rfl) (congrArg Value.bool (decide_eq_decide.2 hr.symm)) (ho:=(.n:PickO _ _ _)) (.n:SelR _ _ _)
theorem zxf {p:Option Addr} {n:Nat} {cap:Nat} {l:List (Pg.P2)} (hn:l.length=n):Con yd 89 [.slice p n cap,.func (.func 46) #[] #[]] [] [slF (rI2 .i64) p cap l] (Y:=Int) (fun y=>(0≤y↔l.any Pg.far=true)) (fun y=> .int .i64 y) (fun y=>[]) (fun y=>[]):=by
 refine zn Tryz.func89 rfl rfl rfl (fun c=> ?_)
 show RunC _ _ _ _ _ [(0,.slice p n cap),(1,.func (.func 46) #[] #[])] [] [slF (rI2 .i64) p cap l]
 refine zia 0 rfl (fun hL0=> ?_)
 refine zg<|za<|e_p (zb rfl)<|zh<|zd<|zg<|zg<|za<|e_mv rfl<|e_p (zQ yb rfl)<|e_mv rfl<|zh<|zd<|zv<|zqa (X:=Nat) (fun x:Nat=>x≤n∧∀j,j<x→Pg.far (l.getD j (0,0))=false) (fun x=>[(8,.int .i64 ((x:Nat):Int)),(7,.int .i64 ((n:Nat):Int)),(0,.slice p n cap),(1,.func (.func 46) #[] #[])]) (fun x=>[]) (fun x=>[slF (rI2 .i64) p cap l]) (fun x:Nat=>n - x) 0 (show 0≤n∧∀j,j<0→Pg.far (l.getD j (0,0))=false from by exact ⟨by omega,fun j h=>by omega⟩) ((.e rfl (by first|rfl|(congr 1;omega)|simp_all) (.of rfl)):SubM _ _) (ho:=(.n:PickO _ _ _)) ((.c (j:=0) rfl .n):SelR _ _ _) ?_
 rintro i hI
 replace hI:i≤n∧∀j,j<i→Pg.far (l.getD j (0,0))=false:=hI
 try dsimp only
 obtain ⟨hi,hall⟩:=hI
 refine zg<|za<|e_p (zaa rfl rfl)<|zh<|zd<|zg<|zG rfl (fun h1=> ?_) (fun h1=> ?_)
 ·
  refine zt<|zd<|zg<|zv<|zg<|za<|e_mv rfl<|e_p (zb rfl)<|zh<|zd<|zg<|za<|e_mv rfl<|e_mv rfl<|e_mv rfl<|zY (x0:=(l.getD i (0,0))) 0 i rfl yb sz30 rfl rfl rfl cbs rfl rfl (gD (d:=(0,0)) om) (fun b2 o3 hok4=> ?_)
  obtain ⟨hok4x,hok4y⟩:=hok4
  replace hok4x:=zq.1 hok4x
  replace hok4y:=zq.1 hok4y
  refine e_ru (zA (j:=0) 0 ty30 rfl rfl rfl (.t2 .nil))<|zBc (first:=[]) (cap:=[]) rfl rfl rfl (.c rfl .n) ce46 (zkc (ex:=(l.getD i (0,0)).1) (ey:=(l.getD i (0,0)).2) (hwex:=cbb) (hwey:=cbb)) (.n) ?_
  rintro ⟨⟩ -
  dsimp only [aq,nq,cq]
  refine zh<|zd<|zZa rfl (fun hb=> ?_) (fun hb=> ?_)
  ·
   refine zg<|za<|e_mv rfl<|e_p (zb rfl)<|zh<|zd<|zK<|zm<|zi<|zi<|zm<|zi ?_
   exact zx Tryz.results89 ((i:Nat):Int) (⟨fun _=>Ms.any_true (0,0) (i:=i) om (by first|exact hb|simpa using hb),fun _=>by omega⟩) (zk rfl) rfl (ho:=(.n:PickO _ _ _)) (.n:SelR _ _ _)
  ·
   refine zt<|zP<|zd<|za<|e_p (zI (z:=(((i+1):Nat):Int)) rfl rfl (w64 om))<|e_mv rfl<|zh<|zha (i+1) (show (i+1)≤n∧∀j,j<(i+1)→Pg.far (l.getD j (0,0))=false from by exact ⟨by omega,Ms.all_lt_succ hall (by first|exact hb|simpa using hb)⟩) (by show n - (i+1)<n - i;omega) ((.of rfl):SubM _ _) (ho:=(.n:PickO _ _ _)) ((.c (j:=1) rfl .n):SelR _ _ _)
 ·
  refine zla<|zj<|zj<|zr<|zd<|zg<|za<|e_p (zb rfl)<|zh<|zd<|zK ?_
  exact zx Tryz.results89 (-1) (⟨fun h=>by omega,fun h=>by rw [Ms.any_false (0,0) (fun j hj=>hall j om)] at h;cases h⟩) (zk rfl) rfl (ho:=(.n:PickO _ _ _)) (.n:SelR _ _ _)
theorem zyf {p:Option Addr} {n:Nat} {cap:Nat} {l:List (Pg.P2)} (hn:l.length=n):Con yd 45 [.slice p n cap,.func (.func 46) #[] #[]] [] [slF (rI2 .i64) p cap l] (Y:=Unit) (fun y=>True) (fun y=> .bool (l.any Pg.far)) (fun y=>[]) (fun y=>[]):=by
 refine zn Tryz.func45 rfl rfl rfl (fun c=> ?_)
 show RunC _ _ _ _ _ [(0,.slice p n cap),(1,.func (.func 46) #[] #[])] [] [slF (rI2 .i64) p cap l]
 refine zia 0 rfl (fun hL0=> ?_)
 refine zg<|za<|e_p (zb rfl)<|zh<|zd<|zg<|za<|e_mv rfl<|e_mv rfl<|zJ rfl rfl (.c rfl (.c rfl .n)) ce89 (zxf (p:=p) (n:=n) (cap:=cap) (l:=l) (hn:=ass)) (.c (j:=0) rfl .n) ?_
 rintro r1 hr
 dsimp only [aq,nq,cq]
 replace hr:(0≤r1↔l.any Pg.far=true):=hr
 refine e_p (zGa rfl rfl)<|e_p (zb rfl)<|zh<|zd<|zK ?_
 exact zx Tryz.results45 () trivial (zk rfl) (congrArg Value.bool (by rw [Bool.eq_iff_iff,decide_eq_true_iff];exact hr.symm)) (ho:=(.n:PickO _ _ _)) (.n:SelR _ _ _)
end Go.Proofs.YtjcpbhlijoigfaaGreat.Sp
namespace Go.Proofs.YtjcpbhlijoigfaaGreat.Sp
open Go
set_option linter.unusedVariables false
set_option maxRecDepth 100000
set_option maxHeartbeats 8000000
theorem zlc {p:Option Addr} {n:Nat} {cap:Nat} {l:List Pg.P2} (hn:l.length=n):Con yd 15 [.slice p n cap] [] [slF (rI2 .i64) p cap l] (Y:=Unit) (fun y=>True) (fun y=> .int .i64 (Pg.ck l)) (fun y=>[]) (fun y=>[]):=by
 refine zn Tryz.func15 rfl rfl rfl (fun c=> ?_)
 show RunC _ _ _ _ _ [(0,.slice p n cap)] [] [slF (rI2 .i64) p cap l]
 refine zia 0 rfl (fun hL0=> ?_)
 refine zg<|za<|e_p (zb rfl)<|zh<|zd<|zg<|za<|e_mv rfl<|e_p (zQ yb rfl)<|e_p (zb rfl)<|zh<|zd<|zg<|zFa (X:=Unit) (fun x=>True) (fun x=>[(18,.bool (decide ((((n:Nat):Int)<3)∨(64<((n:Nat):Int))))),(3,.int .i64 ((n:Nat):Int)),(2,.int .i64 0),(0,.slice p n cap)]) (fun x=>[]) (fun x=>[slF (rI2 .i64) p cap l]) ?_ ?_
 ·
  refine za<|e_mv rfl<|e_p (zaa rfl rfl)<|zW rfl rfl (zV rfl) (fun h1=> ?_) (fun h1=> ?_)
  ·
   refine e_no<|e_no<|e_p (zl rfl rfl)<|zh ?_
   exact zea () (show True from by first|trivial|omega|simp_all) ((.e rfl (congrArg Value.bool cbu) (.of rfl)):SubM _ _) (ho:=(.n:PickO _ _ _)) ((.c (j:=0) rfl .n):SelR _ _ _)
  ·
   refine e_mv rfl<|e_p (zBa rfl rfl)<|e_p (zl rfl rfl)<|zh ?_
   exact zea () (show True from by first|trivial|omega|simp_all) ((.e rfl (congrArg Value.bool cbu) (.of rfl)):SubM _ _) (ho:=(.n:PickO _ _ _)) ((.c (j:=0) rfl .n):SelR _ _ _)
 ·
  rintro ⟨⟩ -
  try dsimp only
  refine zG rfl (fun hlim=> ?_) (fun hlim=> ?_)
  ·
   refine zg<|za<|e_p (zb rfl)<|zh<|zd<|zK<|zi ?_
   exact zx yf () trivial (zk rfl) (by rw [Pg.ck_lim om]) (ho:=(.n:PickO _ _ _)) (.n:SelR _ _ _)
  ·
   have hlm:¬(l.length<3∨64<l.length):=by omega
   refine zt<|zd<|zg<|zg<|za<|e_mv rfl<|e_p (zQ yb rfl)<|e_mv rfl<|zh<|zd<|zv<|zqa (X:=Nat) (fun x:Nat=>x≤n∧Pg.ck1 (l.take x) (l.drop x)=Pg.ck1 [] l) (fun x=>[(21,.int .i64 ((x:Nat):Int)),(20,.int .i64 ((n:Nat):Int)),(19,.slice p n cap),(3,.int .i64 ((n:Nat):Int)),(0,.slice p n cap)]) (fun x=>[]) (fun x=>[slF (rI2 .i64) p cap l]) (fun x:Nat=>n - x) 0 (show 0≤n∧Pg.ck1 (l.take 0) (l.drop 0)=Pg.ck1 [] l from by exact ⟨Nat.zero_le _,rfl⟩) ((.e rfl (by first|rfl|(congr 1;omega)|simp_all) (.of rfl)):SubM _ _) (ho:=(.n:PickO _ _ _)) ((.c (j:=0) rfl .n):SelR _ _ _) ?_
   rintro i hI
   replace hI:i≤n∧Pg.ck1 (l.take i) (l.drop i)=Pg.ck1 [] l:=hI
   try dsimp only
   obtain ⟨hi,hck⟩:=hI
   refine zg<|za<|e_p (zaa rfl rfl)<|zh<|zd<|zg<|zG rfl (fun h2=> ?_) (fun h2=> ?_)
   ·
    have hnp:0<n:=by omega
    have hg64: -9223372036854775808≤0:=by omega
    refine zt<|zd<|zg<|zv<|zg<|za<|e_mv rfl<|zY (x0:=(l.getD i (0,0))) 0 i rfl yb sz30 rfl rfl rfl cbs rfl rfl (gD (d:=(0,0)) om) (fun b3 o4 hok5=> ?_)
    obtain ⟨hok5x,hok5y⟩:=hok5
    replace hok5x:=zq.1 hok5x
    replace hok5y:=zq.1 hok5y
    refine e_ru (zA (j:=0) 0 ty30 rfl rfl rfl (.t2 .nil))<|zO rfl rfl (zp zr30 rfl) (fun b6=> ?_)
    refine e_p (zb rfl)<|zo 0 rfl rfl rfl rfl rfl sz30 rfl (.t2 .nil) .z<|zh<|zd<|zg<|zg<|za<|e_ru (zc 0 ty30 rfl rfl (.t2 .nil))<|zN rfl rfl (.c rfl .n) ce46 (zkc (ex:=(l.getD i (0,0)).1) (ey:=(l.getD i (0,0)).2) (hwex:=cbo) (hwey:=cbo)) (.n)<|zh<|zd<|zZa rfl (fun hfar=> ?_) (fun hfar=> ?_)
    ·
     refine zg<|za<|e_p (zb rfl)<|zh<|zd<|zK<|zi<|zm<|zi<|zi<|zm<|zi ?_
     exact zx yf () trivial (zk rfl) (by rw [Pg.ck_one hlm (by rw [← hck,Pg.ck1_far om hfar];decide),←hck,Pg.ck1_far om hfar]) (ho:=(.n:PickO _ _ _)) (.n:SelR _ _ _)
    ·
     refine zt<|zd<|zg<|zba (OW:=[]) (O:=[boxA b6 30 [.int .i64 ((l.getD i (0,0)).1),.int .i64 ((l.getD i (0,0)).2)]]) 100000 mixed (.then (.block (.then (.then (.block (.then .ret)))))) kr<|e_dm 0 rfl rfl rfl<|e_dm 1 rfl rfl rfl<|e_pv 2 rfl rfl (zyb (hi:=i) yb sz30 rfl (.s rfl) (.inr ⟨_,rfl⟩) om)<|zKb (zfc 1 rfl i om) (fun _ _=> ?_)
     refine e_u 3 rfl rfl (zc 0 ty30 rfl rfl (.t2 .nil))<|e_one 4 (zwa rfl rfl rfl rfl (.c rfl (.c rfl .n)) ce49 (zvg (p:=p) (n:=i) (cap:=cap) (l:=(l.take i)) (ex:=(l.getD i (0,0)).1) (ey:=(l.getD i (0,0)).2) (hn:=by first|rfl|assumption|(rw [List.length_take];omega))) (.c (j:=0) rfl .n) ?_)
     refine zX kr<|zd<|zG rfl (fun hdup=> ?_) (fun hdup=> ?_)
     ·
      refine zg<|za<|e_p (zb rfl)<|zh<|zd<|zK<|zm<|zi<|zi<|zm<|zi ?_
      exact zx yf () trivial (zk rfl) (by rw [Pg.ck_one hlm (by rw [← hck,Pg.ck1_dup om hfar hdup];decide),←hck,Pg.ck1_dup om hfar hdup]) (ho:=(.n:PickO _ _ _)) (.n:SelR _ _ _)
     ·
      refine zt<|zP<|zd<|za<|e_p (zI (z:=(((i+1):Nat):Int)) rfl rfl (w64 om))<|e_mv rfl<|zh<|zha (i+1) (show (i+1)≤n∧Pg.ck1 (l.take (i+1)) (l.drop (i+1))=Pg.ck1 [] l from by exact ⟨by omega,(Pg.ck1_go om hfar hdup).trans hck⟩) (by show n - (i+1)<n - i;omega) ((.of rfl):SubM _ _) (ho:=(.n:PickO _ _ _)) ((.c (j:=2) rfl .n):SelR _ _ _)
   ·
    have hz1:Pg.ck1 [] l=0:=by rw [← hck];exact Pg.ck1_end om
    have hrng:=Pg.ck1_zero hz1
    refine zla<|zj<|zj<|zr<|zd<|zg<|zg<|za<|e_mv rfl<|e_p (zQ yb rfl)<|e_mv rfl<|zh<|zd<|zv<|zqa (X:=Nat) (fun x:Nat=>x≤n∧∀w,w<x→Pg.smI n l w) (fun x=>[(36,.int .i64 ((x:Nat):Int)),(35,.int .i64 ((n:Nat):Int)),(3,.int .i64 ((n:Nat):Int)),(0,.slice p n cap)]) (fun x=>[]) (fun x=>[slF (rI2 .i64) p cap l]) (fun x:Nat=>n - x) 0 (show 0≤n∧∀w,w<0→Pg.smI n l w from by exact ⟨Nat.zero_le _,fun w h=>by omega⟩) ((.e rfl (by first|rfl|(congr 1;omega)|simp_all) (.of rfl)):SubM _ _) (ho:=(.n:PickO _ _ _)) ((.c (j:=0) rfl .n):SelR _ _ _) ?_
    rintro k hI
    replace hI:k≤n∧∀w,w<k→Pg.smI n l w:=hI
    try dsimp only
    obtain ⟨hk,hall⟩:=hI
    refine zg<|za<|e_p (zaa rfl rfl)<|zh<|zd<|zg<|zG rfl (fun h7=> ?_) (fun h7=> ?_)
    ·
     have hm1:(k+1)%n<n:=Nat.mod_lt _ om
     have hm2:(k+2)%n<n:=Nat.mod_lt _ om
     have hg0:Pg.inR (l.getD k (0,0)):=Pg.Ok.gt hrng om
     have hg1:Pg.inR (l.getD ((k+1)%n) (0,0)):=Pg.Ok.gt hrng (by rw [hn];exact Nat.mod_lt _ om)
     have hg2:Pg.inR (l.getD ((k+2)%n) (0,0)):=Pg.Ok.gt hrng (by rw [hn];exact Nat.mod_lt _ om)
     refine zt<|zd<|zg<|zv<|zg<|za<|e_mv rfl<|e_p (zb rfl)<|zh<|zd<|zg<|zba (OW:=[]) (O:=[]) 21 mixed (.then (.block (.then (.then (.block (.then .ret)))))) kr<|e_dm 0 rfl rfl rfl<|e_dm 1 rfl rfl rfl<|zca (x0:=(l.getD k (0,0))) 2 rfl rfl kr kr 0 k rfl yb sz30 rfl rfl rfl cbs rfl rfl (gD (d:=(0,0)) om) (fun b8 o9 hok10=> ?_)
     obtain ⟨hok10x,hok10y⟩:=hok10
     replace hok10x:=zq.1 hok10x
     replace hok10y:=zq.1 hok10y
     refine e_u 3 rfl rfl (zA (j:=0) 0 ty30 rfl rfl rfl (.t2 .nil))<|e_dm 4 rfl rfl rfl<|e_dm 5 rfl rfl rfl<|e_pv 6 rfl rfl (zI (z:=(((k+1):Nat):Int)) rfl rfl (w64 om))<|e_dm 7 rfl rfl rfl<|e_pv 8 rfl rfl (zya (z:=((((k+1)%n):Nat):Int)) rfl rfl om (remN om om))<|zca (x0:=(l.getD ((k+1)%n) (0,0))) 9 rfl rfl kr kr 1 ((k+1)%n) rfl yb sz30 rfl rfl rfl cbs rfl rfl (gD (d:=(0,0)) om) (fun b11 o12 hok13=> ?_)
     obtain ⟨hok13x,hok13y⟩:=hok13
     replace hok13x:=zq.1 hok13x
     replace hok13y:=zq.1 hok13y
     refine e_u 10 rfl rfl (zA (j:=0) 0 ty30 rfl rfl rfl (.t2 .nil))<|e_dm 11 rfl rfl rfl<|e_dm 12 rfl rfl rfl<|e_pv 13 rfl rfl (zI (z:=(((k+2):Nat):Int)) rfl rfl (w64 om))<|e_dm 14 rfl rfl rfl<|e_pv 15 rfl rfl (zya (z:=((((k+2)%n):Nat):Int)) rfl rfl om (remN om om))<|zca (x0:=(l.getD ((k+2)%n) (0,0))) 16 rfl rfl kr kr 2 ((k+2)%n) rfl yb sz30 rfl rfl rfl cbs rfl rfl (gD (d:=(0,0)) om) (fun b14 o15 hok16=> ?_)
     obtain ⟨hok16x,hok16y⟩:=hok16
     replace hok16x:=zq.1 hok16x
     replace hok16y:=zq.1 hok16y
     refine e_u 17 rfl rfl (zA (j:=0) 0 ty30 rfl rfl rfl (.t2 .nil))<|zdd (m':=[(56,.agg #[.int .i64 ((l.getD ((k+2)%n) (0,0)).1),.int .i64 ((l.getD ((k+2)%n) (0,0)).2)]),(49,.agg #[.int .i64 ((l.getD ((k+1)%n) (0,0)).1),.int .i64 ((l.getD ((k+1)%n) (0,0)).2)]),(42,.agg #[.int .i64 ((l.getD k (0,0)).1),.int .i64 ((l.getD k (0,0)).2)]),(6,.int .i64 ((k:Nat):Int)),(36,.int .i64 ((k:Nat):Int)),(35,.int .i64 ((n:Nat):Int)),(3,.int .i64 ((n:Nat):Int)),(0,.slice p n cap)]) (R':=[slF (rI2 .i64) p cap l]) ((.of rfl):SubM _ _) (List.Perm.refl _) (List.Perm.refl _) ((.c (j:=3) rfl .n):SelR _ _ _) ?_
     obtain ⟨qd1,hqd1⟩:∃z:Int,z=(l.getD ((k+2)%n) (0,0)).1:=⟨_,rfl⟩
     rw [← hqd1]
     obtain ⟨qd2,hqd2⟩:∃z:Int,z=(l.getD ((k+2)%n) (0,0)).2:=⟨_,rfl⟩
     rw [← hqd2]
     obtain ⟨qd3,hqd3⟩:∃z:Int,z=(l.getD ((k+1)%n) (0,0)).1:=⟨_,rfl⟩
     rw [← hqd3]
     obtain ⟨qd4,hqd4⟩:∃z:Int,z=(l.getD ((k+1)%n) (0,0)).2:=⟨_,rfl⟩
     rw [← hqd4]
     refine zva (X:=Nat×Nat×Nat) (k':=0) (L':=(lb 24 16777215)) (fun (u18_1,u19_1,u20_1)=>([(9,.pointer (some ⟨u20_1,0,none⟩)),(8,.pointer (some ⟨u19_1,0,none⟩)),(7,.pointer (some ⟨u18_1,0,none⟩)),(6,.int .i64 ((k:Nat):Int)),(36,.int .i64 ((k:Nat):Int)),(35,.int .i64 ((n:Nat):Int)),(3,.int .i64 ((n:Nat):Int)),(0,.slice p n cap)],[boxA u20_1 30 [.int .i64 qd1,.int .i64 qd2],boxA u19_1 30 [.int .i64 qd3,.int .i64 qd4],boxA u18_1 30 [.int .i64 ((l.getD k (0,0)).1),.int .i64 ((l.getD k (0,0)).2)]],[],[slF (rI2 .i64) p cap l])) ?_ (fun hD0=> ?_)
     ·
      rintro ⟨u18_1,u19_1,u20_1⟩
      dsimp only
      refine zX kr ?_
      subst hqd1 hqd2 hqd3 hqd4
      refine zd<|zg<|zFa (X:=Unit) (fun x=>True) (fun x=>[(66,.bool (decide ((Pg.onS (((l.getD k (0,0)).1),((l.getD k (0,0)).2)) (((l.getD ((k+1)%n) (0,0)).1),((l.getD ((k+1)%n) (0,0)).2)) (((l.getD ((k+2)%n) (0,0)).1),((l.getD ((k+2)%n) (0,0)).2)))∨(Pg.onS (((l.getD ((k+1)%n) (0,0)).1),((l.getD ((k+1)%n) (0,0)).2)) (((l.getD ((k+2)%n) (0,0)).1),((l.getD ((k+2)%n) (0,0)).2)) (((l.getD k (0,0)).1),((l.getD k (0,0)).2)))))),(8,.pointer (some ⟨u19_1,0,none⟩)),(7,.pointer (some ⟨u18_1,0,none⟩)),(6,.int .i64 ((k:Nat):Int)),(36,.int .i64 ((k:Nat):Int)),(35,.int .i64 ((n:Nat):Int)),(3,.int .i64 ((n:Nat):Int)),(0,.slice p n cap)]) (fun x=>[boxA u20_1 30 [.int .i64 ((l.getD ((k+2)%n) (0,0)).1),.int .i64 ((l.getD ((k+2)%n) (0,0)).2)],boxA u19_1 30 [.int .i64 ((l.getD ((k+1)%n) (0,0)).1),.int .i64 ((l.getD ((k+1)%n) (0,0)).2)],boxA u18_1 30 [.int .i64 ((l.getD k (0,0)).1),.int .i64 ((l.getD k (0,0)).2)]]) (fun x=>[slF (rI2 .i64) p cap l]) ?_ ?_
      ·
       refine za<|e_ru (zc 2 ty30 rfl rfl (.t2 .nil))<|e_ru (zc 1 ty30 rfl rfl (.t2 .nil))<|e_ru (zc 0 ty30 rfl rfl (.t2 .nil))<|zN rfl rfl (.c rfl (.c rfl (.c rfl .n))) ce50 (zac (ex:=(l.getD k (0,0)).1) (ey:=(l.getD k (0,0)).2) (fx:=((l.getD ((k+1)%n) (0,0)).1)) (fy:=((l.getD ((k+1)%n) (0,0)).2)) (gx:=((l.getD ((k+2)%n) (0,0)).1)) (gy:=((l.getD ((k+2)%n) (0,0)).2)) (hre:=cbo) (hrf:=cbo) (hrg:=cbo)) (.n)<|zW rfl rfl (zV rfl) (fun h17=> ?_) (fun h17=> ?_)
       ·
        refine e_no<|e_no<|e_no<|e_no<|e_p (zl rfl rfl)<|zh ?_
        exact zea () (show True from by first|trivial|omega|simp_all) ((.e rfl (congrArg Value.bool cbu) (.of rfl)):SubM _ _) (ho:=((.of [0,0,0] rfl):PickO _ _ _)) ((.c (j:=0) rfl .n):SelR _ _ _)
       ·
        refine e_ru (zc 1 ty30 rfl rfl (.t2 .nil))<|e_ru (zc 0 ty30 rfl rfl (.t2 .nil))<|e_ru (zc 2 ty30 rfl rfl (.t2 .nil))<|zN rfl rfl (.c rfl (.c rfl (.c rfl .n))) ce50 (zac (ex:=((l.getD ((k+1)%n) (0,0)).1)) (ey:=((l.getD ((k+1)%n) (0,0)).2)) (fx:=((l.getD ((k+2)%n) (0,0)).1)) (fy:=((l.getD ((k+2)%n) (0,0)).2)) (gx:=(l.getD k (0,0)).1) (gy:=(l.getD k (0,0)).2) (hre:=cbo) (hrf:=cbo) (hrg:=cbo)) (.n)<|e_p (zl rfl rfl)<|zh ?_
        exact zea () (show True from by first|trivial|omega|simp_all) ((.e rfl (congrArg Value.bool cbu) (.of rfl)):SubM _ _) (ho:=((.of [0,0,0] rfl):PickO _ _ _)) ((.c (j:=0) rfl .n):SelR _ _ _)
      ·
       rintro ⟨⟩ -
       try dsimp only
       refine zG rfl (fun hA=> ?_) (fun hA=> ?_)
       ·
        refine zg<|za<|e_p (zb rfl)<|zh<|zd<|zK<|zi<|zm<|zi<|zi<|zm<|zi ?_
        exact zx yf () trivial (zk rfl) (by rw [Pg.ck_two hlm hz1 (fun h=>((Pg.smp_n hn).1 h k om).1 hA)]) (ho:=(.n:PickO _ _ _)) (.n:SelR _ _ _)
       ·
        refine zt<|zd<|zg<|za<|e_mv rfl<|e_p (zI (z:=(((k+2):Nat):Int)) rfl rfl (w64 om))<|e_p (zb rfl)<|zh<|zd<|zv<|zqa (X:=Nat) (fun x:Nat=>k+2≤x∧∀w,w<x→¬Pg.smB n l k w) (fun x=>[(10,.int .i64 ((x:Nat):Int)),(8,.pointer (some ⟨u19_1,0,none⟩)),(7,.pointer (some ⟨u18_1,0,none⟩)),(6,.int .i64 ((k:Nat):Int)),(36,.int .i64 ((k:Nat):Int)),(35,.int .i64 ((n:Nat):Int)),(3,.int .i64 ((n:Nat):Int)),(0,.slice p n cap)]) (fun x=>[boxA u20_1 30 [.int .i64 ((l.getD ((k+2)%n) (0,0)).1),.int .i64 ((l.getD ((k+2)%n) (0,0)).2)],boxA u19_1 30 [.int .i64 ((l.getD ((k+1)%n) (0,0)).1),.int .i64 ((l.getD ((k+1)%n) (0,0)).2)],boxA u18_1 30 [.int .i64 ((l.getD k (0,0)).1),.int .i64 ((l.getD k (0,0)).2)]]) (fun x=>[slF (rI2 .i64) p cap l]) (fun x:Nat=>n - x) (k+2) (show k+2≤(k+2)∧∀w,w<(k+2)→¬Pg.smB n l k w from by exact ⟨Nat.le_refl _,fun w hw hb=>by have:=hb.1;omega⟩) ((.of rfl):SubM _ _) (ho:=((.of [0,0,0] rfl):PickO _ _ _)) ((.c (j:=0) rfl .n):SelR _ _ _) ?_
        rintro j hJ
        replace hJ:k+2≤j∧∀w,w<j→¬Pg.smB n l k w:=hJ
        try dsimp only
        obtain ⟨hj2,hB2⟩:=hJ
        refine zg<|zg<|za<|e_mv rfl<|e_mv rfl<|e_p (zaa rfl rfl)<|zh<|zd<|zG rfl (fun h18=> ?_) (fun h18=> ?_)
        ·
         have hm3:(j+1)%n<n:=Nat.mod_lt _ om
         obtain ⟨hg3,hg4⟩:Pg.inR (l.getD j (0,0))∧Pg.inR (l.getD ((j+1)%n) (0,0)):=⟨Pg.Ok.gt hrng om,Pg.Ok.gt hrng (by rw [hn];exact Nat.mod_lt _ om)⟩
         refine zt<|zd<|zg<|zv<|zFa (X:=Unit) (fun x=>True) (fun x=>[(95,.bool (decide ((((((j+1)%n):Nat):Int)≠((k:Nat):Int))∧(Pg.mt (((l.getD k (0,0)).1),((l.getD k (0,0)).2)) (((l.getD ((k+1)%n) (0,0)).1),((l.getD ((k+1)%n) (0,0)).2)) (((l.getD j (0,0)).1),((l.getD j (0,0)).2)) (((l.getD ((j+1)%n) (0,0)).1),((l.getD ((j+1)%n) (0,0)).2)))))),(10,.int .i64 ((j:Nat):Int)),(8,.pointer (some ⟨u19_1,0,none⟩)),(7,.pointer (some ⟨u18_1,0,none⟩)),(6,.int .i64 ((k:Nat):Int)),(36,.int .i64 ((k:Nat):Int)),(35,.int .i64 ((n:Nat):Int)),(3,.int .i64 ((n:Nat):Int)),(0,.slice p n cap)]) (fun x=>[boxA u20_1 30 [.int .i64 ((l.getD ((k+2)%n) (0,0)).1),.int .i64 ((l.getD ((k+2)%n) (0,0)).2)],boxA u19_1 30 [.int .i64 ((l.getD ((k+1)%n) (0,0)).1),.int .i64 ((l.getD ((k+1)%n) (0,0)).2)],boxA u18_1 30 [.int .i64 ((l.getD k (0,0)).1),.int .i64 ((l.getD k (0,0)).2)]]) (fun x=>[slF (rI2 .i64) p cap l]) ?_ ?_
         ·
          refine zba (OW:=[]) (O:=[boxA u20_1 30 [.int .i64 ((l.getD ((k+2)%n) (0,0)).1),.int .i64 ((l.getD ((k+2)%n) (0,0)).2)],boxA u19_1 30 [.int .i64 ((l.getD ((k+1)%n) (0,0)).1),.int .i64 ((l.getD ((k+1)%n) (0,0)).2)],boxA u18_1 30 [.int .i64 ((l.getD k (0,0)).1),.int .i64 ((l.getD k (0,0)).2)]]) 100000 mixed (.then (.block (.then (.then (.block (.block (.then (.then (.block (.then .ret)))))))))) kr<|e_dm 0 rfl rfl rfl<|e_pv 1 rfl rfl (zI (z:=(((j+1):Nat):Int)) rfl rfl (w64 om))<|e_dm 2 rfl rfl rfl<|e_pv 3 rfl rfl (zya (z:=((((j+1)%n):Nat):Int)) rfl rfl om (remN om om))<|e_dm 4 rfl rfl rfl<|e_pv 5 rfl rfl (zQa rfl rfl)<|znb 6 rfl rfl kr kr rfl rfl (zV rfl) (fun h19=> ?_) (fun h19=> ?_)
          ·
           refine e_u 7 rfl rfl (zc 2 ty30 rfl rfl (.t2 .nil))<|e_u 8 rfl rfl (zc 1 ty30 rfl rfl (.t2 .nil))<|e_dm 9 rfl rfl rfl<|e_dm 10 rfl rfl rfl<|zca (x0:=(l.getD j (0,0))) 11 rfl rfl kr kr 0 j rfl yb sz30 rfl rfl rfl cbs rfl rfl (gD (d:=(0,0)) om) (fun b20 o21 hok22=> ?_)
           obtain ⟨hok22x,hok22y⟩:=hok22
           replace hok22x:=zq.1 hok22x
           replace hok22y:=zq.1 hok22y
           refine e_u 12 rfl rfl (zA (j:=0) 0 ty30 rfl rfl rfl (.t2 .nil))<|e_dm 13 rfl rfl rfl<|e_dm 14 rfl rfl rfl<|e_pv 15 rfl rfl (zI (z:=(((j+1):Nat):Int)) rfl rfl (w64 om))<|e_dm 16 rfl rfl rfl<|e_pv 17 rfl rfl (zya (z:=((((j+1)%n):Nat):Int)) rfl rfl om (remN om om))<|zca (x0:=(l.getD ((j+1)%n) (0,0))) 18 rfl rfl kr kr 1 ((j+1)%n) rfl yb sz30 rfl rfl rfl cbs rfl rfl (gD (d:=(0,0)) om) (fun b23 o24 hok25=> ?_)
           obtain ⟨hok25x,hok25y⟩:=hok25
           replace hok25x:=zq.1 hok25x
           replace hok25y:=zq.1 hok25y
           refine e_u 19 rfl rfl (zA (j:=0) 0 ty30 rfl rfl rfl (.t2 .nil))<|e_one 20 (zwa rfl rfl rfl rfl (.c rfl (.c rfl (.c rfl (.c rfl .n)))) ce51 (ztf (ex:=(l.getD k (0,0)).1) (ey:=(l.getD k (0,0)).2) (fx:=((l.getD ((k+1)%n) (0,0)).1)) (fy:=((l.getD ((k+1)%n) (0,0)).2)) (gx:=(l.getD j (0,0)).1) (gy:=(l.getD j (0,0)).2) (hx:=(l.getD ((j+1)%n) (0,0)).1) (hy:=(l.getD ((j+1)%n) (0,0)).2) (hre:=cbo) (hrf:=cbo) (hrg:=cbo) (hrh:=cbo)) (.n) ?_)
           refine e_pv 21 rfl rfl (zl rfl rfl)<|zX kr ?_
           exact zea () (show True from by first|trivial|omega|simp_all) ((.e rfl (congrArg Value.bool cbu) (.of rfl)):SubM _ _) (ho:=((.of [0,0,0] rfl):PickO _ _ _)) ((.c (j:=2) rfl .n):SelR _ _ _)
          ·
           refine e_skip 7 rfl rfl<|e_skip 8 rfl rfl<|e_skip 9 rfl rfl<|e_skip 10 rfl rfl<|e_skip 11 rfl rfl<|e_skip 12 rfl rfl<|e_skip 13 rfl rfl<|e_skip 14 rfl rfl<|e_skip 15 rfl rfl<|e_skip 16 rfl rfl<|e_skip 17 rfl rfl<|e_skip 18 rfl rfl<|e_skip 19 rfl rfl<|e_skip 20 rfl rfl<|e_pv 21 rfl rfl (zl rfl rfl)<|zX kr ?_
           exact zea () (show True from by first|trivial|omega|simp_all) ((.e rfl (congrArg Value.bool cbu) (.of rfl)):SubM _ _) (ho:=((.of [0,0,0] rfl):PickO _ _ _)) ((.c (j:=0) rfl .n):SelR _ _ _)
         ·
          rintro ⟨⟩ -
          try dsimp only
          refine zG rfl (fun hB=> ?_) (fun hB=> ?_)
          ·
           refine zg<|za<|e_p (zb rfl)<|zh<|zd<|zK<|zm<|zi<|zi<|zm<|zm<|zi<|zi<|zm<|zi ?_
           exact zx yf () trivial (zk rfl) (by rw [Pg.ck_two hlm hz1 (fun h=>((Pg.smp_n hn).1 h k om).2 j om ⟨by omega,by omega,hB.2⟩)]) (ho:=(.n:PickO _ _ _)) (.n:SelR _ _ _)
          ·
           refine zt<|zP<|zd<|za<|e_mv rfl<|e_p (zI (z:=(((j+1):Nat):Int)) rfl rfl (w64 om))<|e_p (zb rfl)<|zh<|zha (j+1) (show k+2≤(j+1)∧∀w,w<(j+1)→¬Pg.smB n l k w from by exact ⟨by omega,Ms.all_lt_succ hB2 (fun hb=>hB ⟨by have:=hb.2.1;omega,hb.2.2⟩)⟩) (by show n - (j+1)<n - j;omega) ((.of rfl):SubM _ _) (ho:=((.of [0,0,0] rfl):PickO _ _ _)) ((.c (j:=0) rfl .n):SelR _ _ _)
        ·
         refine zla<|zj<|zj<|zr<|zP<|zd<|za<|e_p (zI (z:=(((k+1):Nat):Int)) rfl rfl (w64 om))<|e_mv rfl<|zh<|zha (k+1) (show (k+1)≤n∧∀w,w<(k+1)→Pg.smI n l w from by exact ⟨by omega,Ms.all_lt_succ hall ⟨hA,fun w hw=>hB2 w om⟩⟩) (by show n - (k+1)<n - k;omega) ((.of rfl):SubM _ _) (ho:=(.n:PickO _ _ _)) ((.c (j:=0) rfl .n):SelR _ _ _)
     refine zva (X:=Nat×Nat×Nat) (k':=1) (L':=(lb 24 8388607)) (fun (u18_1,u19_1,u20_1)=>([(9,.pointer (some ⟨u20_1,0,none⟩)),(8,.pointer (some ⟨u19_1,0,none⟩)),(7,.pointer (some ⟨u18_1,0,none⟩)),(56,.agg #[.int .i64 qd1,.int .i64 qd2]),(6,.int .i64 ((k:Nat):Int)),(36,.int .i64 ((k:Nat):Int)),(35,.int .i64 ((n:Nat):Int)),(3,.int .i64 ((n:Nat):Int)),(0,.slice p n cap)],[boxA u19_1 30 [.int .i64 qd3,.int .i64 qd4],boxA u18_1 30 [.int .i64 ((l.getD k (0,0)).1),.int .i64 ((l.getD k (0,0)).2)],boxA u20_1 30 [.int .i64 0,.int .i64 0]],[],[slF (rI2 .i64) p cap l])) ?_ (fun hD1=> ?_)
     ·
      rintro ⟨u18_1,u19_1,u20_1⟩
      dsimp only
      refine zkb 23 kr ?_
      ·
       refine zNb (zga (i:=2) rfl)<|zy kr rfl rfl rfl rfl rfl sz30 rfl (.t2 .nil) ?_
       exact zda (hD0 (u18_1,u19_1,u20_1)) kr ((.of rfl):SubM _ _) .rfl .rfl ((.c (j:=0) rfl .n):SelR _ _ _)
     refine zva (X:=Nat×Nat×Nat) (k':=2) (L':=(lb 24 4194303)) (fun (u18_1,u19_1,u20_1)=>([(9,.pointer (some ⟨u20_1,0,none⟩)),(8,.pointer (some ⟨u19_1,0,none⟩)),(7,.pointer (some ⟨u18_1,0,none⟩)),(56,.agg #[.int .i64 qd1,.int .i64 qd2]),(49,.agg #[.int .i64 qd3,.int .i64 qd4]),(6,.int .i64 ((k:Nat):Int)),(36,.int .i64 ((k:Nat):Int)),(35,.int .i64 ((n:Nat):Int)),(3,.int .i64 ((n:Nat):Int)),(0,.slice p n cap)],[boxA u18_1 30 [.int .i64 ((l.getD k (0,0)).1),.int .i64 ((l.getD k (0,0)).2)],boxA u20_1 30 [.int .i64 0,.int .i64 0],boxA u19_1 30 [.int .i64 0,.int .i64 0]],[],[slF (rI2 .i64) p cap l])) ?_ (fun hD2=> ?_)
     ·
      rintro ⟨u18_1,u19_1,u20_1⟩
      dsimp only
      refine zkb 22 kr ?_
      ·
       refine zNb (zga (i:=2) rfl)<|zy kr rfl rfl rfl rfl rfl sz30 rfl (.t2 .nil) ?_
       exact zda (hD1 (u18_1,u19_1,u20_1)) kr ((.of rfl):SubM _ _) .rfl .rfl ((.c (j:=0) rfl .n):SelR _ _ _)
     refine zva (X:=Nat×Nat×Nat) (k':=3) (L':=(lb 24 2097151)) (fun (u18_1,u19_1,u20_1)=>([(9,.pointer (some ⟨u20_1,0,none⟩)),(8,.pointer (some ⟨u19_1,0,none⟩)),(7,.pointer (some ⟨u18_1,0,none⟩)),(56,.agg #[.int .i64 qd1,.int .i64 qd2]),(49,.agg #[.int .i64 qd3,.int .i64 qd4]),(42,.agg #[.int .i64 ((l.getD k (0,0)).1),.int .i64 ((l.getD k (0,0)).2)]),(6,.int .i64 ((k:Nat):Int)),(36,.int .i64 ((k:Nat):Int)),(35,.int .i64 ((n:Nat):Int)),(3,.int .i64 ((n:Nat):Int)),(0,.slice p n cap)],[boxA u20_1 30 [.int .i64 0,.int .i64 0],boxA u19_1 30 [.int .i64 0,.int .i64 0],boxA u18_1 30 [.int .i64 0,.int .i64 0]],[],[slF (rI2 .i64) p cap l])) ?_ (fun hD3=> ?_)
     ·
      rintro ⟨u18_1,u19_1,u20_1⟩
      dsimp only
      refine zkb 21 kr ?_
      ·
       refine zNb (zga (i:=2) rfl)<|zy kr rfl rfl rfl rfl rfl sz30 rfl (.t2 .nil) ?_
       exact zda (hD2 (u18_1,u19_1,u20_1)) kr ((.of rfl):SubM _ _) .rfl .rfl ((.c (j:=0) rfl .n):SelR _ _ _)
     refine zva (X:=Nat×Nat) (k':=4) (L':=(lb 24 1048575)) (fun (u18_1,u19_1)=>([(8,.pointer (some ⟨u19_1,0,none⟩)),(7,.pointer (some ⟨u18_1,0,none⟩)),(56,.agg #[.int .i64 qd1,.int .i64 qd2]),(49,.agg #[.int .i64 qd3,.int .i64 qd4]),(42,.agg #[.int .i64 ((l.getD k (0,0)).1),.int .i64 ((l.getD k (0,0)).2)]),(6,.int .i64 ((k:Nat):Int)),(36,.int .i64 ((k:Nat):Int)),(35,.int .i64 ((n:Nat):Int)),(3,.int .i64 ((n:Nat):Int)),(0,.slice p n cap)],[boxA u19_1 30 [.int .i64 0,.int .i64 0],boxA u18_1 30 [.int .i64 0,.int .i64 0]],[],[slF (rI2 .i64) p cap l])) ?_ (fun hD4=> ?_)
     ·
      rintro ⟨u18_1,u19_1⟩
      dsimp only
      refine zkb 20 kr ?_
      ·
       refine zua rfl rfl rfl rfl (zp zr30 rfl) (fun u20_1 _=> ?_)
       exact zda (hD3 (u18_1,u19_1,u20_1)) kr ((.of rfl):SubM _ _) .rfl .rfl ((.c (j:=0) rfl .n):SelR _ _ _)
     refine zva (X:=Nat×Nat) (k':=4) (L':=(lb 24 1572863)) (fun (u18_1,u20_1)=>([(9,.pointer (some ⟨u20_1,0,none⟩)),(7,.pointer (some ⟨u18_1,0,none⟩)),(56,.agg #[.int .i64 qd1,.int .i64 qd2]),(49,.agg #[.int .i64 qd3,.int .i64 qd4]),(42,.agg #[.int .i64 ((l.getD k (0,0)).1),.int .i64 ((l.getD k (0,0)).2)]),(6,.int .i64 ((k:Nat):Int)),(36,.int .i64 ((k:Nat):Int)),(35,.int .i64 ((n:Nat):Int)),(3,.int .i64 ((n:Nat):Int)),(0,.slice p n cap)],[boxA u20_1 30 [.int .i64 0,.int .i64 0],boxA u18_1 30 [.int .i64 0,.int .i64 0]],[],[slF (rI2 .i64) p cap l])) ?_ (fun hD5=> ?_)
     ·
      rintro ⟨u18_1,u20_1⟩
      dsimp only
      refine zkb 19 kr ?_
      ·
       refine zua rfl rfl rfl rfl (zp zr30 rfl) (fun u19_1 _=> ?_)
       exact zda (hD3 (u18_1,u19_1,u20_1)) kr ((.of rfl):SubM _ _) (zKa 1 rfl (zKa 0 rfl (zKa 0 rfl .nil))) .rfl ((.c (j:=0) rfl .n):SelR _ _ _)
     refine zva (X:=Nat×Nat) (k':=4) (L':=(lb 24 1835007)) (fun (u19_1,u20_1)=>([(9,.pointer (some ⟨u20_1,0,none⟩)),(8,.pointer (some ⟨u19_1,0,none⟩)),(56,.agg #[.int .i64 qd1,.int .i64 qd2]),(49,.agg #[.int .i64 qd3,.int .i64 qd4]),(42,.agg #[.int .i64 ((l.getD k (0,0)).1),.int .i64 ((l.getD k (0,0)).2)]),(6,.int .i64 ((k:Nat):Int)),(36,.int .i64 ((k:Nat):Int)),(35,.int .i64 ((n:Nat):Int)),(3,.int .i64 ((n:Nat):Int)),(0,.slice p n cap)],[boxA u20_1 30 [.int .i64 0,.int .i64 0],boxA u19_1 30 [.int .i64 0,.int .i64 0]],[],[slF (rI2 .i64) p cap l])) ?_ (fun hD6=> ?_)
     ·
      rintro ⟨u19_1,u20_1⟩
      dsimp only
      refine zkb 18 kr ?_
      ·
       refine zua rfl rfl rfl rfl (zp zr30 rfl) (fun u18_1 _=> ?_)
       exact zda (hD3 (u18_1,u19_1,u20_1)) kr ((.of rfl):SubM _ _) (zKa 1 rfl (zKa 1 rfl (zKa 0 rfl .nil))) .rfl ((.c (j:=0) rfl .n):SelR _ _ _)
     refine zva (X:=Nat) (k':=5) (L':=(lb 24 524287)) (fun u18_1=>([(7,.pointer (some ⟨u18_1,0,none⟩)),(56,.agg #[.int .i64 qd1,.int .i64 qd2]),(49,.agg #[.int .i64 qd3,.int .i64 qd4]),(42,.agg #[.int .i64 ((l.getD k (0,0)).1),.int .i64 ((l.getD k (0,0)).2)]),(6,.int .i64 ((k:Nat):Int)),(36,.int .i64 ((k:Nat):Int)),(35,.int .i64 ((n:Nat):Int)),(3,.int .i64 ((n:Nat):Int)),(0,.slice p n cap)],[boxA u18_1 30 [.int .i64 0,.int .i64 0]],[],[slF (rI2 .i64) p cap l])) ?_ (fun hD7=> ?_)
     ·
      rintro u18_1
      dsimp only
      refine zZb 19 20 kr ?_ ?_
      ·
       refine zua rfl rfl rfl rfl (zp zr30 rfl) (fun u19_1 _=> ?_)
       exact zda (hD4 (u18_1,u19_1)) kr ((.of rfl):SubM _ _) .rfl .rfl ((.c (j:=0) rfl .n):SelR _ _ _)
      ·
       refine zua rfl rfl rfl rfl (zp zr30 rfl) (fun u20_1 _=> ?_)
       exact zda (hD5 (u18_1,u20_1)) kr ((.of rfl):SubM _ _) .rfl .rfl ((.c (j:=0) rfl .n):SelR _ _ _)
     refine zva (X:=Nat) (k':=5) (L':=(lb 24 786431)) (fun u19_1=>([(8,.pointer (some ⟨u19_1,0,none⟩)),(56,.agg #[.int .i64 qd1,.int .i64 qd2]),(49,.agg #[.int .i64 qd3,.int .i64 qd4]),(42,.agg #[.int .i64 ((l.getD k (0,0)).1),.int .i64 ((l.getD k (0,0)).2)]),(6,.int .i64 ((k:Nat):Int)),(36,.int .i64 ((k:Nat):Int)),(35,.int .i64 ((n:Nat):Int)),(3,.int .i64 ((n:Nat):Int)),(0,.slice p n cap)],[boxA u19_1 30 [.int .i64 0,.int .i64 0]],[],[slF (rI2 .i64) p cap l])) ?_ (fun hD8=> ?_)
     ·
      rintro u19_1
      dsimp only
      refine zZb 18 20 kr ?_ ?_
      ·
       refine zua rfl rfl rfl rfl (zp zr30 rfl) (fun u18_1 _=> ?_)
       exact zda (hD4 (u18_1,u19_1)) kr ((.of rfl):SubM _ _) (zKa 1 rfl (zKa 0 rfl .nil)) .rfl ((.c (j:=0) rfl .n):SelR _ _ _)
      ·
       refine zua rfl rfl rfl rfl (zp zr30 rfl) (fun u20_1 _=> ?_)
       exact zda (hD6 (u19_1,u20_1)) kr ((.of rfl):SubM _ _) .rfl .rfl ((.c (j:=0) rfl .n):SelR _ _ _)
     refine zva (X:=Nat) (k':=5) (L':=(lb 24 1310719)) (fun u20_1=>([(9,.pointer (some ⟨u20_1,0,none⟩)),(56,.agg #[.int .i64 qd1,.int .i64 qd2]),(49,.agg #[.int .i64 qd3,.int .i64 qd4]),(42,.agg #[.int .i64 ((l.getD k (0,0)).1),.int .i64 ((l.getD k (0,0)).2)]),(6,.int .i64 ((k:Nat):Int)),(36,.int .i64 ((k:Nat):Int)),(35,.int .i64 ((n:Nat):Int)),(3,.int .i64 ((n:Nat):Int)),(0,.slice p n cap)],[boxA u20_1 30 [.int .i64 0,.int .i64 0]],[],[slF (rI2 .i64) p cap l])) ?_ (fun hD9=> ?_)
     ·
      rintro u20_1
      dsimp only
      refine zZb 18 19 kr ?_ ?_
      ·
       refine zua rfl rfl rfl rfl (zp zr30 rfl) (fun u18_1 _=> ?_)
       exact zda (hD5 (u18_1,u20_1)) kr ((.of rfl):SubM _ _) (zKa 1 rfl (zKa 0 rfl .nil)) .rfl ((.c (j:=0) rfl .n):SelR _ _ _)
      ·
       refine zua rfl rfl rfl rfl (zp zr30 rfl) (fun u19_1 _=> ?_)
       exact zda (hD6 (u19_1,u20_1)) kr ((.of rfl):SubM _ _) (zKa 1 rfl (zKa 0 rfl .nil)) .rfl ((.c (j:=0) rfl .n):SelR _ _ _)
     refine zmd 18 19 20 kr ?_ ?_ ?_
     ·
      refine zua rfl rfl rfl rfl (zp zr30 rfl) (fun u18_1 _=> ?_)
      exact zda (hD7 u18_1) kr ((.of rfl):SubM _ _) .rfl .rfl ((.c (j:=0) rfl .n):SelR _ _ _)
     ·
      refine zua rfl rfl rfl rfl (zp zr30 rfl) (fun u19_1 _=> ?_)
      exact zda (hD8 u19_1) kr ((.of rfl):SubM _ _) .rfl .rfl ((.c (j:=0) rfl .n):SelR _ _ _)
     ·
      refine zua rfl rfl rfl rfl (zp zr30 rfl) (fun u20_1 _=> ?_)
      exact zda (hD9 u20_1) kr ((.of rfl):SubM _ _) .rfl .rfl ((.c (j:=0) rfl .n):SelR _ _ _)
    ·
     refine zla<|zj<|zj<|zr<|zd<|zg<|za<|e_p (zb rfl)<|zh<|zd<|zK ?_
     exact zx yf () trivial (zk rfl) (by rw [Pg.ck_ok hlm hz1 ((Pg.smp_n hn).2 (fun w hw=>hall w om))]) (ho:=(.n:PickO _ _ _)) (.n:SelR _ _ _)
theorem zNc {p:Option Addr} {n:Nat} {cap:Nat} {l:List Pg.P2} (hn:l.length=n) (h64:n≤64) (hrng:∀x∈l,Pg.inR x):Con yd 47 [.slice p n cap] [] [slF (rI2 .i64) p cap l] (Y:=Unit) (fun y=>True) (fun y=> .int .i64 (Pg.db l)) (fun y=>[]) (fun y=>[]):=by
 refine zn Tryz.func47 rfl rfl rfl (fun c=> ?_)
 show RunC _ _ _ _ _ [(0,.slice p n cap)] [] [slF (rI2 .i64) p cap l]
 refine zia 0 rfl (fun hL0=> ?_)
 refine zg<|za<|e_p (zb rfl)<|zh<|zd<|zg<|za<|e_p (zb rfl)<|zh<|zd<|zg<|zg<|za<|e_mv rfl<|e_p (zQ yb rfl)<|e_mv rfl<|zh<|zd<|zv<|zqa (X:=Nat) (fun x:Nat=>x≤n) (fun x=>[(3,.int .i64 (Pg.dbN n l x)),(9,.int .i64 ((x:Nat):Int)),(8,.int .i64 ((n:Nat):Int)),(7,.slice p n cap),(2,.int .i64 0),(0,.slice p n cap)]) (fun x=>[]) (fun x=>[slF (rI2 .i64) p cap l]) (fun x:Nat=>n - x) 0 (show 0≤n from by exact Nat.zero_le _) ((.e rfl (by first|rfl|(congr 1;omega)|simp_all) (.e rfl (by first|rfl|(congr 1;omega)|simp_all) (.of rfl))):SubM _ _) (ho:=(.n:PickO _ _ _)) ((.c (j:=0) rfl .n):SelR _ _ _) ?_
 rintro k hI
 replace hI:k≤n:=hI
 try dsimp only
 refine zg<|za<|e_p (zaa rfl rfl)<|zh<|zd<|zg<|zG rfl (fun h1=> ?_) (fun h1=> ?_)
 ·
  have hm1:(k+1)%n<n:=Nat.mod_lt _ om
  have hg0:Pg.inR (l.getD k (0,0)):=Pg.Ok.gt hrng om
  have hg1:Pg.inR (l.getD ((k+1)%n) (0,0)):=Pg.Ok.gt hrng om
  obtain ⟨hp1,hp2⟩:=Pg.ab hg0 hg1
  have hb1:=Pg.dbN_b hn hrng (i:=k) om
  refine zt<|zd<|zg<|zv<|zg<|za<|e_mv rfl<|zY (x0:=(l.getD k (0,0))) 0 k rfl yb sz30 rfl rfl rfl cbs rfl rfl (gD (d:=(0,0)) om) (fun b2 o3 hok4=> ?_)
  obtain ⟨hok4x,hok4y⟩:=hok4
  replace hok4x:=zq.1 hok4x
  replace hok4y:=zq.1 hok4y
  refine e_ru (zA (j:=0) 0 ty30 rfl rfl rfl (.t2 .nil))<|zO rfl rfl (zp zr30 rfl) (fun b5=> ?_)
  refine e_p (zb rfl)<|zo 0 rfl rfl rfl rfl rfl sz30 rfl (.t2 .nil) .z<|zh<|zd<|zg<|za<|e_mv rfl<|e_mv rfl<|e_p (zI (z:=(((k+1):Nat):Int)) rfl rfl (w64 om))<|e_mv rfl<|e_p (zQ yb rfl)<|e_p (zya (z:=((((k+1)%n):Nat):Int)) rfl rfl om (remN om om))<|zY (x0:=(l.getD ((k+1)%n) (0,0))) 1 ((k+1)%n) rfl yb sz30 rfl rfl rfl cbs rfl rfl (gD (d:=(0,0)) om) (fun b6 o7 hok8=> ?_)
  obtain ⟨hok8x,hok8y⟩:=hok8
  replace hok8x:=zq.1 hok8x
  replace hok8y:=zq.1 hok8y
  refine e_ru (zA (j:=0) 0 ty30 rfl rfl rfl (.t2 .nil))<|zO rfl rfl (zp zr30 rfl) (fun b9=> ?_)
  refine zo 0 rfl rfl rfl rfl rfl sz30 rfl (.t2 .nil) .z<|zh<|zd<|za<|e_mv rfl<|e_p (zf ya rfl sz3 rfl rfl)<|e_ru (ze 1 ty3 rfl rfl rfl)<|e_p (zf ya rfl sz3 rfl rfl)<|e_ru (ze 0 ty3 rfl rfl rfl)<|e_p (zDa (z:=((l.getD k (0,0)).1*(l.getD ((k+1)%n) (0,0)).2)) rfl rfl (w64 om))<|e_p (zf ya rfl sz3 rfl rfl)<|e_ru (ze 0 ty3 rfl rfl rfl)<|e_p (zf ya rfl sz3 rfl rfl)<|e_ru (ze 1 ty3 rfl rfl rfl)<|e_p (zDa (z:=((l.getD ((k+1)%n) (0,0)).1*(l.getD k (0,0)).2)) rfl rfl (w64 om))<|e_p (zoa (z:=(((l.getD k (0,0)).1*(l.getD ((k+1)%n) (0,0)).2) - ((l.getD ((k+1)%n) (0,0)).1*(l.getD k (0,0)).2))) rfl rfl (w64 om))<|e_p (zI (z:=((Pg.dbN n l k)+(((l.getD k (0,0)).1*(l.getD ((k+1)%n) (0,0)).2) - ((l.getD ((k+1)%n) (0,0)).1*(l.getD k (0,0)).2)))) rfl rfl (w64 om))<|e_p (zb rfl)<|zh<|zP<|zd<|za<|e_p (zI (z:=(((k+1):Nat):Int)) rfl rfl (w64 om))<|e_mv rfl<|zh<|zha (k+1) (show (k+1)≤n from by show k+1≤n;omega) (by show n - (k+1)<n - k;omega) ((.e rfl (by first|rfl|(congr 1;omega)|simp_all) (.of rfl)):SubM _ _) (ho:=(.n:PickO _ _ _)) ((.c (j:=2) rfl .n):SelR _ _ _)
 ·
  refine zla<|zj<|zj<|zr<|zd<|zg<|za<|e_mv rfl<|e_p (zb rfl)<|zh<|zd<|zK ?_
  exact zx Tryz.results47 () trivial (zk rfl) (by rw [show k=n by omega,Pg.db,hn]) (ho:=(.n:PickO _ _ _)) (.n:SelR _ _ _)
theorem zXf {p:Option Addr} {n:Nat} {cap:Nat} {l:List Pg.P2} (hn:l.length=n):Con yd 13 [.slice p n cap] [] [slF (rI2 .i64) p cap l] (Y:=Unit) (fun y=>True) (fun y=> .tuple #[.int .i64 (Pg.arV l),.int .i64 (Pg.arC l)]) (fun y=>[]) (fun y=>[]):=by
 refine zn Tryz.func13 rfl rfl rfl (fun c=> ?_)
 show RunC _ _ _ _ _ [(0,.slice p n cap)] [] [slF (rI2 .i64) p cap l]
 refine zia 0 rfl (fun hL0=> ?_)
 refine zg<|za<|e_p (zb rfl)<|e_p (zb rfl)<|zh<|zd<|zg<|zg<|za<|e_mv rfl<|e_p (zQ yb rfl)<|e_p (zBa rfl rfl)<|zh<|zd<|zG rfl (fun hlim=> ?_) (fun hlim=> ?_)
 ·
  refine zg<|za<|e_p (zb rfl)<|e_p (zb rfl)<|zh<|zd<|zK<|zi ?_
  obtain ⟨hv1,hv2⟩:=Pg.ar_lim (l:=l) om
  exact zAa Tryz.results13 () trivial (zk rfl) (zk rfl) (by rw [hv1,hv2]) (ho:=(.n:PickO _ _ _)) (.n:SelR _ _ _)
 ·
  refine zt<|zd<|zg<|zg<|za<|e_mv rfl<|zN rfl rfl (.c rfl (.c rfl .n)) ce45 (zyf (p:=p) (n:=n) (cap:=cap) (l:=l) (hn:=ass)) (.c (j:=0) rfl .n)<|zh<|zd<|zZa rfl (fun hfar=> ?_) (fun hfar=> ?_)
  ·
   refine zg<|za<|e_p (zb rfl)<|e_p (zb rfl)<|zh<|zd<|zK<|zi ?_
   obtain ⟨hv1,hv2⟩:=Pg.ar_far (l:=l) om hfar
   exact zAa Tryz.results13 () trivial (zk rfl) (zk rfl) (by rw [hv1,hv2]) (ho:=(.n:PickO _ _ _)) (.n:SelR _ _ _)
  ·
   have hrng:=Pg.any_far (l:=l) (by rw [hfar];decide)
   refine zt<|zd<|zg<|za<|e_mv rfl<|zN rfl rfl (.c rfl .n) ce47 (zNc (p:=p) (n:=n) (cap:=cap) (l:=l) (hn:=ass) (h64:=cbo) (hrng:=cbo)) (.c (j:=0) rfl .n)<|e_p (zb rfl)<|e_p (zb rfl)<|zh<|zd<|zK ?_
   obtain ⟨hv1,hv2⟩:=Pg.ar_ok (l:=l) om (by rw [hfar];decide)
   exact zAa Tryz.results13 () trivial (zk rfl) (zk rfl) (by rw [hv1,hv2]) (ho:=(.n:PickO _ _ _)) (.n:SelR _ _ _)
end Go.Proofs.YtjcpbhlijoigfaaGreat.Sp
