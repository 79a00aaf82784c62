/- Lemmas on the walk and plain lemmas that the claim of this folder uses; each states its own conditions. Lines were printed by a program of ours. -/
import Derived.Test.YtkamccndgblheaaGreatZ6A
set_option linter.unusedVariables false
set_option linter.unusedSimpArgs false
set_option linter.unusedSectionVars false
namespace Go.Proofs.YtkamccndgblheaaGreat.Big
theorem valL_drop (A:List Int) (k:Nat):valL (A.drop k)=A.getD k 0+1000000000*valL (A.drop (k+1)):=by
  rcases Nat.lt_or_ge k A.length with h|h
  · rw [List.drop_eq_getElem_cons h,List.getD_eq_getElem?_getD,List.getElem?_eq_getElem h];rfl
  · rw [List.drop_eq_nil_of_le h,List.drop_eq_nil_of_le (by omega),List.getD_eq_getElem?_getD,List.getElem?_eq_none h];rfl
theorem valL_cut (A:List Int) (k:Nat) (h:k≤A.length):valL A=valL (A.take k)+pw k*valL (A.drop k):=by
  have h1:=valL_append (A.take k) (A.drop k)
  rw [List.take_append_drop,List.length_take,Nat.min_eq_left h] at h1;exact h1
theorem okL_drop {l:List Int} (h:okL l) (k:Nat):okL (l.drop k):=fun d hd=>h d (List.mem_of_mem_drop hd)
theorem valL_take_lt {l:List Int} (h:okL l) (k:Nat):0≤valL (l.take k)∧valL (l.take k)<pw k:=by
  have h1:=valL_lt (okL_take h k)
  have h2:=valL_nonneg (okL_take h k)
  have h3:=pw_mono (show (l.take k).length≤k by rw [List.length_take];omega)
  omega
theorem pad_set {n:Nat} {qs:List Int} (x:Int):(List.replicate (n+1) 0++qs).set n x=List.replicate n 0++x :: qs:=by
  rw [List.replicate_succ',List.append_assoc,List.set_append_right _ _ (by simp)];simp
structure ShI (A:List Int) (d:Int) (k:Nat) (qs:List Int) (r:Int):Prop where
  le:k≤A.length
  len:qs.length=A.length - k
  ok:okL qs
  r0:0≤r
  r1:r<d
  eq:valL qs*d+r=valL (A.drop k)
theorem ShI.start {A:List Int} {d:Int} (hd:0<d):ShI A d A.length [] 0:=⟨Nat.le_refl _,by simp,okL_nil,Int.le_refl _,hd,by simp [valL]⟩
theorem sh_digit {r d g:Int} (h0:0≤r) (h1:r<d) (hg:0≤g∧g<1000000000):0≤(r*1000000000+g) / d∧(r*1000000000+g) / d<1000000000:=by
  refine ⟨Int.ediv_nonneg (by omega) (by omega),?_⟩
  refine Int.ediv_lt_of_lt_mul (by omega) ?_
  have:(r+1)*1000000000≤d*1000000000:=Int.mul_le_mul_of_nonneg_right (by omega) (by decide)
  rw [Int.mul_comm d] at this;omega
theorem ShI.step {A:List Int} {d:Int} {k:Nat} {qs:List Int} {r:Int} (h:ShI A d (k+1) qs r) (hA:okL A):ShI A d k ((r*1000000000+A.getD k 0) / d :: qs) ((r*1000000000+A.getD k 0)%d):=by
  have hg:=okL_getD hA k
  have h0:=h.r0;have h1:=h.r1;have hle:=h.le
  have hd:0<d:=by omega
  refine ⟨by omega,by simp only [List.length_cons,h.len];omega,okL_cons.2 ⟨sh_digit h0 h1 hg,h.ok⟩,Int.emod_nonneg _ (by omega),Int.emod_lt_of_pos _ hd,?_⟩
  rw [valL_drop,←h.eq]
  have e:=Int.mul_ediv_add_emod (r*1000000000+A.getD k 0) d
  simp only [valL]
  rw [Int.add_mul,Int.mul_comm _ d]
  have e2:1000000000*valL qs*d=1000000000*(valL qs*d):=Int.mul_assoc _ _ _
  omega
theorem ShI.fin {a m:Nat} {qs:List Int} {r:Int} (h:ShI (digs a) (m:Int) 0 qs r):trimL qs=digs (a / m)∧r=((a%m:Nat):Int):=by
  have e:=h.eq;have h0:=h.r0;have h1:=h.r1;have hn:=valL_nonneg h.ok
  rw [List.drop_zero,valL_digs] at e
  have hq:valL qs=((a / m:Nat):Int):=by
    rw [Int.natCast_ediv]
    symm
    have e3:(a:Int)=r+valL qs*(m:Int):=by omega
    rw [e3,Int.add_mul_ediv_right _ _ (by omega),Int.ediv_eq_zero_of_lt h0 h1];omega
  refine ⟨trimL_of h.ok hq,?_⟩
  rw [Int.natCast_emod]
  have e3:(a:Int)=r+valL qs*(m:Int):=by omega
  rw [e3,Int.add_mul_emod_self_right,Int.emod_eq_of_lt h0 h1]
structure LgI (M n:Nat) (a v:Int) (jj:Nat) (u qs:List Int):Prop where
  ul:u.length=M
  uo:okL u
  ql:qs.length=M - n - jj
  qo:okL qs
  jle:jj+n≤M
  eq:valL u+v*pw jj*valL qs=a
  lt:valL u<v*pw jj
structure Gs (T v vt top g r:Int):Prop where
  eq:g*vt+r=top
  r0:0≤r
  g0:0≤g
  up:T<(g+1)*v
structure Tp (T v vt vs u2 u1 u0 w:Int):Prop where
  w1:1≤w
  vt1:1≤vt
  vt2:vt<1000000000
  vs0:0≤vs
  vs1:vs<1000000000
  a0:0≤u0∧u0<1000000000
  a1:0≤u1∧u1<1000000000
  a2:0≤u2∧u2<1000000000
  vlo:(vt*1000000000+vs)*w≤v
  vhi:v<(vt*1000000000+vs+1)*w
  tlo:((u2*1000000000+u1)*1000000000+u0)*w≤T
  thi:T<((u2*1000000000+u1)*1000000000+u0+1)*w
  tv:T<v*1000000000
theorem mul_le_of {a b w:Int} (hw:0≤w) (h:a≤b):a*w≤b*w:=Int.mul_le_mul_of_nonneg_right h hw
theorem lt_of_mul {a b w:Int} (hw:1≤w) (h:a*w<b*w):a<b:=Int.lt_of_mul_lt_mul_right h (by omega)
theorem Tp.top {T v vt vs u2 u1 u0 w:Int} (h:Tp T v vt vs u2 u1 u0 w):u2≤vt:=by
  have h1:=h.tlo;have h2:=h.tv;have h3:=h.vhi;have hw:=h.w1
  have h4:=h.a0;have h5:=h.a1;have h6:=h.vs1
  have h7:((u2*1000000000+u1)*1000000000+u0)*w<((vt*1000000000+vs+1)*1000000000)*w:=by
    have:v*1000000000<(vt*1000000000+vs+1)*w*1000000000:=by omega
    have e:(vt*1000000000+vs+1)*w*1000000000=((vt*1000000000+vs+1)*1000000000)*w:=by rw [Int.mul_assoc,Int.mul_assoc,Int.mul_comm w]
    omega
  have h8:=lt_of_mul hw h7
  omega
theorem Tp.start {T v vt vs u2 u1 u0 w:Int} (h:Tp T v vt vs u2 u1 u0 w):Gs T v vt (u2*1000000000+u1) ((u2*1000000000+u1) / vt) ((u2*1000000000+u1)%vt):=by
  have hv:=h.vt1;have h1:=h.a1;have h2:=h.a2;have hw:=h.w1
  have e:=Int.mul_ediv_add_emod (u2*1000000000+u1) vt
  have hr:=Int.emod_lt_of_pos (u2*1000000000+u1) (show 0<vt by omega)
  have hr0:=Int.emod_nonneg (u2*1000000000+u1) (show vt≠0 by omega)
  have hq0:0≤(u2*1000000000+u1) / vt:=Int.ediv_nonneg (by omega) (by omega)
  generalize (u2*1000000000+u1) / vt=g at*
  generalize (u2*1000000000+u1)%vt=r at*
  refine ⟨by rw [Int.mul_comm];exact e,hr0,hq0,?_⟩
  have ht:=h.thi;have hl:=h.vlo;have h0:=h.a0;have hs:=h.vs0
  have k1:(u2*1000000000+u1)*1000000000+u0+1≤(g+1)*(vt*1000000000+vs):=by
    have k2:(g+1)*(vt*1000000000+vs)=1000000000*(vt*g)+1000000000*vt+(g+1)*vs:=by grind
    have k3:0≤(g+1)*vs:=Int.mul_nonneg (by omega) hs
    omega
  have k4:=mul_le_of (show 0≤w by omega) k1
  have k5:(g+1)*(vt*1000000000+vs)*w≤(g+1)*v:=by rw [Int.mul_assoc];exact Int.mul_le_mul_of_nonneg_left hl (by omega)
  omega
theorem Gs.le {T v vt vs u2 u1 u0 w g r:Int} (h:Tp T v vt vs u2 u1 u0 w) (k:Gs T v vt (u2*1000000000+u1) g r):g≤2000000000∧r≤1000000000000000000:=by
  have h1:=h.top;have h2:=k.eq;have h3:=h.a1;have h4:=h.vt1;have h5:=k.r0;have h6:=k.g0;have h7:=h.vt2
  have h8:0≤g*vt:=Int.mul_nonneg h6 (by omega)
  refine ⟨?_,by omega⟩
  refine Decidable.byContradiction fun hc=> ?_
  have h9:2000000001*vt≤g*vt:=Int.mul_le_mul_of_nonneg_right (by omega) (by omega)
  omega
theorem Gs.step {T v vt vs u2 u1 u0 w g r:Int} (h:Tp T v vt vs u2 u1 u0 w) (k:Gs T v vt (u2*1000000000+u1) g r) (hc:1000000000≤g∨r*1000000000+u0<g*vs):1≤g∧Gs T v vt (u2*1000000000+u1) (g - 1) (r+vt):=by
  have hr:=k.r0;have hg:=k.g0;have he:=k.eq;have hv:=h.vt1;have h0:=h.a0;have hw:=h.w1
  have hg1:1≤g:=by
    rcases hc with hc|hc
    · omega
    · refine Decidable.byContradiction fun hn => ?_
      have:g=0:=by omega
      subst this;simp at hc;omega
  have hvp:0≤v:=by
    have h1:=h.vlo;have h2:=h.vs0
    have:0≤(vt*1000000000+vs)*w:=Int.mul_nonneg (by omega) (by omega)
    omega
  refine ⟨hg1,⟨by rw [Int.sub_mul];omega,by omega,by omega,?_⟩⟩
  rw [show g - 1+1=g by omega]
  rcases hc with hc|hc
  · have h1 := h.tv
    have:1000000000*v≤g*v:=mul_le_of hvp hc
    omega
  · have h1 := h.thi; have h2 := h.vlo
    have k1:(u2*1000000000+u1)*1000000000+u0+1≤g*(vt*1000000000+vs):=by
      have:g*(vt*1000000000+vs)=1000000000*(g*vt)+g*vs:=by grind
      omega
    have k4:=mul_le_of (show 0≤w by omega) k1
    have k5:g*(vt*1000000000+vs)*w≤g*v:=by rw [Int.mul_assoc];exact Int.mul_le_mul_of_nonneg_left h2 (by omega)
    omega
theorem Gs.fin {T v vt vs u2 u1 u0 w g r:Int} (h:Tp T v vt vs u2 u1 u0 w) (k:Gs T v vt (u2*1000000000+u1) g r) (h1:g<1000000000) (h2:g*vs≤r*1000000000+u0):g*v<T+v:=by
  have he:=k.eq;have hg:=k.g0;have hw:=h.w1;have hv:=h.vt1;have hs:=h.vs0
  have k1:g*(vt*1000000000+vs)≤(u2*1000000000+u1)*1000000000+u0:=by
    have:g*(vt*1000000000+vs)=1000000000*(g*vt)+g*vs:=by grind
    omega
  have k2:=mul_le_of (show 0≤w by omega) k1
  have k3:=h.tlo
  have hl:=h.vlo;have hh:=h.vhi
  have k4:g*(v - (vt*1000000000+vs)*w)≤g*w:=Int.mul_le_mul_of_nonneg_left (by rw [Int.add_mul (vt*1000000000+vs),Int.one_mul] at hh;omega) hg
  have k5:g*w≤999999999*w:=mul_le_of (by omega) (by omega)
  have k6:1000000000*w≤(vt*1000000000+vs)*w:=mul_le_of (by omega) (by omega)
  rw [Int.mul_sub,←Int.mul_assoc] at k4
  omega
theorem Gs.broke {T v vt vs u2 u1 u0 w g r:Int} (h:Tp T v vt vs u2 u1 u0 w) (k:Gs T v vt (u2*1000000000+u1) g r) (hb:1000000000≤r):g<1000000000∧g*vs≤r*1000000000+u0:=by
  have h1:=h.top;have he:=k.eq;have h3:=h.a1;have h4:=h.vt1;have hg:=k.g0;have h0:=h.a0
  have hlt:g<1000000000:=by
    refine Decidable.byContradiction fun hc=> ?_
    have:1000000000*vt≤g*vt:=mul_le_of (by omega) (by omega)
    omega
  refine ⟨hlt,?_⟩
  have hs:=h.vs1;have hs0:=h.vs0
  have:g*vs≤999999999*vs:=mul_le_of hs0 (by omega)
  omega
theorem LgI.T {M n:Nat} {a v:Int} {j:Nat} {u qs:List Int} (h:LgI M n a v (j+1) u qs):valL u=valL (u.take j)+pw j*valL (u.drop j)∧0≤valL (u.take j)∧valL (u.take j)<pw j∧0≤valL (u.drop j)∧valL (u.drop j)<v*1000000000:=by
  have h1:=valL_cut u j (by rw [h.ul];have:=h.jle;omega)
  have h2:=valL_take_lt h.uo j
  have h3:=valL_nonneg (okL_drop h.uo j)
  refine ⟨h1,h2.1,h2.2,h3,?_⟩
  have h4:=h.lt
  rw [pw_succ] at h4
  have h5:pw j*valL (u.drop j)<pw j*(v*1000000000):=by
    have:v*(1000000000*pw j)=pw j*(v*1000000000):=by ac_rfl
    omega
  exact Int.lt_of_mul_lt_mul_left h5 (Int.le_of_lt (pw_pos j))
theorem drop_high {l:List Int} (h:okL l) {k:Nat} (hv:valL l<pw k):valL (l.drop k)=0:=by
  rcases Nat.lt_or_ge l.length k with hk|hk
  · rw [List.drop_eq_nil_of_le (by omega)];rfl
  · have h1 := valL_cut l k hk
    have h2:=valL_nonneg (okL_take h k)
    have h3:=valL_nonneg (okL_drop h k)
    refine Decidable.byContradiction fun hc=> ?_
    have:pw k*1≤pw k*valL (l.drop k):=Int.mul_le_mul_of_nonneg_left (by omega) (Int.le_of_lt (pw_pos k))
    omega
theorem getD_drop' (l:List Int) (i k:Nat):(l.drop i).getD k 0=l.getD (i+k) 0:=by simp [List.getD_eq_getElem?_getD]
theorem digs_top {b:Nat} {n:Nat} (h:(digs b).length=n+1):1≤(digs b).getD n 0:=by
  have h1:=canon_digs (b:Int)
  unfold canon at h1
  rw [Int.natAbs_natCast,if_neg (by omega),h,Nat.add_sub_cancel] at h1
  have h2:=okL_getD (digs_ok b) n
  omega
theorem LgI.high {M n:Nat} {a:Int} {b j:Nat} {u qs:List Int} (h:LgI M n a (b:Int) (j+1) u qs) (hn:(digs b).length=n):valL (u.drop (j+(n+1)))=0:=by
  have ht:=h.T
  have hb:=digs_lt b
  rw [hn] at hb
  have:=drop_high (okL_drop h.uo j) (k:=n+1) (by rw [pw_succ];omega)
  rw [List.drop_drop] at this;exact this
theorem LgI.tp {M m:Nat} {a:Int} {b j:Nat} {u qs:List Int} (h:LgI M (m+2) a (b:Int) (j+1) u qs) (hn:(digs b).length=m+2):Tp (valL (u.drop j)) b ((digs b).getD (m+1) 0) ((digs b).getD m 0) (u.getD (j+(m+2)) 0) (u.getD (j+(m+1)) 0) (u.getD (j+m) 0) (pw m):=by
  have ht:=h.T
  have hh:=h.high hn
  have hvb:=valL_digs b
  have e1:valL (digs b)=valL ((digs b).take m)+pw m*valL ((digs b).drop m):=valL_cut _ _ (by omega)
  have e2:valL ((digs b).drop m)=(digs b).getD m 0+1000000000*(digs b).getD (m+1) 0:=by
    rw [valL_drop,valL_drop,List.drop_eq_nil_of_le (show (digs b).length≤m+1+1 by omega)];simp [valL]
  have e3:=valL_take_lt (digs_ok b) m
  have f1:valL (u.drop j)=valL ((u.drop j).take m)+pw m*valL ((u.drop j).drop m):=valL_cut _ _ (by rw [List.length_drop,h.ul];have:=h.jle;omega)
  have f2:valL ((u.drop j).drop m)=u.getD (j+m) 0+1000000000*(u.getD (j+(m+1)) 0+1000000000*u.getD (j+(m+2)) 0):=by
    rw [List.drop_drop,valL_drop,valL_drop,valL_drop,show j+m+1+1+1=j+(m+2+1) by omega,hh,show j+m+1=j+(m+1) by omega,show j+(m+1)+1=j+(m+2) by omega];omega
  have f3:=valL_take_lt (okL_drop h.uo j) m
  have hp:=pw_pos m
  have ob:=digs_ok b
  have g1:=okL_getD ob (m+1);have g0:=okL_getD ob m
  have c0:=okL_getD h.uo (j+m);have c1:=okL_getD h.uo (j+(m+1));have c2:=okL_getD h.uo (j+(m+2))
  refine ⟨by omega,digs_top (n:=m+1) hn,g1.2,g0.1,g0.2,c0,c1,c2,?_,?_,?_,?_,ht.2.2.2.2⟩
  · rw [← hvb, e1, e2]
    have:(digs b).getD (m+1) 0*1000000000+(digs b).getD m 0=(digs b).getD m 0+1000000000*(digs b).getD (m+1) 0:=by omega
    rw [this,Int.mul_comm];omega
  · rw [← hvb, e1, e2]
    have:(digs b).getD (m+1) 0*1000000000+(digs b).getD m 0+1=((digs b).getD m 0+1000000000*(digs b).getD (m+1) 0)+1:=by omega
    rw [this,Int.add_mul,Int.mul_comm _ (pw m)];omega
  · rw [f1, f2]
    have:(u.getD (j+(m+2)) 0*1000000000+u.getD (j+(m+1)) 0)*1000000000+u.getD (j+m) 0=u.getD (j+m) 0+1000000000*(u.getD (j+(m+1)) 0+1000000000*u.getD (j+(m+2)) 0):=by omega
    rw [this,Int.mul_comm];omega
  · rw [f1, f2]
    have:(u.getD (j+(m+2)) 0*1000000000+u.getD (j+(m+1)) 0)*1000000000+u.getD (j+m) 0+1=(u.getD (j+m) 0+1000000000*(u.getD (j+(m+1)) 0+1000000000*u.getD (j+(m+2)) 0))+1:=by omega
    rw [this,Int.add_mul,Int.mul_comm _ (pw m)];omega
structure MsI (u:List Int) (j:Nat) (g:Int) (v:List Int) (i:Nat) (u2:List Int) (bo ca:Int):Prop where
  len:u2.length=u.length
  ok:okL u2
  b0:0≤bo
  b1:bo≤1
  c0:0≤ca
  c1:ca<1000000000
  far:∀k,j+i≤k→u2.getD k 0=u.getD k 0
  eq:valL u2=valL u - pw j*(g*valL (v.take i))+pw (j+i)*(bo+ca)
theorem MsI.start {u:List Int} (h:okL u) (j:Nat) (g:Int) (v:List Int):MsI u j g v 0 u 0 0:=⟨rfl,h,by decide,by decide,by decide,by decide,fun _ _=>rfl,by simp [valL]⟩
theorem ms_carry {g x ca:Int} (hg:0≤g∧g<1000000000) (hx:0≤x∧x<1000000000) (hc:0≤ca∧ca<1000000000):0≤g*x+ca∧g*x+ca≤999999999000000000∧0≤(g*x+ca) / 1000000000∧(g*x+ca) / 1000000000<1000000000:=by
  have h1:0≤g*x:=Int.mul_nonneg hg.1 hx.1
  have h2:g*x≤999999999*x:=mul_le_of hx.1 (by omega)
  omega
theorem MsI.step {u:List Int} {j:Nat} {g:Int} {v:List Int} {i:Nat} {u2:List Int} {bo ca y bo2:Int} (h:MsI u j g v i u2 bo ca) (hg:0≤g∧g<1000000000) (hv:okL v) (hj:j+i<u.length)
    (hy:y=u2.getD (j+i) 0 - bo - (g*v.getD i 0+ca)%1000000000+1000000000*bo2) (hy0:0≤y∧y<1000000000) (hb:0≤bo2∧bo2≤1):MsI u j g v (i+1) (u2.set (j+i) y) bo2 ((g*v.getD i 0+ca) / 1000000000):=by
  have hc:=ms_carry hg (okL_getD hv i) ⟨h.c0,h.c1⟩
  refine ⟨by rw [List.length_set];exact h.len,okL_set h.ok hy0.1 hy0.2,hb.1,hb.2,hc.2.2.1,hc.2.2.2,fun k hk=>by rw [getD_set_ne (by omega)];exact h.far k (by omega),?_⟩
  rw [valL_set y (by rw [h.len];exact hj),h.eq,valL_take_succ,hy]
  have e:=Int.mul_ediv_add_emod (g*v.getD i 0+ca) 1000000000
  rw [← Nat.add_assoc,pw_succ,pw_add]
  generalize (g*v.getD i 0+ca) / 1000000000=q at*
  generalize (g*v.getD i 0+ca)%1000000000=r at*
  have e2:r=g*v.getD i 0+ca - 1000000000*q:=by omega
  subst e2
  grind
structure AbI (u:List Int) (j:Nat) (v:List Int) (i:Nat) (u2:List Int) (ca:Int):Prop where
  len:u2.length=u.length
  ok:okL u2
  c0:0≤ca
  c1:ca≤1
  far:∀k,j+i≤k→u2.getD k 0=u.getD k 0
  eq:valL u2=valL u+pw j*valL (v.take i) - pw (j+i)*ca
theorem AbI.start {u:List Int} (h:okL u) (j:Nat) (v:List Int):AbI u j v 0 u 0:=⟨rfl,h,by decide,by decide,fun _ _=>rfl,by simp [valL]⟩
theorem AbI.step {u:List Int} {j:Nat} {v:List Int} {i:Nat} {u2:List Int} {ca y c2:Int} (h:AbI u j v i u2 ca) (hj:j+i<u.length)
    (hy:y=u2.getD (j+i) 0+v.getD i 0+ca - 1000000000*c2) (hy0:0≤y∧y<1000000000) (hb:0≤c2∧c2≤1):AbI u j v (i+1) (u2.set (j+i) y) c2:=by
  refine ⟨by rw [List.length_set];exact h.len,okL_set h.ok hy0.1 hy0.2,hb.1,hb.2,fun k hk=>by rw [getD_set_ne (by omega)];exact h.far k (by omega),?_⟩
  rw [valL_set y (by rw [h.len];exact hj),h.eq,valL_take_succ,hy]
  rw [← Nat.add_assoc,pw_succ,pw_add]
  grind
theorem LgI.next {M n:Nat} {a v:Int} {j:Nat} {u qs:List Int} (h:LgI M n a v (j+1) u qs) {u':List Int} {g:Int} (hl:u'.length=M) (ho:okL u') (hg:0≤g∧g<1000000000) (he:valL u'=valL u - pw j*(g*v)) (hlt:valL u'<v*pw j):LgI M n a v j u' (g :: qs):=by
  have hj:=h.jle
  refine ⟨hl,ho,by rw [List.length_cons,h.ql];omega,okL_cons.2 ⟨hg,h.qo⟩,by omega,?_,hlt⟩
  rw [he,←h.eq,pw_succ]
  simp only [valL]
  grind
theorem LgI.bound {M n:Nat} {a v:Int} {j:Nat} {u qs:List Int} (h:LgI M n a v (j+1) u qs) {g:Int} (hup:valL (u.drop j)<(g+1)*v):valL u<pw j*((g+1)*v):=by
  obtain ⟨h1,h2,h3,h4,_⟩:=h.T
  have:pw j*(valL (u.drop j)+1)≤pw j*((g+1)*v):=Int.mul_le_mul_of_nonneg_left (by omega) (Int.le_of_lt (pw_pos j))
  rw [Int.mul_add,Int.mul_one] at this;omega
theorem LgI.low {M n:Nat} {a v:Int} {j:Nat} {u qs:List Int} (h:LgI M n a v (j+1) u qs) {g:Int} (hdn:g*v<valL (u.drop j)+v):pw j*(g*v)<valL u+pw j*v:=by
  obtain ⟨h1,h2,h3,h4,_⟩:=h.T
  have:pw j*(g*v+1)≤pw j*(valL (u.drop j)+v):=Int.mul_le_mul_of_nonneg_left (by omega) (Int.le_of_lt (pw_pos j))
  rw [Int.mul_add,Int.mul_add,Int.mul_one] at this
  have:=pw_pos j;omega
theorem at_split {u:List Int} {k:Nat} (hk:k<u.length) (h0:valL (u.drop (k+1))=0):valL u=valL (u.take k)+pw k*u.getD k 0:=by
  rw [valL_cut u k (by omega),valL_drop u k,h0];simp
theorem drop_far {u u2:List Int} {k:Nat} (hl:u2.length=u.length) (h:∀i,k≤i→u2.getD i 0=u.getD i 0):u2.drop k=u.drop k:=
  ext_getD (by simp [hl]) (fun i hi=>by rw [getD_drop',getD_drop'];exact h _ (by omega))
theorem LgI.pos {M n:Nat} {a:Int} {b j:Nat} {u qs:List Int} (h:LgI M n a (b:Int) (j+1) u qs) {g:Int} (hg:0≤g∧g<1000000000) (hup:valL (u.drop j)<(g+1)*(b:Int))
    {u2:List Int} {bo ca:Int} (hm:MsI u j g (digs b) n u2 bo ca) (hn:(digs b).length=n) (hd:0≤u2.getD (j+n) 0 - bo - ca):LgI M n a (b:Int) j (u2.set (j+n) (u2.getD (j+n) 0 - bo - ca)) (g :: qs):=by
  have hj:=h.jle
  have hx:=okL_getD hm.ok (j+n)
  have h1:=hm.b0;have h2:=hm.c0
  have he:valL (u2.set (j+n) (u2.getD (j+n) 0 - bo - ca))=valL u - pw j*(g*(b:Int)):=by
    rw [valL_set _ (by rw [hm.len,h.ul];omega),hm.eq,List.take_of_length_le (by omega),valL_digs]
    grind
  refine h.next (by rw [List.length_set,hm.len,h.ul]) (okL_set hm.ok hd (by omega)) hg he ?_
  have:=h.bound hup
  rw [he]
  have e:pw j*((g+1)*(b:Int))=pw j*(g*(b:Int))+(b:Int)*pw j:=by grind
  omega
theorem LgI.neg1 {M n:Nat} {a:Int} {b j:Nat} {u qs:List Int} (h:LgI M n a (b:Int) (j+1) u qs) {g:Int}
    {u2:List Int} {bo ca:Int} (hm:MsI u j g (digs b) n u2 bo ca) (hn:(digs b).length=n) (hd:u2.getD (j+n) 0 - bo - ca<0):g≠0:=fun hg=>by
  subst hg
  have hj:=h.jle
  have hlen2:j+n<u2.length:=by rw [hm.len,h.ul];omega
  have hhi2:valL (u2.drop (j+n+1))=0:=by rw [drop_far hm.len (fun i hi=>hm.far i (by omega))];exact h.high hn
  have s2:=at_split hlen2 hhi2
  have t2:=valL_take_lt hm.ok (j+n)
  have hp:=pw_pos (j+n)
  have e:=hm.eq
  have:pw (j+n)*(u2.getD (j+n) 0 - bo - ca)≤pw (j+n)*(-1):=Int.mul_le_mul_of_nonneg_left (by omega) (Int.le_of_lt hp)
  rw [Int.mul_sub,Int.mul_sub] at this
  rw [Int.mul_add,Int.zero_mul,Int.mul_zero] at e
  have:=valL_nonneg h.uo
  omega
theorem LgI.neg {M n:Nat} {a:Int} {b j:Nat} {u qs:List Int} (h:LgI M n a (b:Int) (j+1) u qs) {g:Int} (hg:0≤g∧g<1000000000) (hdn:g*(b:Int)<valL (u.drop j)+(b:Int)) (hup:valL (u.drop j)<(g+1)*(b:Int))
    {u2:List Int} {bo ca:Int} (hm:MsI u j g (digs b) n u2 bo ca) (hn:(digs b).length=n) (hd:u2.getD (j+n) 0 - bo - ca<0)
    {u4:List Int} {c:Int} (hb:AbI (u2.set (j+n) (u2.getD (j+n) 0 - bo - ca+1000000000)) j (digs b) n u4 c):1≤g∧LgI M n a (b:Int) j (u4.set (j+n) ((u4.getD (j+n) 0+c)%1000000000)) ((g - 1) :: qs):=by
  have hj:=h.jle
  have hx:=okL_getD hm.ok (j+n)
  have hy:=okL_getD hb.ok (j+n)
  have h1:=hm.b0;have h2:=hm.c0;have h3:=hm.b1;have h4:=hm.c1;have c0:=hb.c0;have c1:=hb.c1
  have hlen2:j+n<u2.length:=by rw [hm.len,h.ul];omega
  have hlen4:j+n<u4.length:=by rw [hb.len,List.length_set];exact hlen2
  have hhi:=h.high hn
  have hhi2:valL (u2.drop (j+n+1))=0:=by rw [drop_far hm.len (fun i hi=>hm.far i (by omega))];exact hhi
  have s2:=at_split hlen2 hhi2
  have t2:=valL_take_lt hm.ok (j+n)
  have hp:=pw_pos (j+n)
  -- what the subtraction left is below 0
  have hS:valL u - pw j*(g*(b:Int))<0:=by
    have e:=hm.eq
    rw [List.take_of_length_le (by omega),valL_digs] at e
    have:pw (j+n)*(u2.getD (j+n) 0 - bo - ca)≤pw (j+n)*(-1):=Int.mul_le_mul_of_nonneg_left (by omega) (Int.le_of_lt hp)
    rw [Int.mul_sub,Int.mul_sub] at this
    rw [Int.mul_add] at e
    omega
  have hlow:=h.low hdn
  have hg1:1≤g:=by
    refine Decidable.byContradiction fun hc=> ?_
    have:g=0:=by omega
    subst this
    have:=valL_nonneg h.uo
    simp at hS;omega
  refine ⟨hg1,?_⟩
  have e4:=hb.eq
  rw [List.take_of_length_le (by omega),valL_digs,valL_set _ hlen2] at e4
  have e2:=hm.eq
  rw [List.take_of_length_le (by omega),valL_digs] at e2
  have hhi4:valL (u4.drop (j+n+1))=0:=by
    rw [drop_far (u:=u2.set (j+n) (u2.getD (j+n) 0 - bo - ca+1000000000)) hb.len (fun i hi=>hb.far i (by omega)),drop_far (u:=u2) (by simp) (fun i hi=>getD_set_ne (by omega) _)];exact hhi2
  have s4:=at_split hlen4 hhi4
  have t4:=valL_take_lt hb.ok (j+n)
  have hk:=Int.mul_ediv_add_emod (u4.getD (j+n) 0+c) 1000000000
  have hk0:=Int.emod_nonneg (u4.getD (j+n) 0+c) (show (1000000000:Int)≠0 by decide)
  have hk1:=Int.emod_lt_of_pos (u4.getD (j+n) 0+c) (show (0:Int)<1000000000 by decide)
  have hset:valL (u4.set (j+n) ((u4.getD (j+n) 0+c)%1000000000))=valL u4+pw (j+n)*((u4.getD (j+n) 0+c)%1000000000 - u4.getD (j+n) 0):=valL_set _ hlen4
  have hbig:(b:Int)<pw n:=by rw [← hn];exact digs_lt b
  have hbw:pw j*(b:Int)<pw (j+n):=by rw [pw_add];exact Int.mul_lt_mul_of_pos_left hbig (pw_pos j)
  -- the last group overflows
  have hco:(u4.getD (j+n) 0+c) / 1000000000=1:=by
    have hq:(u4.getD (j+n) 0+c) / 1000000000=0∨(u4.getD (j+n) 0+c) / 1000000000=1:=by omega
    rcases hq with hq|hq
    · exfalso
      have hy2:u4.getD (j+n) 0+c≤999999999:=by omega
      have m1:pw (j+n)*(u4.getD (j+n) 0+c)≤pw (j+n)*999999999:=Int.mul_le_mul_of_nonneg_left hy2 (Int.le_of_lt hp)
      rw [Int.mul_add] at m1
      have m2:pw (j+n)*(u2.getD (j+n) 0 - bo - ca+1000000000 - u2.getD (j+n) 0)=pw (j+n)*1000000000 - pw (j+n)*(bo+ca):=by grind
      rw [m2] at e4
      omega
    · exact hq
  have he:valL (u4.set (j+n) ((u4.getD (j+n) 0+c)%1000000000))=valL u - pw j*((g - 1)*(b:Int)):=by
    rw [hset,e4,e2]
    have hr:(u4.getD (j+n) 0+c)%1000000000=u4.getD (j+n) 0+c - 1000000000:=by omega
    rw [hr]
    grind
  refine h.next (by rw [List.length_set,hb.len,List.length_set,hm.len,h.ul]) (okL_set hb.ok hk0 hk1) ⟨by omega,by omega⟩ he ?_
  rw [he]
  have e:pw j*((g - 1)*(b:Int))=pw j*(g*(b:Int)) - (b:Int)*pw j:=by grind
  omega
theorem LgI.start {M n a b:Nat} {u:List Int} (ho:okL u) (hl:u.length=M) (hv:valL u=(a:Int)) (hn:(digs b).length=n) (hM:n+1≤M) (hu:valL u<pw (M - 1)) (h1:1≤n):LgI M n (a:Int) (b:Int) (M - n) u []:=by
  refine ⟨hl,ho,by simp,okL_nil,by omega,by rw [hv];simp [valL],?_⟩
  have h2:pw (n - 1)≤(b:Int):=digs_low (by omega)
  have h3:pw (M - 1)=pw (n - 1)*pw (M - n):=by rw [← pw_add];congr 1;omega
  have h4:pw (n - 1)*pw (M - n)≤(b:Int)*pw (M - n):=mul_le_of (Int.le_of_lt (pw_pos _)) h2
  omega
theorem LgI.fin {M n a b:Nat} {u qs:List Int} (h:LgI M n (a:Int) (b:Int) 0 u qs) (hn:(digs b).length=n):trimL qs=digs (a / b)∧trimL (u.take n)=digs (a%b):=by
  have e:=h.eq;have hlt:=h.lt
  rw [pw_zero,Int.mul_one] at e hlt
  have h0:=valL_nonneg h.uo;have hq0:=valL_nonneg h.qo
  have hu:valL u=((a%b:Nat):Int):=by
    rw [Int.natCast_emod,←e,Int.add_mul_emod_self_left,Int.emod_eq_of_lt h0 hlt]
  have hq:valL qs=((a / b:Nat):Int):=by
    rw [Int.natCast_ediv,←e,Int.add_mul_ediv_left _ _ (by omega),Int.ediv_eq_zero_of_lt h0 hlt];omega
  refine ⟨trimL_of h.qo hq,trimL_of (okL_take h.uo n) ?_⟩
  have h1:=h.jle
  have hc:=valL_cut u n (by rw [h.ul];omega)
  have hz:valL (u.drop n)=0:=drop_high h.uo (by have:=digs_lt b;rw [hn] at this;omega)
  rw [hz,Int.mul_zero,Int.add_zero] at hc
  rw [← hc,hu]
end Go.Proofs.YtkamccndgblheaaGreat.Big
namespace Go.Proofs.YtkamccndgblheaaGreat.Big
def fq (x y:Int):Int:=if 0<y then x / y else (-x) / (-y)
def fr (x y:Int):Int:=x - y*fq x y
theorem ediv_of {x y q r:Int} (h:x=y*q+r) (h0:0≤r) (h1:r<y):x / y=q:=by
  rw [h,Int.add_comm,Int.add_mul_ediv_left _ _ (by omega),Int.ediv_eq_zero_of_lt h0 h1];omega
theorem fq_of {x y q r:Int} (h:x=y*q+r) (hr:(0<y∧0≤r∧r<y)∨(y<0∧y<r∧r≤0)):fq x y=q∧fr x y=r:=by
  have e:fq x y=q:=by
    unfold fq
    rcases hr with ⟨h1,h2,h3⟩|⟨h1,h2,h3⟩
    · rw [if_pos h1];exact ediv_of h h2 h3
    · rw [if_neg (by omega)]
      exact ediv_of (r:= -r) (by rw [h,Int.neg_mul];omega) (by omega) (by omega)
  refine ⟨e,?_⟩
  unfold fr;rw [e];omega
theorem abs_split (x y:Int):(x.natAbs:Int)=(y.natAbs:Int)*((x.natAbs / y.natAbs:Nat):Int)+((x.natAbs%y.natAbs:Nat):Int):=by
  rw [← Int.natCast_mul,←Int.natCast_add,Nat.div_add_mod]
theorem sg_t (n:Int):sg true n= -n:=rfl
theorem sg_f (n:Int):sg false n=n:=rfl
theorem fq_same {x y:Int} (hy:y≠0) (h:decide (x<0)=decide (y<0)):sg false ((x.natAbs / y.natAbs:Nat):Int)=fq x y∧sg (decide (y<0)) ((x.natAbs%y.natAbs:Nat):Int)=fr x y:=by
  have e:=abs_split x y
  have hlt:=Nat.mod_lt x.natAbs (show 0<y.natAbs by omega)
  generalize x.natAbs / y.natAbs=q at*
  generalize x.natAbs%y.natAbs=r at*
  rw [sg_f]
  by_cases hy0:y<0
  · have hx : x < 0 := by simpa [hy0] using h
    rw [decide_eq_true hy0,sg_t]
    have:=fq_of (x:=x) (y:=y) (q:=(q:Int)) (r:= -(r:Int)) (by
      have h1:(y.natAbs:Int)= -y:=by omega
      rw [h1,Int.neg_mul] at e;omega) (.inr (by omega))
    exact ⟨this.1.symm,this.2.symm⟩
  · have hx : ¬ x < 0 := by simpa [hy0] using h
    rw [decide_eq_false hy0,sg_f]
    have:=fq_of (x:=x) (y:=y) (q:=(q:Int)) (r:=(r:Int)) (by
      have h1:(y.natAbs:Int)=y:=by omega
      rw [h1] at e;omega) (.inl (by omega))
    exact ⟨this.1.symm,this.2.symm⟩
theorem fq_even {x y:Int} (hy:y≠0) (h:¬decide (x<0)=decide (y<0)) (hr:x.natAbs%y.natAbs=0):sg true ((x.natAbs / y.natAbs:Nat):Int)=fq x y∧sg (decide (y<0)) ((x.natAbs%y.natAbs:Nat):Int)=fr x y:=by
  have e:=abs_split x y
  rw [hr] at e ⊢
  generalize x.natAbs / y.natAbs=q at*
  rw [sg_t,show sg (decide (y<0)) ((0:Nat):Int)=0 from sg_zero _]
  have hs:x=y*(-(q:Int))+0:=by
    rw [Int.mul_neg]
    by_cases hy0:y<0
    · have hx : ¬ x < 0 := by simpa [hy0] using h
      have h1:(y.natAbs:Int)= -y:=by omega
      rw [h1,Int.neg_mul] at e;omega
    · have hx : x < 0 := by simpa [hy0] using h
      have h1:(y.natAbs:Int)=y:=by omega
      rw [h1] at e;omega
  have:=fq_of hs (by omega)
  exact ⟨this.1.symm,this.2.symm⟩
theorem fq_odd {x y:Int} (hy:y≠0) (h:¬decide (x<0)=decide (y<0)) (hr:x.natAbs%y.natAbs≠0):sg true ((x.natAbs / y.natAbs+1:Nat):Int)=fq x y∧sg (decide (y<0)) ((y.natAbs - x.natAbs%y.natAbs:Nat):Int)=fr x y:=by
  have e:=abs_split x y
  have hlt:=Nat.mod_lt x.natAbs (show 0<y.natAbs by omega)
  generalize x.natAbs / y.natAbs=q at*
  generalize x.natAbs%y.natAbs=r at*
  rw [sg_t]
  by_cases hy0:y<0
  · have hx : ¬ x < 0 := by simpa [hy0] using h
    rw [decide_eq_true hy0,sg_t]
    have:=fq_of (x:=x) (y:=y) (q:= -((q+1:Nat):Int)) (r:= -((y.natAbs - r:Nat):Int)) (by
      have h1:(y.natAbs:Int)= -y:=by omega
      rw [h1,Int.neg_mul] at e
      rw [Int.mul_neg,Int.natCast_add,Int.mul_add];omega) (.inr (by omega))
    exact ⟨this.1.symm,this.2.symm⟩
  · have hx : x < 0 := by simpa [hy0] using h
    rw [decide_eq_false hy0,sg_f]
    have:=fq_of (x:=x) (y:=y) (q:= -((q+1:Nat):Int)) (r:=((y.natAbs - r:Nat):Int)) (by
      have h1:(y.natAbs:Int)=y:=by omega
      rw [h1] at e
      rw [Int.mul_neg,Int.natCast_add,Int.mul_add];omega) (.inl (by omega))
    exact ⟨this.1.symm,this.2.symm⟩
theorem fr_nonneg {x y:Int} (h:0<y):fq x y=x / y∧fr x y=x%y:=by
  have e:fq x y=x / y:=by unfold fq;rw [if_pos h]
  refine ⟨e,?_⟩
  unfold fr;rw [e]
  have:=Int.mul_ediv_add_emod x y;omega
theorem gcd_rest {a b:Nat}:Nat.gcd b (a%b)=Nat.gcd a b:=by rw [Nat.gcd_comm b,←Nat.gcd_rec,Nat.gcd_comm]
theorem ln_mono' {a b:Nat} (h:a≤b):(digs a).length≤(digs b).length:=by
  refine digs_len ?_
  have:=digs_lt b;omega
theorem len_mul_ge {a s:Nat} (h:1≤s):(digs a).length≤(digs (a*s)).length:=ln_mono' (Nat.le_mul_of_pos_right a h)
theorem len_mul_le (a s:Nat):(digs (a*s)).length≤(digs a).length+(digs s).length:=by
  refine digs_len ?_
  rw [Int.natCast_mul,pw_add]
  have h1:(a:Int)*s≤pw (digs a).length*s:=Int.mul_le_mul_of_nonneg_right (Int.le_of_lt (digs_lt a)) (by omega)
  have h2:pw (digs a).length*(s:Int)<pw (digs a).length*pw (digs s).length:=Int.mul_lt_mul_of_pos_left (digs_lt s) (pw_pos _)
  omega
theorem scale_len {b n:Nat} (hn:(digs b).length=n+1) {s:Nat} (hs:s=(1000000000 / ((digs b).getD n 0+1)).toNat):1≤s∧s≤500000000∧(digs (b*s)).length=n+1:=by
  have ht:=digs_top hn
  have ho:=okL_getD (digs_ok b) n
  have h1:1≤1000000000 / ((digs b).getD n 0+1):=by
    refine Int.le_ediv_of_mul_le (by omega) (by omega)
  have h2:1000000000 / ((digs b).getD n 0+1)≤500000000:=by
    refine Int.ediv_le_of_le_mul (by omega) (by omega)
  have hs1:(s:Int)=1000000000 / ((digs b).getD n 0+1):=by rw [hs];exact Int.toNat_of_nonneg (by omega)
  refine ⟨by omega,by omega,?_⟩
  have hge:=len_mul_ge (a:=b) (s:=s) (by omega)
  have hle:(digs (b*s)).length≤n+1:=by
    refine digs_len ?_
    have hv:=valL_digs b
    have hc:=valL_cut (digs b) n (by omega)
    have hd:valL ((digs b).drop n)=(digs b).getD n 0:=by rw [valL_drop,List.drop_eq_nil_of_le (by omega)];simp [valL]
    have hl:=valL_take_lt (digs_ok b) n
    rw [hd] at hc
    have hp:=pw_pos n
    have hb:(b:Int)<((digs b).getD n 0+1)*pw n:=by rw [Int.add_mul,Int.mul_comm _ (pw n)];omega
    have hm:((digs b).getD n 0+1)*(s:Int)≤1000000000:=by rw [hs1];exact Int.mul_ediv_self_le (by omega)
    rw [Int.natCast_mul,pw_succ]
    have h3:(b:Int)*s<((digs b).getD n 0+1)*pw n*s:=Int.mul_lt_mul_of_pos_right hb (by omega)
    have h4:((digs b).getD n 0+1)*pw n*s=((digs b).getD n 0+1)*s*pw n:=by ac_rfl
    have h5:((digs b).getD n 0+1)*(s:Int)*pw n≤1000000000*pw n:=mul_le_of (Int.le_of_lt hp) hm
    omega
  omega
theorem scale_div {a b s:Nat} (hs:1≤s):a*s / (b*s)=a / b∧a*s%(b*s) / s=a%b:=by
  refine ⟨Nat.mul_div_mul_right a b (by omega),?_⟩
  rw [Nat.mul_mod_mul_right,Nat.mul_div_cancel _ (by omega)]
theorem digs_one {s:Nat} (h1:1≤s) (h2:s<1000000000):digs s=[(s:Int)]:=by
  rw [digs_pos (by omega),Nat.mod_eq_of_lt h2,Nat.div_eq_of_lt h2,digs_zero]
theorem mul_lim3 {g x:Int} (h0:0≤g) (h1:g≤2000000000) (h2:0≤x) (h3:x<1000000000):0≤g*x∧g*x≤2000000000000000000:=by
  have a:=Int.mul_nonneg h0 h2
  have b:g*x≤2000000000*x:=mul_le_of h2 h1
  omega
theorem one_digit {b:Nat} (h:(digs b).length=1):(digs b).getD 0 0=(b:Int):=by
  have h1:=valL_cut (digs b) 0 (Nat.zero_le _)
  have h2:=valL_drop (digs b) 0
  rw [List.drop_eq_nil_of_le (show (digs b).length≤0+1 by omega)] at h2
  rw [valL_digs,h2] at h1
  simp [valL,pw_zero] at h1;exact h1.symm
theorem zHe {b:Nat} (h:0<b):1≤(digs b).length:=by
  refine Nat.pos_of_ne_zero fun e=> ?_
  have:=len_digs_nil.1 e;omega
theorem two_lt {a:Nat} (h:(digs a).length≤2):a<1000000000000000000:=by
  have h1:=digs_lt a
  have h2:=pw_mono h
  have:pw 2=1000000000000000000:=by decide
  omega
theorem word_step {A:List Int} (k:Nat):valL (A.drop (k+1))*1000000000+A.getD k 0=valL (A.drop k):=by rw [valL_drop A k];omega
theorem word_keep {a k:Nat} {z:Int} (h:k+1≤(digs a).length) (hz:z=valL ((digs a).drop (k+1))):(z*1000000000+(digs a).getD k 0)*pw k≤(a:Int):=by
  have h1:=valL_cut (digs a) k (by omega)
  rw [valL_digs,valL_drop,←hz] at h1
  have h2:=valL_take_lt (digs_ok a) k
  have:(z*1000000000+(digs a).getD k 0)*pw k=pw k*((digs a).getD k 0+1000000000*z):=by grind
  omega
theorem word_lim {a k:Nat} {z:Int} (hl:(digs a).length≤2) (h:k+1≤(digs a).length) (h0:0≤z) (hp:z*pw (k+1)≤(a:Int)):z<1000000000:=by
  have h1:=two_lt hl
  have h2:=pw_mono (show 1≤k+1 by omega)
  have h3:pw 1=1000000000:=by decide
  refine Decidable.byContradiction fun hc=> ?_
  have h4:1000000000*pw (k+1)≤z*pw (k+1):=mul_le_of (Int.le_of_lt (pw_pos _)) (by omega)
  omega
theorem cmp_b (x y:Int): -1≤cmp x y∧cmp x y≤1:=by unfold cmp;split <;> (try split) <;> decide
theorem cmp_of {x y u v:Int} (h1:x<y↔u<v) (h2:y<x↔v<u):cmp x y=cmp u v:=by
  unfold cmp;simp only [h1,h2]
theorem cmp_flip (x y:Int): - cmp x y=cmp y x:=by
  unfold cmp
  by_cases h1:x<y
  · rw [if_pos h1,if_neg (by omega),if_pos h1];rfl
  · by_cases h2 : y < x
    · rw [if_neg h1,if_pos h2,if_pos h2]
    · rw [if_neg h1,if_neg h2,if_neg h2,if_neg h1];rfl
theorem sign_le {x:Int}:(x<0∧x.sign= -1)∨(x=0∧x.sign=0)∨(0<x∧x.sign=1):=by
  rcases Int.lt_trichotomy x 0 with h|h|h
  · exact .inl ⟨h,Int.sign_eq_neg_one_of_neg h⟩
  · exact .inr (.inl ⟨h,by rw [h];rfl⟩)
  · exact .inr (.inr ⟨h,Int.sign_eq_one_of_pos h⟩)
theorem cmp_signs {x y:Int} (h:x.sign≠y.sign):cmp x y=cmp x.sign y.sign:=by
  have h1:=sign_le (x:=x);have h2:=sign_le (x:=y)
  exact cmp_of (by omega) (by omega)
theorem cmp_neg {x y:Int} (h:¬x.sign≠y.sign) (hx:x<0):cmp x y= - cmp (x.natAbs:Int) (y.natAbs:Int):=by
  have h1:=sign_le (x:=x);have h2:=sign_le (x:=y)
  rw [cmp_flip];exact cmp_of (by omega) (by omega)
theorem cmp_pos {x y:Int} (h:¬x.sign≠y.sign) (hx:¬x<0):cmp x y=cmp (x.natAbs:Int) (y.natAbs:Int):=by
  have h1:=sign_le (x:=x);have h2:=sign_le (x:=y)
  exact cmp_of (by omega) (by omega)
end Go.Proofs.YtkamccndgblheaaGreat.Big
namespace Go.Proofs.YtkamccndgblheaaGreat.Big
structure ScI (A:List Int) (d:Int) (i:Nat) (os:List Int) (cy:Int):Prop where
  le:i≤A.length
  len:os.length=i
  ok:okL os
  c0:0≤cy
  c1:cy<1000000000
  val:valL os+pw i*cy=valL (A.take i)*d
theorem ScI.start (A:List Int) (d:Int):ScI A d 0 [] 0:=⟨Nat.zero_le _,rfl,okL_nil,by decide,by decide,by simp [valL]⟩
theorem sc_lim {x d cy:Int} (hx:0≤x∧x<1000000000) (hd:0≤d∧d<1000000000) (hc:0≤cy∧cy<1000000000):0≤x*d∧x*d+cy<1000000000000000000∧0≤(x*d+cy) / 1000000000∧(x*d+cy) / 1000000000<1000000000:=by
  have:=mul_lim hx hd;omega
theorem ScI.step {A:List Int} {d:Int} {i:Nat} {os:List Int} {cy:Int} (h:ScI A d i os cy) (hA:okL A) (hd:0≤d∧d<1000000000) (hi:i<A.length):
    ScI A d (i+1) (os++[(A.getD i 0*d+cy)%1000000000]) ((A.getD i 0*d+cy) / 1000000000):=by
  have hl:=sc_lim (okL_getD hA i) hd ⟨h.c0,h.c1⟩
  refine ⟨by omega,by simp [h.len],okL_snoc h.ok (by omega) (by omega),hl.2.2.1,hl.2.2.2,?_⟩
  rw [valL_snoc,h.len,valL_take_succ,pw_succ]
  have e:=h.val
  have hs:(A.getD i 0*d+cy)=1000000000*((A.getD i 0*d+cy) / 1000000000)+(A.getD i 0*d+cy)%1000000000:=by omega
  generalize (A.getD i 0*d+cy) / 1000000000=q at*
  generalize (A.getD i 0*d+cy)%1000000000=r at*
  have h2:pw i*(A.getD i 0*d+cy)=pw i*(1000000000*q+r):=by rw [hs]
  generalize A.getD i 0=x at*
  generalize valL os=a at*
  generalize valL (A.take i)=b at*
  generalize pw i=p at*
  grind
theorem ScI.fin {a d i:Nat} {os:List Int} {cy:Int} (h:ScI (digs a) (d:Int) i os cy) (hi:(digs a).length≤i):okL (os++[cy])∧valL (os++[cy])=((a*d:Nat):Int):=by
  refine ⟨okL_snoc h.ok h.c0 h.c1,?_⟩
  rw [valL_snoc,h.len,h.val,List.take_of_length_le hi,valL_digs,Int.natCast_mul]
theorem pair_val {a:Nat} (h:(digs a).length≤2):(digs a).getD 1 0*1000000000+(digs a).getD 0 0=(a:Int):=by
  have h0:=valL_drop (digs a) 0
  have h1:=valL_drop (digs a) 1
  rw [List.drop_zero,valL_digs] at h0
  have h2:valL ((digs a).drop 2)=0:=by rw [List.drop_eq_nil_of_le h];rfl
  simp only [Nat.zero_add,Nat.reduceAdd] at h0 h1
  omega
theorem two_val {u:Nat} (h:u<1000000000000000000):okL [((u%1000000000:Nat):Int),((u / 1000000000:Nat):Int)]∧valL [((u%1000000000:Nat):Int),((u / 1000000000:Nat):Int)]=(u:Int):=by
  refine ⟨okL_cons.2 ⟨by omega,okL_cons.2 ⟨by omega,okL_nil⟩⟩,?_⟩
  simp only [valL];omega
theorem valL_cut' (A:List Int) (k:Nat):valL A=valL (A.take k)+pw k*valL (A.drop k):=by
  by_cases h:k≤A.length
  · exact valL_cut A k h
  · rw [List.drop_eq_nil_of_le (by omega),List.take_of_length_le (by omega)];simp [valL]
structure PtI (A V:Nat) (j:Nat) (qs:List Int) (R:Nat):Prop where
  le:j≤(digs A).length
  ok:okL qs
  val:valL ((digs A).drop j)=valL qs*V+R
  lt:R<V
theorem PtI.start {A V n j R:Nat} (hV:(digs V).length=n+1) (hj:j+n=(digs A).length) (hR:valL ((digs A).drop j)=(R:Int)):PtI A V j [] R:=by
  refine ⟨by omega,okL_nil,by rw [hR];simp [valL],?_⟩
  have h1:=valL_lt (okL_drop (digs_ok A) j)
  rw [hR,List.length_drop,show (digs A).length - j=n by omega] at h1
  have h2:=digs_low (k:=n) (n:=V) (by omega)
  omega
theorem pt_lim {V R d:Nat} (h:R<V) (hd:d<1000000000):R*1000000000+d<V*1000000000:=by omega
theorem PtI.step {A V j:Nat} {qs:List Int} {R d g r:Nat} (h:PtI A V (j+1) qs R) (hd:(digs A).getD j 0=(d:Int)) (hg:r+V*g=R*1000000000+d) (hr:r<V):PtI A V j ((g:Int) :: qs) r:=by
  have hd1:=okL_getD (digs_ok A) j
  have hgl:g<1000000000:=by
    have h1:=pt_lim h.lt (show d<1000000000 by omega)
    exact Nat.lt_of_mul_lt_mul_left (a:=V) (by omega)
  refine ⟨Nat.le_of_succ_le h.le,okL_cons.2 ⟨by omega,h.ok⟩,?_,hr⟩
  rw [valL_drop,h.val,hd]
  simp only [valL]
  have hg2:(r:Int)+(V:Int)*(g:Int)=(R:Int)*1000000000+(d:Int):=by
    rw [← Int.natCast_mul];omega
  generalize valL qs=q at*
  grind
theorem pt_guess {W V m d:Nat} (hW:W<V*1000000000) (hV:(digs V).length=m+1) (hd:(d:Int)=((digs W).getD (m+1) 0*1000000000+(digs W).getD m 0) / ((digs V).getD m 0+1)):V*d≤W∧d<1000000000:=by
  have hw:=valL_cut' (digs W) m
  have hv:=valL_cut' (digs V) m
  rw [valL_digs] at hw hv
  have h1:=valL_drop (digs W) m
  have h2:=valL_drop (digs W) (m+1)
  have h3:=valL_nonneg (okL_drop (digs_ok W) (m+1+1))
  have h4:=valL_drop (digs V) m
  rw [List.drop_eq_nil_of_le (by omega:(digs V).length≤m+1)] at h4
  have h5:=valL_take_lt (digs_ok W) m
  have h6:=valL_take_lt (digs_ok V) m
  have h7:=okL_getD (digs_ok V) m
  have hp:=pw_pos m
  have h8:valL ([]:List Int)=0:=rfl
  have h9:=Int.mul_ediv_self_le (x:=(digs W).getD (m+1) 0*1000000000+(digs W).getD m 0) (k:=(digs V).getD m 0+1) (by omega)
  rw [← hd] at h9
  have key:(V:Int)*(d:Int)≤(W:Int):=by
    have a1:(V:Int)≤((digs V).getD m 0+1)*pw m:=by
      rw [h8,Int.mul_zero,Int.add_zero] at h4;rw [hv,h4,Int.add_mul,Int.one_mul,Int.mul_comm (pw m)];omega
    have a2:((digs W).getD (m+1) 0*1000000000+(digs W).getD m 0)*pw m≤(W:Int):=by
      have:(digs W).getD (m+1) 0*1000000000+(digs W).getD m 0≤valL ((digs W).drop m):=by omega
      have:=mul_le_of (Int.le_of_lt hp) this
      rw [Int.mul_comm (valL _)] at this;omega
    have a3:=mul_le_of (w:=(d:Int)) (by omega) a1
    have a4:=mul_le_of (Int.le_of_lt hp) h9
    have a5:((digs V).getD m 0+1)*pw m*(d:Int)=((digs V).getD m 0+1)*(d:Int)*pw m:=by grind
    omega
  have k2:V*d≤W:=by rw [← Int.natCast_mul] at key;omega
  exact ⟨k2,Nat.lt_of_mul_lt_mul_left (a:=V) (by omega)⟩
theorem PtI.fin {A V:Nat} {qs:List Int} {R:Nat} (h:PtI A V 0 qs R):valL qs=((A / V:Nat):Int)∧R=A%V:=by
  have h0:=h.val
  rw [List.drop_zero,valL_digs] at h0
  have hn:=valL_nonneg h.ok
  have hl:=h.lt
  obtain ⟨q,hq⟩:∃q:Nat,valL qs=(q:Int):=⟨(valL qs).toNat,by omega⟩
  rw [hq,←Int.natCast_mul] at h0
  have h1:A=R+V*q:=by rw [Nat.mul_comm];omega
  rw [hq,h1,Nat.add_mul_div_left _ _ (by omega),Nat.div_eq_of_lt hl,Nat.add_mul_mod_self_left,Nat.mod_eq_of_lt hl]
  simp
theorem pt_wlen {W V m:Nat} (hW:W<V*1000000000) (hV:(digs V).length=m+1):(digs W).length≤m+2:=by
  refine digs_len ?_
  have h1:=digs_lt V
  rw [hV] at h1
  rw [pw_succ];omega
theorem made_nat {l:List Int} {n:Nat} (ho:okL l) (h:valL l=(n:Int)):(sg false (valL l)).natAbs=n:=by
  rw [sg_abs (valL_nonneg ho),h];exact Int.toNat_natCast _
theorem ln_fq {x y:Int} (hy:y≠0):ln (fq x y)≤ln x+2:=by
  have key:(fq x y).natAbs≤x.natAbs+1:=by
    have hd:=Nat.div_le_self x.natAbs y.natAbs
    by_cases h:decide (x<0)=decide (y<0)
    · rw [← (fq_same hy h).1,sg_f,Int.natAbs_natCast];omega
    · by_cases hr : x.natAbs % y.natAbs = 0
      · rw [← (fq_even hy h hr).1,sg_t,Int.natAbs_neg,Int.natAbs_natCast];omega
      · rw [← (fq_odd hy h hr).1,sg_t,Int.natAbs_neg,Int.natAbs_natCast];omega
  unfold ln
  have h1:=ln_mono' key
  have h2:=len_add x.natAbs 1
  have h3:(digs 1).length=1:=by decide
  omega
end Go.Proofs.YtkamccndgblheaaGreat.Big
namespace Go.Proofs.YtkamccndgblheaaGreat.Big
abbrev RQ:=(Bool×List Int)×(Bool×List Int)
def qok (x:RQ):Prop:=canon x.1.1 x.1.2∧canon x.2.1 x.2.2∧0<raw x.2.1 x.2.2∧Nat.gcd (raw x.1.1 x.1.2).natAbs (raw x.2.1 x.2.2).natAbs=1
instance (x:RQ):Decidable (qok x):=inferInstanceAs (Decidable (_∧_))
def qv (x:RQ):Rat:=if qok x then Rat.divInt (raw x.1.1 x.1.2) (raw x.2.1 x.2.2) else 0
theorem divInt_parts {n d:Int} (hd:d≠0):(Rat.divInt n d).num=d.sign*n / (Nat.gcd n.natAbs d.natAbs:Nat)∧((Rat.divInt n d).den:Int)=((d.natAbs / Nat.gcd n.natAbs d.natAbs:Nat):Int):=by
  rw [Rat.num_divInt,Rat.den_divInt,if_neg hd]
  have:Int.gcd d n=Nat.gcd n.natAbs d.natAbs:=by unfold Int.gcd;rw [Nat.gcd_comm]
  rw [this];exact ⟨rfl,rfl⟩
theorem qv_parts {x:RQ} (h:qok x):(qv x).num=raw x.1.1 x.1.2∧((qv x).den:Int)=raw x.2.1 x.2.2:=by
  unfold qv;rw [if_pos h]
  obtain ⟨_,_,h3,h4⟩:=h
  obtain ⟨e1,e2⟩:=divInt_parts (n:=raw x.1.1 x.1.2) (d:=raw x.2.1 x.2.2) (by omega)
  rw [e1,e2,h4,Int.sign_eq_one_of_pos h3]
  refine ⟨by simp,by rw [Nat.div_one];omega⟩
theorem qv_not {x:RQ} (h:¬qok x):qv x=0:=by unfold qv;rw [if_neg h]
def rq (q:Rat):RQ:=((decide (q.num<0),digs q.num.natAbs),(decide ((q.den:Int)<0),digs (q.den:Int).natAbs))
theorem rq_ok (q:Rat):qok (rq q):=by
  refine ⟨canon_digs _,canon_digs _,?_,?_⟩
  · simp only [rq];rw [raw_big];have:=q.den_pos;omega
  · simp only [rq];rw [raw_big,raw_big,Int.natAbs_natCast];exact q.reduced
theorem rq_v (q:Rat):qv (rq q)=q:=by
  obtain ⟨h1,h2⟩:=qv_parts (rq_ok q)
  refine Rat.ext ?_ ?_
  · rw [h1];simp only [rq];rw [raw_big]
  · have : ((qv (rq q)).den : Int) = (q.den : Int) := by rw [h2]; simp only [rq]; rw [raw_big]
    omega
def hq (q:Rat):Nat:=max (ln q.num) (ln (q.den:Int))
theorem hq_num (q:Rat):ln q.num≤hq q:=Nat.le_max_left _ _
theorem hq_den (q:Rat):ln (q.den:Int)≤hq q:=Nat.le_max_right _ _
theorem hq_divInt {n d:Int} (hd:d≠0):hq (Rat.divInt n d)≤max (ln n) (ln d):=by
  obtain ⟨e1,e2⟩:=divInt_parts (n:=n) hd
  unfold hq
  rw [e1,e2]
  have h1:ln (d.sign*n / (Nat.gcd n.natAbs d.natAbs:Nat))≤ln n:=by
    refine zHd ?_
    refine Nat.le_trans (Int.natAbs_ediv_le_natAbs _ _) ?_
    rw [Int.natAbs_mul,Int.natAbs_sign_of_ne_zero hd,Nat.one_mul];exact Nat.le_refl _
  have h2:ln ((d.natAbs / Nat.gcd n.natAbs d.natAbs:Nat):Int)≤ln d:=by
    refine zHd ?_
    rw [Int.natAbs_natCast];exact Nat.div_le_self _ _
  omega
theorem den_ne (q:Rat):(q.den:Int)≠0:=by have:=q.den_pos;omega
theorem add_parts (x y:Rat):x+y=Rat.divInt (x.num*y.den+y.num*x.den) (x.den*y.den):=by
  rw [Rat.add_def',←Int.natCast_mul,Rat.divInt_ofNat]
theorem mul_parts (x y:Rat):x*y=Rat.divInt (x.num*y.num) (x.den*y.den):=by
  rw [Rat.mul_def',←Int.natCast_mul,Rat.divInt_ofNat]
theorem div_parts {x y:Rat} (hy:y.num≠0):x / y=Rat.divInt (x.num*y.den) (x.den*y.num):=by
  rw [Rat.div_def,Rat.inv_def,←Rat.num_divInt_den x,Rat.divInt_mul_divInt,Rat.num_divInt_den]
theorem hq_add (x y:Rat):hq (x+y)≤hq x+hq y+1:=by
  rw [add_parts]
  refine Nat.le_trans (hq_divInt (Int.mul_ne_zero (den_ne x) (den_ne y))) ?_
  have h1:=zoc (x.num*y.den) (y.num*x.den)
  have h2:=zCa x.num y.den;have h3:=zCa y.num x.den;have h4:=zCa x.den y.den
  have a:=hq_num x;have b:=hq_den x;have c:=hq_num y;have d:=hq_den y
  omega
theorem hq_mul (x y:Rat):hq (x*y)≤hq x+hq y:=by
  rw [mul_parts]
  refine Nat.le_trans (hq_divInt (Int.mul_ne_zero (den_ne x) (den_ne y))) ?_
  have h2:=zCa x.num y.num;have h4:=zCa x.den y.den
  have a:=hq_num x;have b:=hq_den x;have c:=hq_num y;have d:=hq_den y
  omega
theorem hq_neg (x:Rat):hq (-x)=hq x:=by unfold hq;rw [Rat.neg_num,Rat.neg_den,zO]
theorem hq_sub (x y:Rat):hq (x - y)≤hq x+hq y+1:=by
  rw [Rat.sub_eq_add_neg];have:=hq_add x (-y);rw [hq_neg] at this;exact this
theorem ln_one:ln 1=1:=by decide
theorem hq_int (z:Int):hq (z:Rat)≤max (ln z) 1:=by
  unfold hq;rw [Rat.num_intCast,Rat.den_intCast];exact Nat.le_of_eq (by rw [show ((1:Nat):Int)=1 from rfl,ln_one])
theorem hq_zero:hq 0=1:=by decide
theorem hq_64 {z:Int} (h1: -9223372036854775808≤z) (h2:z≤9223372036854775807):hq (z:Rat)≤3:=by
  have:=zhd h1 h2;have:=hq_int z;omega
theorem gcd_pos_right {n d:Int} (hd:d≠0):0<Nat.gcd n.natAbs d.natAbs:=Nat.gcd_pos_of_pos_right _ (by omega)
theorem red_pos {n d:Int} (hd:0<d):fq n (Nat.gcd n.natAbs d.natAbs:Nat)=(Rat.divInt n d).num∧fq d (Nat.gcd n.natAbs d.natAbs:Nat)=((Rat.divInt n d).den:Int):=by
  obtain ⟨e1,e2⟩:=divInt_parts (n:=n) (d:=d) (by omega)
  have hg:=gcd_pos_right (n:=n) (d:=d) (by omega)
  rw [e1,e2,Int.sign_eq_one_of_pos hd,Int.one_mul]
  rw [(fr_nonneg (x:=n) (y:=(Nat.gcd n.natAbs d.natAbs:Nat)) (by omega)).1,(fr_nonneg (x:=d) (y:=(Nat.gcd n.natAbs d.natAbs:Nat)) (by omega)).1]
  refine ⟨rfl,?_⟩
  rw [Int.natCast_ediv,Int.natAbs_of_nonneg (by omega)]
theorem red_flip {n d:Int} (hd:d<0):fq (-n) (Nat.gcd (-n).natAbs (-d).natAbs:Nat)=(Rat.divInt n d).num∧fq (-d) (Nat.gcd (-n).natAbs (-d).natAbs:Nat)=((Rat.divInt n d).den:Int):=by
  have:=red_pos (n:= -n) (d:= -d) (by omega)
  rw [Rat.neg_divInt_neg] at this;exact this
theorem fq_negneg (x y:Int) (hy:y≠0):fq x (-y)=fq (-x) y:=by
  unfold fq
  by_cases h:0<y
  · rw [if_neg (by omega),if_pos h,Int.neg_neg]
  · rw [if_pos (by omega),if_neg h,Int.neg_neg]
theorem red_neg {n d:Int} (hd:d<0):fq n (-(Nat.gcd n.natAbs d.natAbs:Nat))=(Rat.divInt n d).num∧fq d (-(Nat.gcd n.natAbs d.natAbs:Nat))=((Rat.divInt n d).den:Int):=by
  have hg:=gcd_pos_right (n:=n) (d:=d) (by omega)
  rw [fq_negneg _ _ (by omega),fq_negneg _ _ (by omega)]
  have:=red_flip (n:=n) hd
  rw [Int.natAbs_neg,Int.natAbs_neg] at this;exact this
def sgq (q:Rat):Int:=q.num.sign
theorem cmp_sub (a b:Int):cmp a b=(a - b).sign:=by
  unfold cmp
  split
  · rw [Int.sign_eq_neg_one_of_neg (by omega)]
  · split
    · rw [Int.sign_eq_one_of_pos (by omega)]
    · rw [show a - b=0 by omega];rfl
theorem divInt_sign {n d:Int} (hd:0<d):(Rat.divInt n d).num.sign=n.sign:=by
  obtain ⟨e1,_⟩:=divInt_parts (n:=n) (d:=d) (by omega)
  have hg:=gcd_pos_right (n:=n) (d:=d) (by omega)
  rw [e1,Int.sign_eq_one_of_pos hd,Int.one_mul]
  have hdv:((Nat.gcd n.natAbs d.natAbs:Nat):Int)∣n:=Int.ofNat_dvd_left.2 (Nat.gcd_dvd_left _ _)
  obtain ⟨k,hk⟩:=hdv
  generalize Nat.gcd n.natAbs d.natAbs=g at*
  rw [hk,Int.mul_ediv_cancel_left _ (show (g:Int)≠0 by omega),Int.sign_mul,Int.sign_eq_one_of_pos (show 0<(g:Int) by omega),Int.one_mul]
theorem sub_sign (x y:Rat):(x.num*y.den - y.num*x.den).sign=sgq (x - y):=by
  have:x - y=Rat.divInt (x.num*y.den - y.num*x.den) (x.den*y.den):=by
    rw [Rat.sub_def',←Int.natCast_mul,Rat.divInt_ofNat]
  unfold sgq
  rw [this,divInt_sign (Int.mul_pos (by have:=x.den_pos;omega) (by have:=y.den_pos;omega))]
theorem cmp_rat (x y:Rat):cmp (x.num*y.den) (y.num*x.den)=sgq (x - y):=by rw [cmp_sub,sub_sign]
theorem sgq_zero {x:Rat}:sgq x=0↔x=0:=by unfold sgq;rw [Int.sign_eq_zero_iff_zero,Rat.num_eq_zero]
theorem sgq_sub_zero {x y:Rat}:sgq (x - y)=0↔x=y:=by
  rw [sgq_zero]
  constructor
  · intro h;grind
  · intro h;grind
theorem sgq_pos {x:Rat}:0<sgq x↔0<x:=by
  unfold sgq
  rw [Int.sign_pos_iff]
  have h:=Rat.num_nonneg (q:=x);have h0:=Rat.num_eq_zero (q:=x)
  constructor
  · intro h1; have h2 := h.1 (by omega); have h3 : x ≠ 0 := fun e => by rw [e] at h1; exact absurd h1 (by decide)
    grind
  · intro h1
    have h2:=h.2 (by grind)
    have h3:x.num≠0:=fun e=>by rw [h0.1 e] at h1;exact absurd h1 (by decide)
    omega
theorem sgq_neg' (x:Rat):sgq (-x)= - sgq x:=by unfold sgq;rw [Rat.neg_num,Int.sign_neg]
theorem sgq_lt {x:Rat}:sgq x<0↔x<0:=by
  have h:=sgq_pos (x:= -x);rw [sgq_neg'] at h
  constructor
  · intro h1;have:=h.1 (by omega);grind
  · intro h1;have:=h.2 (by grind);omega
theorem cmp_zero {x y:Int}:cmp x y=0↔x=y:=by
  unfold cmp;split
  · omega
  · split <;> omega
theorem qok_gcd {x:RQ} (h:canon x.1.1 x.1.2∧canon x.2.1 x.2.2∧0<raw x.2.1 x.2.2):cmp ((Nat.gcd (raw x.1.1 x.1.2).natAbs (raw x.2.1 x.2.2).natAbs:Nat):Int) 1=0↔qok x:=by
  rw [cmp_zero];exact ⟨fun e=>⟨h.1,h.2.1,h.2.2,by omega⟩,fun e=>by have:=e.2.2.2;omega⟩
theorem sgn_le {c d:Prop} {z:Int} (hc:c) (hd:d):z.sign≤0↔¬(c∧d∧0<z):=by
  rcases Int.lt_trichotomy z 0 with h|h|h
  · rw [Int.sign_eq_neg_one_of_neg h];exact ⟨fun _ k=>by omega,fun _=>by decide⟩
  · rw [h];exact ⟨fun _ k=>by omega,fun _=>by decide⟩
  · rw [Int.sign_eq_one_of_pos h];exact ⟨fun k=>by omega,fun k=>absurd ⟨hc,hd,h⟩ k⟩
theorem raw_parts {x:RQ} (h1:nn x.1.2) (h2:nn x.2.2) (h:qok x):decide ((qv x).num<0)=x.1.1∧digs (qv x).num.natAbs=x.1.2∧decide (((qv x).den:Int)<0)=x.2.1∧digs (((qv x).den:Nat):Int).natAbs=x.2.2:=by
  obtain ⟨e1,e2⟩:=qv_parts h
  have d1:=raw_digs (s:=x.1.1) h1;have d2:=raw_digs (s:=x.2.1) h2
  rw [if_pos h.1] at d1;rw [if_pos h.2.1] at d2
  rw [e1,e2]
  exact ⟨raw_sign h1 h.1,d1,raw_sign h2 h.2.1,d2⟩
theorem zjd {n d:Int} (hd:d≠0):ln (Nat.gcd n.natAbs d.natAbs:Nat)≤ln d:=by
  refine zHd ?_
  rw [Int.natAbs_natCast];exact Nat.gcd_le_right _ (by omega)
theorem divInt_nil {n d:Int} (hd:d=0):Rat.divInt n d=0:=by rw [hd,Rat.divInt_zero]
theorem div_nil {x y:Rat} (hy:y=0):x / y=0:=by rw [hy,Rat.div_def,Rat.inv_zero,Rat.mul_zero]
theorem sign_zero {z:Int}:z.sign=0↔z=0:=Int.sign_eq_zero_iff_zero
theorem qok_sub {x:RQ} (h:canon x.1.1 x.1.2∧canon x.2.1 x.2.2∧0<raw x.2.1 x.2.2):(((Nat.gcd (raw x.1.1 x.1.2).natAbs (raw x.2.1 x.2.2).natAbs:Nat):Int) - 1).sign=0↔qok x:=by
  rw [← cmp_sub];exact qok_gcd h
end Go.Proofs.YtkamccndgblheaaGreat.Big
namespace Go.Proofs.YtkamccndgblheaaGreat.Sp
open Go
set_option linter.unusedVariables false
def Wd.raw (g:Hp) (w:Wd) (x:Bool×List Int):Prop:=w.s=x.1∧w.n=x.2.length∧x.2.length≤1048576∧Sl (rI .u32) g w.p w.c x.2
theorem Wd.raw_mono {g g':Hp} {w:Wd} {x:Bool×List Int} (h:g.le g') (k:w.raw g x):w.raw g' x:=⟨k.1,k.2.1,k.2.2.1,k.2.2.2.mono h⟩
def qF (c:Bool) (u v:Wd) (q:Rat):Fa:=⟨fun g=>∃x:Big.RQ,u.raw g x.1∧v.raw g x.2∧Big.qv x=q∧(c=true→Big.qok x),fun _ _ h ⟨x,a,b,d⟩=>⟨x,Wd.raw_mono h a,Wd.raw_mono h b,d⟩⟩
theorem Sl.nn {g:Hp} {p:Option Addr} {c:Nat} {l:List Int} (h:Sl (rI .u32) g p c l):Big.nn l:=fun d hd=>by
  obtain ⟨j,hj⟩:=List.getElem?_of_mem hd
  obtain ⟨_,_,_,_,_,e⟩:=h.2.2.2 j d hj
  exact (zv.1 e).1
theorem Wd.raw_is {g:Hp} {w:Wd} {x:Bool×List Int} (h:w.raw g x) (hc:Big.canon x.1 x.2):w.is g (Big.raw x.1 x.2):=by
  have hn:=h.2.2.2.nn
  have hd:=Big.raw_digs (s:=x.1) hn
  rw [if_pos hc] at hd
  exact ⟨h.1.trans (Big.raw_sign hn hc).symm,by rw [hd];exact h.2.1,by rw [hd];exact h.2.2.2⟩
theorem Wd.is_raw {g:Hp} {w:Wd} {z:Int} (h:w.is g z) (hl:Big.ln z≤1048576):w.raw g (decide (z<0),Big.digs z.natAbs):=⟨h.1,h.2.1,hl,h.2.2⟩
section
variable {P : Program} {c : Cx} {n : Sz} {Q : Exit → Act → World → Prop} {m : Fm} {O : List As} {R : List Fa} {f : Nat} {u v : Wd} {q : Rat}
theorem qF_parts {g:Hp} (h:(qF true u v q).on g):u.is g q.num∧v.is g (q.den:Int):=by
  obtain ⟨x,a,b,e,ok⟩:=h
  have hk:=ok rfl
  obtain ⟨e1,e2⟩:=Big.qv_parts hk
  rw [← e,e1,e2]
  exact ⟨Wd.raw_is a hk.1,Wd.raw_is b hk.2.1⟩
theorem qF_open (i:Nat) (hi:R[i]? =some (qF true u v q)):∀g,Holds g R→∃x:Unit,True∧Holds g [zF u q.num,zF v (q.den:Int)]:=fun g h=>
  ⟨(),trivial,(qF_parts (Holds.get i hi h)).1,(qF_parts (Holds.get i hi h)).2,trivial⟩
theorem qF_make {g:Hp} (h1:u.is g q.num) (h2:v.is g (q.den:Int)) (hl:Big.hq q≤1048576):(qF true u v q).on g:=
  ⟨Big.rq q,Wd.is_raw h1 (Nat.le_trans (Big.hq_num q) hl),Wd.is_raw h2 (Nat.le_trans (Big.hq_den q) hl),Big.rq_v q,fun _=>Big.rq_ok q⟩
theorem qF_close (i j:Nat) {a b:Int} (hi:R[i]? =some (zF u a)) (hj:R[j]? =some (zF v b)) (h:a=q.num∧b=(q.den:Int)∧Big.hq q≤1048576):∀g,Holds g R→(qF true u v q).on g:=fun g r=>by
  have h1:u.is g a:=Holds.get i hi r
  have h2:v.is g b:=Holds.get j hj r
  rw [h.1] at h1;rw [h.2.1] at h2
  exact qF_make h1 h2 h.2.2
theorem qF_len {g:Hp} {k:Bool} (h:(qF k u v q).on g):Big.hq q≤1048576:=by
  obtain ⟨x,a,b,e,ok⟩:=h
  by_cases hk:Big.qok x
  · obtain ⟨e1, e2⟩ := Big.qv_parts hk
    rw [← e]
    unfold Big.hq Big.ln
    rw [e1,e2]
    have h1:=Big.raw_digs (s:=x.1.1) a.2.2.2.nn
    have h2:=Big.raw_digs (s:=x.2.1) b.2.2.2.nn
    rw [if_pos hk.1] at h1;rw [if_pos hk.2.1] at h2
    rw [h1,h2]
    have:=a.2.2.1;have:=b.2.2.1;omega
  · rw [Big.qv_not hk] at e
    rw [← e,Big.hq_zero];omega
theorem qF_none (g:Hp):(qF false wz wz 0).on g:=⟨((false,[]),(false,[])),⟨rfl,rfl,by decide,Sl.nil _ _⟩,⟨rfl,rfl,by decide,Sl.nil _ _⟩,by decide +kernel,fun h=>by cases h⟩
abbrev rawL (p:Option Addr) (c:Nat) (x:Bool×List Int):List Value:=[.bool x.1,.slice p x.2.length c]
theorem Wd.rawL_eq {g:Hp} {w:Wd} {x:Bool×List Int} (h:w.raw g x):[w.b,w.l]=rawL w.p w.c x:=by rw [Wd.b,Wd.l,h.1,h.2.1]
theorem zDf {k:Bool} {Y:Type} {φ:Y→Prop} {val:Y→Value} {O':Y→List As} {R':Y→List Fa}
    (h:∀(x:Big.RQ),Big.qv x=q→(k=true→Big.qok x)→x.1.2.length≤1048576→x.2.2.length≤1048576→Con P f [.agg #[.bool x.1.1,.slice u.p x.1.2.length u.c,.bool x.2.1,.slice v.p x.2.2.length v.c]] O [slF (rI .u32) u.p u.c x.1.2,slF (rI .u32) v.p v.c x.2.2] φ val O' R'):
    Con P f [.agg #[u.b,u.l,v.b,v.l]] O [qF k u v q] φ val O' R':=
  Con.of (X:=Big.RQ) (ψ:=fun x=>Big.qv x=q∧(k=true→Big.qok x)∧x.1.2.length≤1048576∧x.2.2.length≤1048576) (A2:=fun x=>[.agg #[.bool x.1.1,.slice u.p x.1.2.length u.c,.bool x.2.1,.slice v.p x.2.2.length v.c]]) (R2:=fun x=>[slF (rI .u32) u.p u.c x.1.2,slF (rI .u32) v.p v.c x.2.2])
    (fun x hx=>h x hx.1 hx.2.1 hx.2.2.1 hx.2.2.2) fun g r=>by
      obtain ⟨x,a,b,e,ok⟩:=r.1
      refine ⟨x,⟨e,ok,a.2.2.1,b.2.2.1⟩,?_,a.2.2.2,b.2.2.2,trivial⟩
      have h1:=Wd.rawL_eq a;have h2:=Wd.rawL_eq b
      simp only [rawL,List.cons.injEq,and_true] at h1 h2
      rw [h1.1,h1.2,h2.1,h2.2]
theorem zIe {k:Bool} {Y:Type} {φ:Y→Prop} {val:Y→Value} {O':Y→List As} {R':Y→List Fa}
    (h:∀(x:Big.RQ),Big.qv x=q→(k=true→Big.qok x)→x.1.2.length≤1048576→x.2.2.length≤1048576→Big.hq q≤1048576→Con P f [.agg #[.bool x.1.1,.slice u.p x.1.2.length u.c,.bool x.2.1,.slice v.p x.2.2.length v.c]] O [slF (rI .u32) u.p u.c x.1.2,slF (rI .u32) v.p v.c x.2.2] φ val O' R'):
    Con P f [.agg #[u.b,u.l,v.b,v.l]] O [qF k u v q] φ val O' R':=fun w hh g s r ap h1 h2=>
  zDf (fun x a b c d=>h x a b c d (qF_len r.1)) w hh g s r ap h1 h2
theorem con_qr {A:List Value} {z d:Int} (h:Con P f A O R (Y:=Option Addr×Nat×Option Addr×Nat) (fun _=>True) (fun y=> .agg #[.bool (decide (z<0)),.slice y.1 (Big.digs z.natAbs).length y.2.1,.bool (decide (d<0)),.slice y.2.2.1 (Big.digs d.natAbs).length y.2.2.2]) (fun _=>[]) (fun y=>[bigS z y.1 y.2.1,bigS d y.2.2.1 y.2.2.2]))
    (hz:z=q.num) (hd:d=(q.den:Int)) (hl:Big.hq q≤1048576):Con P f A O R (Y:=Wd×Wd) (fun _=>True) (fun w=> .agg #[w.1.b,w.1.l,w.2.b,w.2.l]) (fun _=>[]) (fun w=>[qF true w.1 w.2 q]):=
  h.told (fun y=>(⟨decide (z<0),y.1,(Big.digs z.natAbs).length,y.2.1⟩,⟨decide (d<0),y.2.2.1,(Big.digs d.natAbs).length,y.2.2.2⟩)) (fun _=>rfl) (fun _ _=>trivial) (fun _=>rfl)
    (fun y _ g r=>⟨qF_make (q:=q) ⟨by rw [hz],by rw [hz],hz ▸ r.1⟩ ⟨by rw [hd],by rw [hd],hd ▸ r.2.1⟩ hl,trivial⟩)
theorem zJe {A:List Value} {z d:Int} {k:Value} (h:Con P f A O R (Y:=Option Addr×Nat×Option Addr×Nat) (fun _=>True) (fun y=> .tuple #[.agg #[.bool (decide (z<0)),.slice y.1 (Big.digs z.natAbs).length y.2.1],.agg #[.bool (decide (d<0)),.slice y.2.2.1 (Big.digs d.natAbs).length y.2.2.2],k]) (fun _=>[]) (fun y=>[bigS z y.1 y.2.1,bigS d y.2.2.1 y.2.2.2])):
    Con P f A O R (Y:=Wd×Wd) (fun _=>True) (fun w=> .tuple #[.agg #[w.1.b,w.1.l],.agg #[w.2.b,w.2.l],k]) (fun _=>[]) (fun w=>[zF w.1 z,zF w.2 d]):=
  h.told (fun y=>(⟨decide (z<0),y.1,(Big.digs z.natAbs).length,y.2.1⟩,⟨decide (d<0),y.2.2.1,(Big.digs d.natAbs).length,y.2.2.2⟩)) (fun _=>rfl) (fun _ _=>trivial) (fun _=>rfl)
    (fun y _ g r=>⟨⟨rfl,rfl,r.1⟩,⟨rfl,rfl,r.2.1⟩,trivial⟩)
theorem qF_rawI {s t:Bool} {p1 p2:Option Addr} {n1 c1 n2 c2:Nat} {l1 l2:List Int} (i j:Nat) (hi:R[i]? =some (slF (rI .u32) p1 c1 l1)) (hj:R[j]? =some (slF (rI .u32) p2 c2 l2)) (hn1:l1.length=n1) (hn2:l2.length=n2) (hm1:n1≤1048576) (hm2:n2≤1048576) (hq:Big.qok ((s,l1),(t,l2))):
    ∀g,Holds g R→(qF true ⟨s,p1,n1,c1⟩ ⟨t,p2,n2,c2⟩ (Big.qv ((s,l1),(t,l2)))).on g:=fun g r=>by
  subst hn1;subst hn2
  exact ⟨((s,l1),(t,l2)),⟨rfl,rfl,hm1,Holds.get i hi r⟩,⟨rfl,rfl,hm2,Holds.get j hj r⟩,rfl,fun _=>hq⟩
end
section
variable {P : Program} {c : Cx} {m : Fm} {O : List As} {R : List Fa}
theorem zbe {Y:Type} {n:Nat} {fn:Func} {φ:Y→Prop} {val:Y→Value} {O1:Y→List As} {R1:Y→List Fa} {r1 r2 r3 r4:ResultVar} {v1 v2 v3 v4:Value} (hr:fn.results= #[r1,r2,r3,r4]) (y:Y) (hy:φ y)
    (h1:ResAt P ⟨n,[]⟩ m O R r1 v1) (h2:ResAt P ⟨n,[]⟩ m O R r2 v2) (h3:ResAt P ⟨n,[]⟩ m O R r3 v3) (h4:ResAt P ⟨n,[]⟩ m O R r4 v4) (hv:val y= .tuple #[v1,v2,v3,v4]) {is js:List Nat} (ho:pickO is O=some (O1 y)) (hs:SelR js R (R1 y)):Post c ⟨n,[]⟩ (Ret P fn c φ val O1 R1) .ret m O R:=by
  intro a w f mm
  refine ⟨f.defers,.tuple #[v1,v2,v3,v4],?_,y,by rw [hv],hy,mm.sel ho hs⟩
  have e1:=h1 c a w f mm
  have e2:=h2 c a w f mm
  have e3:=h3 c a w f mm
  have e4:=h4 c a w f mm
  simp [results_eq,hr,e1,e2,e3,e4]
end
section
variable {P : Program} {n : Sz} {m : Fm} {d : Option Tmp} {ty : TypeId} {ps : String} {af : Array Edge} {gd : Option (Nat × Bool)}
theorem zNf {x y z:Operand} {ats:Array TypeId} {k:IntKind} {a b e:Int} (h1:evo m x=some (.int k a)) (h2:evo m y=some (.int k b)) (h3:evo m z=some (.int k e)):PV P n ⟨d,.call ⟨.builtin .min,#[x,y,z],ats⟩,ty,ps,af,gd⟩ m (.int k (min (min a b) e)):=fun ac w f=>by
  have t1:(if b<a then b else a)=min a b:=by by_cases h:b<a <;> simp [h,Int.min_def] <;> omega
  have t0:∀q:Int,(if e<q then e else q)=min q e:=fun q=>by by_cases h:e<q <;> simp [h,Int.min_def] <;> omega
  have t2:=t0 (min a b)
  simp [execOp,resolve,invoke,builtin,Builtin.min_,Builtin.min2,f.ev h1,f.ev h2,f.ev h3,t1,t2]
end
end Go.Proofs.YtkamccndgblheaaGreat.Sp
namespace Go.Proofs.YtkamccndgblheaaGreat.Bl
def ok (ar l t r b sx sy xx xy yy ms mx my:Int):Prop:=
  (1≤ar∧ar≤4096)∧(0≤l∧l≤r)∧r≤63∧(0≤t∧t≤b)∧b≤63∧(ar*l≤sx∧sx≤ar*r)∧(ar*t≤sy∧sy≤ar*b)∧
  (0≤xx∧xx≤ar*63*63)∧(0≤xy∧xy≤ar*63*63)∧(0≤yy∧yy≤ar*63*63)∧(0≤ms∧ms≤ar*65535)∧(ms*l≤mx∧mx≤ms*r)∧(ms*t≤my∧my≤ms*b)
instance (ar l t r b sx sy xx xy yy ms mx my:Int):Decidable (ok ar l t r b sx sy xx xy yy ms mx my):=inferInstanceAs (Decidable (_∧_))
theorem mul_b {x y m n:Int} (hx:0≤x∧x≤m) (hy:0≤y∧y≤n):0≤x*y∧x*y≤m*n:=
  ⟨Int.mul_nonneg hx.1 hy.1,Int.mul_le_mul hx.2 hy.2 hy.1 (Int.le_trans hx.1 hx.2)⟩
theorem c0 {p:Prop} [Decidable p]:(if p then (0:Int) else 1)=0↔p:=by split <;> simp_all
def rok (w h m:Int) (l:List Int):Prop:=(1≤w∧w≤64)∧(1≤h∧h≤64)∧(1≤m∧m≤65535)∧(l.length:Int)=w*h∧¬∃x∈l,x<0∨m<x
instance (w h m:Int) (l:List Int):Decidable (rok w h m l):=inferInstanceAs (Decidable (_∧_))
end Go.Proofs.YtkamccndgblheaaGreat.Bl
namespace Go.Proofs.YtkamccndgblheaaGreat.Sp
open Go
set_option linter.unusedVariables false
abbrev Tr:=Option Addr×Nat×Nat
def rsF {α:Type} (r:Rp α) (Z:List Tr) (ls:List (List α)):Fa:=
  ⟨fun g=>∀(j:Nat) (x:List α),ls[j]? =some x→∃p c,Z[j]? =some (p,x.length,c)∧Sl r g p c x,fun g g' hl h j x e=>let ⟨p,c,e1,s⟩:=h j x e;⟨p,c,e1,s.mono hl⟩⟩
section
variable {P : Program} {c : Cx} {n : Sz} {m : Fm} {O : List As} {R : List Fa} {α : Type} {r : Rp α} {Z : List Tr} {ls : List (List α)} {d : Option Tmp} {ty : TypeId} {ps : String} {af : Array Edge} {gd : Option (Nat × Bool)}
theorem rsF_nil (Z:List Tr) (g:Hp):(rsF r Z []).on g:=fun j x e=>by simp at e
theorem rsF_set (i:Nat) (hi:R[i]? =some (rsF r Z ls)) {k:Nat} (hk:ls.length≤k) (v:Tr):∀g,Holds g R→(rsF r (Z.set k v) ls).on g:=fun g h j x e=>by
  have hf:(rsF r Z ls).on g:=Holds.get i hi h
  obtain ⟨p,c,e1,s⟩:=hf j x e
  have:=(List.getElem?_eq_some_iff.1 e).1
  exact ⟨p,c,by rw [List.getElem?_set_ne (by omega)];exact e1,s⟩
theorem rsF_snoc (i q:Nat) {p:Option Addr} {cap:Nat} {x:List α} (hi:R[i]? =some (rsF r Z ls)) (hq:R[q]? =some (slF r p cap x)) (hz:Z[ls.length]? =some (p,x.length,cap)):∀g,Holds g R→(rsF r Z (ls++[x])).on g:=fun g h j y e=>by
  have hf:(rsF r Z ls).on g:=Holds.get i hi h
  have hs:Sl r g p cap x:=Holds.get q hq h
  by_cases hj:j<ls.length
  · rw [List.getElem?_append_left hj] at e;exact hf j y e
  · rw [List.getElem?_append_right (by omega)] at e
    by_cases hz2:j - ls.length=0
    · rw [hz2] at e; simp at e; subst e
      exact ⟨p,cap,by rw [show j=ls.length by omega];exact hz,hs⟩
    · rw [List.getElem?_eq_none (by simp;omega)] at e;cases e
theorem rsF_get (i:Nat) (hi:R[i]? =some (rsF r Z ls)) {j:Nat} {x:List α} (hj:ls[j]? =some x):∀g,Holds g R→∃y:Option Addr×Nat,Z[j]? =some (y.1,x.length,y.2)∧Holds g [slF r y.1 y.2 x]:=fun g h=>by
  have hf:(rsF r Z ls).on g:=Holds.get i hi h
  obtain ⟨p,c,e1,s⟩:=hf j x hj
  exact ⟨(p,c),e1,s,trivial⟩
theorem rsF_all {g:Hp} {p:Option Addr} {cap:Nat} (h1:Sl rV g p cap Z) (h2:(rsF r Z ls).on g) (hl:ls.length=Z.length):Sl (rS r) g p cap ls:=by
  refine ⟨by rw [hl];exact h1.1,h1.2.1,h1.2.2.1,fun i x e=> ?_⟩
  obtain ⟨p2,c2,e1,s⟩:=h2 i x e
  obtain ⟨b,off,γ,e3,e4,_⟩:=h1.2.2.2 i (p2,x.length,c2) e1
  exact ⟨b,off,(p2,c2),e3,e4,s⟩
theorem Mem.rsFreeze {w:World} (i q:Nat) {T0:TypeId} {p:Option Addr} {cap:Nat} (hi:O[i]? =some (rowA T0 rV p cap Z)) (hq:R[q]? =some (rsF r Z ls)) (hl:ls.length=Z.length) (mm:Mem c w O R):Mem c w (O.set i emA) (slF (rS r) p cap ls :: R):=by
  have m1:=mm.freeze i hi (O2:=O.set i emA) rfl
  obtain ⟨hh,g,m3⟩:=m1
  have hr:=m3.holds
  have h2:(rsF r Z ls).on g:=Holds.get q hq hr.2
  exact ⟨hh,g,m3.sep,⟨rsF_all hr.1 h2 hl,hr.2⟩,m3.apart,m3.hasH,m3.hasG,m3.le,m3.newG,m3.newH,m3.kept⟩
theorem zia {x:Operand} {b o:Nat} (h:evo m x=some (.pointer (some ⟨b,o,none⟩))):PV P n ⟨d,.nilCheck x,ty,ps,af,gd⟩ m (.pointer (some ⟨b,o,none⟩)):=fun a w f=>by
  simp [execOp,f.ev h]
end
end Go.Proofs.YtkamccndgblheaaGreat.Sp
namespace Go.Proofs.YtkamccndgblheaaGreat.Big
def qabs (q:Rat):Rat:=if q<0 then -q else q
theorem qabs_num (q:Rat):(qabs q).num=(q.num.natAbs:Int):=by
  unfold qabs
  have k:= @Rat.num_nonneg q
  split
  · rename_i h; have : ¬ 0 ≤ q.num := fun e => by have := k.1 e; grind
    rw [Rat.neg_num];omega
  · rename_i h; have : 0 ≤ q.num := k.2 (by grind)
    omega
theorem qabs_den (q:Rat):(qabs q).den=q.den:=by unfold qabs;split <;> simp [Rat.neg_den]
theorem hq_qabs (q:Rat):hq (qabs q)=hq q:=by unfold qabs;split <;> simp [hq_neg]
theorem qabs_int (z:Int):qabs (z:Rat)=((z.natAbs:Int):Rat):=by
  refine Rat.ext ?_ ?_
  · rw [qabs_num,Rat.num_intCast,Rat.num_intCast]
  · rw [qabs_den,Rat.den_intCast,Rat.den_intCast]
end Go.Proofs.YtkamccndgblheaaGreat.Big
namespace Go.Proofs.YtkamccndgblheaaGreat.Cr
def sumN (f:Nat→Int):Nat→Int
  |0=>0
  |n+1=>sumN f n+f n
theorem sumN_congr {f g:Nat→Int} {n:Nat} (h:∀i,i<n→f i=g i):sumN f n=sumN g n:=by
  induction n with
  |zero=>rfl
  |succ n ih=>rw [sumN,sumN,ih (fun i hi=>h i (by omega)),h n (by omega)]
theorem sumN_add (f:Nat→Int) (a b:Nat):sumN f (a+b)=sumN f a+sumN (fun i=>f (a+i)) b:=by
  induction b with
  |zero=>simp [sumN]
  |succ b ih=>rw [← Nat.add_assoc,sumN,ih,sumN,Int.add_assoc]
theorem sumN_plus (f g:Nat→Int) (n:Nat):sumN (fun i=>f i+g i) n=sumN f n+sumN g n:=by
  induction n with
  |zero=>rfl
  |succ n ih=>rw [sumN,sumN,sumN,ih];omega
theorem sumN_le {f:Nat→Int} {n:Nat} {B:Int} (h:∀i,i<n→0≤f i∧f i≤B):0≤sumN f n∧sumN f n≤n*B:=by
  induction n with
  |zero=>simp [sumN]
  |succ n ih=>
    have h1:=ih (fun i hi=>h i (by omega))
    have h2:=h n (by omega)
    rw [sumN];push_cast;rw [Int.add_mul,Int.one_mul];omega
def T2 (v:Nat→Int) (w y x:Nat):Int:=sumN (fun j=>sumN (fun i=>v (j*w+i)) x) y
theorem T2_y0 (v:Nat→Int) (w x:Nat):T2 v w 0 x=0:=rfl
theorem T2_x0 (v:Nat→Int) (w y:Nat):T2 v w y 0=0:=by
  unfold T2
  induction y with
  |zero=>rfl
  |succ y ih=>rw [sumN,ih];rfl
theorem T2_row (v:Nat→Int) (w y x:Nat):T2 v w (y+1) x=T2 v w y x+sumN (fun i=>v (y*w+i)) x:=rfl
theorem T2_step (v:Nat→Int) (w y x:Nat):T2 v w (y+1) (x+1)=T2 v w y (x+1)+T2 v w (y+1) x - T2 v w y x+v (y*w+x):=by
  rw [T2_row,T2_row,sumN];omega
theorem T2_le {v:Nat→Int} {w y x:Nat} {B:Int} (h:∀j i,j<y→i<x→0≤v (j*w+i)∧v (j*w+i)≤B):0≤T2 v w y x∧T2 v w y x≤y*(x*B):=
  sumN_le fun j hj=>sumN_le fun i hi=>h j i hj hi
def box (v:Nat→Int) (w y x ph pw:Nat):Int:=sumN (fun j=>sumN (fun i=>v ((y+j)*w+(x+i))) pw) ph
theorem T2_box (v:Nat→Int) (w y x ph pw:Nat):T2 v w (y+ph) (x+pw) - T2 v w y (x+pw) - T2 v w (y+ph) x+T2 v w y x=box v w y x ph pw:=by
  have h1:T2 v w (y+ph) (x+pw)=T2 v w y (x+pw)+sumN (fun j=>sumN (fun i=>v ((y+j)*w+i)) (x+pw)) ph:=sumN_add _ _ _
  have h2:T2 v w (y+ph) x=T2 v w y x+sumN (fun j=>sumN (fun i=>v ((y+j)*w+i)) x) ph:=sumN_add _ _ _
  have h3:sumN (fun j=>sumN (fun i=>v ((y+j)*w+i)) (x+pw)) ph=sumN (fun j=>sumN (fun i=>v ((y+j)*w+i)) x) ph+box v w y x ph pw:=by
    unfold box;rw [← sumN_plus];exact sumN_congr fun j _=>sumN_add _ _ _
  omega
theorem sumN_lin (f:Nat→Nat→Int) {pw:Nat} (hw:0<pw) (ph:Nat):sumN (fun k=>f (k / pw) (k%pw)) (pw*ph)=sumN (fun j=>sumN (fun i=>f j i) pw) ph:=by
  induction ph with
  |zero=>rfl
  |succ ph ih=>
    rw [Nat.mul_succ,sumN_add,ih,sumN]
    congr 1
    refine sumN_congr fun i hi=> ?_
    rw [Nat.mul_add_div hw,Nat.div_eq_of_lt hi,Nat.mul_add_mod,Nat.mod_eq_of_lt hi,Nat.add_zero]
def tabRow (v:Nat→Int) (w y:Nat):List Int:=(List.range (w+1)).map (fun x=>T2 v w y x)
def tab (v:Nat→Int) (w k:Nat):List (List Int):=(List.range k).map (tabRow v w)
theorem tabRow_len (v:Nat→Int) (w y:Nat):(tabRow v w y).length=w+1:=by simp [tabRow]
theorem tab_len (v:Nat→Int) (w k:Nat):(tab v w k).length=k:=by simp [tab]
theorem tabRow_get {v:Nat→Int} {w y x:Nat} (h:x≤w):(tabRow v w y).getD x 0=T2 v w y x:=by
  unfold tabRow;rw [List.getD_eq_getElem?_getD,List.getElem?_map,List.getElem?_range (by omega)];rfl
theorem tab_get {v:Nat→Int} {w k y:Nat} (h:y<k):(tab v w k).getD y []=tabRow v w y:=by
  unfold tab;rw [List.getD_eq_getElem?_getD,List.getElem?_map,List.getElem?_range h];rfl
theorem tab_succ (v:Nat→Int) (w k:Nat):tab v w (k+1)=tab v w k++[tabRow v w k]:=by unfold tab;rw [List.range_succ,List.map_append];rfl
theorem tab_at {v:Nat→Int} {w k y:Nat} (h:y<k):(tab v w k)[y]? =some (tabRow v w y):=by
  unfold tab;rw [List.getElem?_map,List.getElem?_range h];rfl
def px (l:List Int) (i:Nat):Int:=l.getD i 0
def sq (l:List Int) (i:Nat):Int:=l.getD i 0*l.getD i 0
theorem at_lt {w h yy xx:Nat} (hy:yy<h) (hx:xx<w):yy*w+xx<w*h:=by
  have:(yy+1)*w≤h*w:=Nat.mul_le_mul_right w (by omega)
  rw [Nat.add_mul,Nat.one_mul,Nat.mul_comm h w] at this;omega
theorem sq_b {z:Int} (h:0≤z∧z≤65535):0≤z*z∧z*z≤4294836225:=⟨Int.mul_nonneg h.1 h.1,Int.mul_le_mul h.2 h.2 h.1 (by omega)⟩
section
variable {l : List Int} {w h n : Nat} (hg : ∀ i, i < n → 0 ≤ l.getD i 0 ∧ l.getD i 0 ≤ 65535) (hw : w ≤ 64) (hh : h ≤ 64) (hn : n = w * h)
include hg hw hh hn
theorem sq_T2 {yy xx:Nat} (hy:yy≤h) (hx:xx≤w):0≤T2 (sq l) w yy xx∧T2 (sq l) w yy xx≤17591649177600:=by
  have:=T2_le (v:=sq l) (w:=w) (y:=yy) (x:=xx) (B:=4294836225) fun j i hj hi=>sq_b (hg _ (by rw [hn];exact at_lt (by omega) (by omega)))
  have h2:(yy:Int)*(xx:Int)≤4096:=by
    have h3:yy*xx≤64*64:=Nat.mul_le_mul (by omega) (by omega)
    have h4:((yy*xx:Nat):Int)≤4096:=by omega
    rwa [Int.natCast_mul] at h4
  rw [← Int.mul_assoc] at this
  refine ⟨this.1,Int.le_trans this.2 (Int.le_trans (Int.mul_le_mul_of_nonneg_right h2 (by decide)) (by decide))⟩
theorem px_T2 {yy xx:Nat} (hy:yy≤h) (hx:xx≤w):0≤T2 (px l) w yy xx∧T2 (px l) w yy xx≤268431360:=by
  have:=T2_le (v:=px l) (w:=w) (y:=yy) (x:=xx) (B:=65535) fun j i hj hi=>hg _ (by rw [hn];exact at_lt (by omega) (by omega))
  have h2:(yy:Int)*(xx:Int)≤4096:=by
    have h3:yy*xx≤64*64:=Nat.mul_le_mul (by omega) (by omega)
    have h4:((yy*xx:Nat):Int)≤4096:=by omega
    rwa [Int.natCast_mul] at h4
  rw [← Int.mul_assoc] at this
  refine ⟨this.1,Int.le_trans this.2 (Int.le_trans (Int.mul_le_mul_of_nonneg_right h2 (by decide)) (by decide))⟩
theorem sq_row {yy xx:Nat} (hy:yy<h) (hx:xx≤w):0≤sumN (fun i=>sq l (yy*w+i)) xx∧sumN (fun i=>sq l (yy*w+i)) xx≤274869518400:=by
  have:=sumN_le (f:=fun i=>sq l (yy*w+i)) (n:=xx) (B:=4294836225) fun i hi=>sq_b (hg _ (by rw [hn];exact at_lt hy (by omega)))
  have h2:((xx:Nat):Int)≤64:=by omega
  exact ⟨this.1,Int.le_trans this.2 (Int.le_trans (Int.mul_le_mul_of_nonneg_right h2 (by decide)) (by decide))⟩
end
structure RowI (v:Nat→Int) (w y x:Nat) (A:List Int):Prop where
  len:A.length=w+1
  get:∀k,k≤x→A.getD k 0=T2 v w y k
theorem RowI.start (v:Nat→Int) (w y:Nat):RowI v w y 0 (List.replicate (w+1) 0):=⟨by simp,fun k hk=>by
  obtain rfl:k=0:=by omega
  rw [T2_x0];simp [List.getD_eq_getElem?_getD]⟩
theorem RowI.zero (v:Nat→Int) (w:Nat):List.replicate (w+1) 0=tabRow v w 0:=by
  refine List.ext_getElem (by simp [tabRow]) fun i h1 h2=> ?_
  simp [tabRow,T2_y0]
theorem RowI.put {v:Nat→Int} {w y x:Nat} {A:List Int} (h:RowI v w y x A) (hx:x<w) {z:Int} (hz:z=T2 v w y (x+1)):RowI v w y (x+1) (A.set (x+1) z):=
  ⟨by rw [List.length_set];exact h.len,fun k hk=>by
    by_cases e:k=x+1
    · rw [e,Big.getD_set_self (by rw [h.len];omega),hz]
    · rw [Big.getD_set_ne e];exact h.get k (by omega)⟩
theorem RowI.fin {v:Nat→Int} {w y x:Nat} {A:List Int} (h:RowI v w y x A) (hx:w≤x):A=tabRow v w y:=
  Big.ext_getD (by rw [h.len,tabRow_len]) fun k hk=>by rw [h.len] at hk;rw [h.get k (by omega),tabRow_get (by omega)]
theorem px_sum {l:List Int} {n i:Nat} (hg:∀i,i<n→0≤l.getD i 0∧l.getD i 0≤65535) (hb:n≤4096) (hi:i≤n):0≤sumN (px l) i∧sumN (px l) i≤268431360:=by
  have:=sumN_le (f:=px l) (n:=i) (B:=65535) fun j hj=>hg j (by omega)
  omega
theorem sq_sum {l:List Int} {n i:Nat} (hg:∀i,i<n→0≤l.getD i 0∧l.getD i 0≤65535) (hb:n≤4096) (hi:i≤n):0≤sumN (sq l) i∧sumN (sq l) i≤17591649177600:=by
  have:=sumN_le (f:=sq l) (n:=i) (B:=4294836225) fun j hj=>sq_b (hg j (by omega))
  omega
theorem row_end {v:Nat→Int} {w y x:Nat} {A:List Int} (h:RowI v w y (x - 1) A) (h0:y=0→A=List.replicate (w+1) 0) (hx:¬(x≤w∧0<y)):A=tabRow v w y:=by
  by_cases e:y=0
  · rw [h0 e,e];exact RowI.zero v w
  · exact h.fin (by omega)
theorem box_le {v:Nat→Int} {w y x ph pw:Nat} {B:Int} (h:∀j i,j<ph→i<pw→0≤v ((y+j)*w+(x+i))∧v ((y+j)*w+(x+i))≤B):0≤box v w y x ph pw∧box v w y x ph pw≤ph*(pw*B):=
  sumN_le fun j hj=>sumN_le fun i hi=>h j i hj hi
theorem win_lt {w1 h1 w2 h2 yy xx k:Nat} (hw:1≤w1) (hx:xx+w1≤w2) (hy:yy+h1≤h2) (hk:k<w1*h1):(yy+k / w1)*w2+xx+k%w1<w2*h2:=by
  have a:k / w1<h1:=Nat.div_lt_of_lt_mul hk
  have b:k%w1<w1:=Nat.mod_lt _ hw
  rw [Nat.add_assoc];exact at_lt (by omega) (by omega)
def crs (l1 l2:List Int) (w1 w2 yy xx k:Nat):Int:=sumN (fun i=>px l1 i*px l2 ((yy+i / w1)*w2+xx+i%w1)) k
theorem mul_g {a b:Int} (ha:0≤a∧a≤65535) (hb:0≤b∧b≤65535):0≤a*b∧a*b≤4294836225:=
  ⟨Int.mul_nonneg ha.1 hb.1,Int.mul_le_mul ha.2 hb.2 hb.1 (by omega)⟩
section
variable {l1 l2 : List Int} {w1 h1 n1 w2 h2 n2 yy xx : Nat} (hg1 : ∀ i, i < n1 → 0 ≤ l1.getD i 0 ∧ l1.getD i 0 ≤ 65535) (hg2 : ∀ i, i < n2 → 0 ≤ l2.getD i 0 ∧ l2.getD i 0 ≤ 65535) (hw : 1 ≤ w1 ∧ w1 ≤ 64) (hh : 1 ≤ h1 ∧ h1 ≤ 64) (h1n : n1 = w1 * h1) (h2n : n2 = w2 * h2) (hb : n1 ≤ 4096) (hx : xx + w1 ≤ w2) (hy : yy + h1 ≤ h2)
include hg1 hg2 hw h1n h2n hb hx hy
theorem crs_b {k:Nat} (hk:k≤n1):0≤crs l1 l2 w1 w2 yy xx k∧crs l1 l2 w1 w2 yy xx k≤17591649177600:=by
  have:=sumN_le (f:=fun i=>px l1 i*px l2 ((yy+i / w1)*w2+xx+i%w1)) (n:=k) (B:=4294836225) fun i hi=>
    mul_g (hg1 i (by omega)) (hg2 _ (by rw [h2n];exact win_lt hw.1 hx hy (by rw [← h1n];omega)))
  have e:(k:Int)*4294836225≤4096*4294836225:=Int.mul_le_mul_of_nonneg_right (by omega) (by decide)
  unfold crs;omega
omit hg1 hb in
include hh in
theorem boxp_b:0≤box (px l2) w2 yy xx h1 w1∧box (px l2) w2 yy xx h1 w1≤268431360:=by
  have a:=box_le (v:=px l2) (w:=w2) (y:=yy) (x:=xx) (ph:=h1) (pw:=w1) (B:=65535) fun j i hj hi=>hg2 _ (by rw [h2n];exact at_lt (by omega) (by omega))
  have e:(w1:Int)*65535≤64*65535:=Int.mul_le_mul_of_nonneg_right (by omega) (by decide)
  have f:(h1:Int)*(w1*65535)≤64*(64*65535):=Int.mul_le_mul (by omega) e (by omega) (by decide)
  omega
omit hg1 hb in
include hh in
theorem boxq_b:0≤box (sq l2) w2 yy xx h1 w1∧box (sq l2) w2 yy xx h1 w1≤17591649177600:=by
  have a:=box_le (v:=sq l2) (w:=w2) (y:=yy) (x:=xx) (ph:=h1) (pw:=w1) (B:=4294836225) fun j i hj hi=>sq_b (hg2 _ (by rw [h2n];exact at_lt (by omega) (by omega)))
  have e:(w1:Int)*4294836225≤64*4294836225:=Int.mul_le_mul_of_nonneg_right (by omega) (by decide)
  have f:(h1:Int)*(w1*4294836225)≤64*(64*4294836225):=Int.mul_le_mul (by omega) e (by omega) (by decide)
  omega
end
def sc (c va vb:Int):Rat:=if va=0∨vb=0 then 0 else Rat.divInt (c*(c.natAbs:Int)) (va*vb)
theorem sc_ref {c va vb:Int} (ha:¬va=0) (hb:¬vb=0):Rat.divInt c va*Rat.divInt (max c (-c)) vb=sc c va vb:=by
  rw [sc,if_neg (by omega),Rat.divInt_mul_divInt,show max c (-c)=(c.natAbs:Int) by omega]
theorem sc_prog {c va vb:Int} (ha:¬va=0) (hb:¬vb=0):(c:Rat)*((c.natAbs:Int):Rat) / ((va:Rat)*(vb:Rat))=sc c va vb:=by
  rw [sc,if_neg (by omega),Rat.divInt_eq_div,Rat.intCast_mul,Rat.intCast_mul]
theorem sc_hq {c va vb:Int} (h1: -9223372036854775808≤c∧c≤9223372036854775807) (h2: -9223372036854775808≤va∧va≤9223372036854775807) (h3: -9223372036854775808≤vb∧vb≤9223372036854775807):Big.hq (sc c va vb)≤6:=by
  unfold sc
  split
  · rw [Big.hq_zero];omega
  · rename_i h
    have a:=Big.zhd h1.1 h1.2
    have b:=Big.zhd h2.1 h2.2
    have d:=Big.zhd h3.1 h3.2
    have n:=Big.zCa c (c.natAbs:Int)
    have m:=Big.zCa va vb
    have q:Big.ln (c.natAbs:Int)=Big.ln c:=by unfold Big.ln;rw [Int.natAbs_natCast]
    have:=Big.hq_divInt (n:=c*(c.natAbs:Int)) (d:=va*vb) (Int.mul_ne_zero (by omega) (by omega))
    omega
def cc (l1 l2:List Int) (w1 h1 n1 w2 yy xx:Nat):Int:=(n1:Int)*crs l1 l2 w1 w2 yy xx n1 - sumN (px l1) n1*box (px l2) w2 yy xx h1 w1
def va (l1:List Int) (n1:Nat):Int:=(n1:Int)*sumN (sq l1) n1 - sumN (px l1) n1*sumN (px l1) n1
def vb (l2:List Int) (w1 h1 n1 w2 yy xx:Nat):Int:=(n1:Int)*box (sq l2) w2 yy xx h1 w1 - box (px l2) w2 yy xx h1 w1*box (px l2) w2 yy xx h1 w1
def scr (l1 l2:List Int) (w1 h1 n1 w2 yy xx:Nat):Rat:=sc (cc l1 l2 w1 h1 n1 w2 yy xx) (va l1 n1) (vb l2 w1 h1 n1 w2 yy xx)
def I64 (z:Int):Prop:= -9223372036854775808≤z∧z≤9223372036854775807
theorem hq2 {a b:Int} (ha:I64 a) (hb:I64 b):Big.hq (a:Rat)+Big.hq (b:Rat)+1≤1048576:=by
  have:=Big.hq_64 ha.1 ha.2;have:=Big.hq_64 hb.1 hb.2;omega
theorem hqa {c:Int} (hc:I64 c):Big.hq (c:Rat)+Big.hq (Big.qabs (c:Rat))+1≤1048576:=by
  have:=Big.hq_64 hc.1 hc.2;rw [Big.hq_qabs];omega
theorem hq4 {a b c:Int} (hc:I64 c) (ha:I64 a) (hb:I64 b):Big.hq ((c:Rat)*Big.qabs (c:Rat))+Big.hq ((a:Rat)*(b:Rat))+1≤1048576:=by
  have:=Big.hq_64 ha.1 ha.2;have:=Big.hq_64 hb.1 hb.2;have:=Big.hq_64 hc.1 hc.2
  have h1:=Big.hq_mul (c:Rat) (Big.qabs (c:Rat));have h2:=Big.hq_mul (a:Rat) (b:Rat)
  rw [Big.hq_qabs] at h1;omega
theorem ne2 {a b:Int} (ha:¬a=0) (hb:¬b=0):(a:Rat)*(b:Rat)≠0:=by
  rw [← Rat.intCast_mul];intro e;exact Int.mul_ne_zero ha hb (by exact_mod_cast e)
end Go.Proofs.YtkamccndgblheaaGreat.Cr
namespace Go.Proofs.YtkamccndgblheaaGreat.Sp
open Go
set_option linter.unusedVariables false
set_option maxRecDepth 100000
set_option maxHeartbeats 1000000
theorem zpc {w:Nat} {h:Nat} {m:Int} {p:Option Addr} {n:Nat} {cap:Nat} {l:List Int} (hn:l.length=n) (hw:1≤w∧w≤64) (hh:1≤h∧h≤64) (hwh:n=w*h) (hb:n≤4096) (hg:∀i,i<n→0≤l.getD i 0∧l.getD i 0≤65535):Con Tryz.prog 62 [.agg #[.int .i64 ((w:Nat):Int),.int .i64 ((h:Nat):Int),.int .i64 m,.slice p n cap]] [] [slF (rI .i64) p cap l] (Y:=(Option Addr)×Nat) (fun y=>True) (fun y=> .slice (y.1) (h+1) (y.2)) (fun y=>[]) (fun y=>[slF (rS (rI .i64)) (y.1) (y.2) (Cr.tab (Cr.sq l) w (h+1))]):=by
 refine zq Tryz.func62 rfl rfl rfl (fun c=> ?_)
 show RunC _ _ _ _ _ [(0,.agg #[.int .i64 ((w:Nat):Int),.int .i64 ((h:Nat):Int),.int .i64 m,.slice p n cap])] [] [slF (rI .i64) p cap l]
 refine zY 0 rfl (fun hL0=> ?_)
 refine zi<|zc<|zJ rfl rfl (zQ rfl rfl) (fun b1=> ?_)
 refine r_pv rfl rfl (zd rfl)<|zj<|ze<|zi<|zc<|r_pv rfl rfl (zg Tryz.underlying24 rfl sz3 rfl rfl)<|r_u rfl rfl (zh 0 ty3 rfl rfl rfl)<|r_pv rfl rfl (zx (z:=(((h+1):Nat):Int)) rfl rfl (w64 (by omega)))<|zza rfl rfl (zIa (r:=rV) (k:=(h+1)) (x0:=(none,0,0)) (γ0:=()) Tryz.underlying73 inf22 rfl rfl rfl rfl (by omega) (by omega) rfl (fun _ _=>by trivial) (by decide)) (fun b2 _=> ?_)
 refine r_pv rfl rfl (zd rfl)<|zj<|ze<|zi<|zc<|r_pv rfl rfl (za rfl)<|r_pv rfl rfl (zg Tryz.underlying24 rfl sz3 rfl rfl)<|r_u rfl rfl (zh 1 ty3 rfl rfl rfl)<|r_pv rfl rfl (zx (z:=(((w+1):Nat):Int)) rfl rfl (w64 (by omega)))<|zza rfl rfl (zIa (r:=rI .i64) (k:=(w+1)) (x0:=0) (γ0:=()) Tryz.underlying22 inf3 rfl rfl rfl rfl (by omega) (by omega) rfl (fun _ _=>by exact zR.2 (by decide)) (by decide)) (fun b3 _=> ?_)
 refine r_pv rfl rfl (zX (j:=0) Tryz.underlying73 sz22 rfl rfl rfl (by omega))<|zDa 1 rfl rfl rfl (zW (j:=0) (x0:=(some ⟨b3,0,none⟩,(w+1),(w+1))) (γ0:=()) rfl rfl (by first|omega|(rw [List.length_map];omega)|(simp only [List.length_set];omega)|(simp;done)|(simp;omega)) rfl rfl sz22 (fun _ _=>by trivial)) (fun _=>(.s .z)) (fun _ _=> ?_)
 refine zj<|ze<|zi<|zi ?_
 obtain ⟨Z0,hZ0⟩:∃z:List Tr,z=((List.replicate (h+1) (none,0,0)).set 0 (some ⟨b3,0,none⟩,(w+1),(w+1))):=⟨_,rfl⟩
 rw [← hZ0]
 have hZl0:Z0.length=h+1:=by rw [hZ0];simp
 have hZc:Z0[0]? =some (some ⟨b3,0,none⟩,w+1,w+1):=by rw [hZ0];simp
 refine zWd 0 rfl .z ?_
 have e4:List.replicate (w+1) 0=Cr.tabRow (Cr.sq l) w 0:=by exact Cr.RowI.zero _ _
 rw [e4]
 refine zCb (rsF (rI .i64) Z0 []) (fun g _=>rsF_nil _ g)<|zCb (rsF (rI .i64) Z0 (([])++[Cr.tabRow (Cr.sq l) w 0])) (rsF_snoc 0 1 rfl rfl (by rw [Cr.tabRow_len];exact hZc)) ?_
 have e5:([])++[Cr.tabRow (Cr.sq l) w 0]=Cr.tab (Cr.sq l) w (0+1):=by rfl
 rw [e5]
 refine zc<|r_pv rfl rfl (zg Tryz.underlying24 rfl sz3 rfl rfl)<|r_u rfl rfl (zh 2 ty3 rfl rfl rfl)<|r_pv rfl rfl (za rfl)<|zj<|ze<|zA<|zka (X:=Nat×(List Tr)) (fun x:Nat×(List Tr)=>x.1≤h∧x.2.length=h+1) (fun x=>[(20,.int .i64 ((x.1:Nat):Int)),(19,.int .i64 ((h:Nat):Int)),(3,.slice (some ⟨b2,0,none⟩) (h+1) (h+1)),(2,.slice none 0 0),(1,.pointer (some ⟨b1,0,none⟩))]) (fun x=>[rowA 22 rV (some ⟨b2,0,none⟩) (h+1) (x.2),boxA b1 24 [.int .i64 ((w:Nat):Int),.int .i64 ((h:Nat):Int),.int .i64 m,.slice p n cap]]) (fun x=>[rsF (rI .i64) (x.2) (Cr.tab (Cr.sq l) w (x.1+1)),rsF (rI .i64) Z0 (Cr.tab (Cr.sq l) w (0+1)),rsF (rI .i64) Z0 ([]),slF (rI .i64) (some ⟨b3,0,none⟩) (w+1) (Cr.tabRow (Cr.sq l) w 0),slF (rI .i64) p cap l]) (fun x:Nat×(List Tr)=>h - x.1) (0,Z0) (show 0≤h∧Z0.length=h+1 from by exact ⟨Nat.zero_le _,hZl0⟩) ((.e rfl (by first|rfl|(congr 1;omega)|simp_all) (.of rfl)):SubM _ _) (ho:=((.of [1,1] rfl):PickO _ _ _)) ((.of [0,0,1,2,3] rfl):SelR _ _ _) ?_
 rintro ⟨yy,Z⟩ hI
 replace hI:yy≤h∧Z.length=h+1:=hI
 try dsimp only
 obtain ⟨hi,hZl⟩:=hI
 refine zi<|zc<|r_pv rfl rfl (zda rfl rfl)<|zj<|ze<|zi<|zG rfl (fun h6=> ?_) (fun h6=> ?_)
 ·
  refine zB<|ze<|zi<|zA<|zi<|zc<|r_pv rfl rfl (za rfl)<|r_pv rfl rfl (zd rfl)<|zj<|ze<|zi<|zc<|r_pv rfl rfl (za rfl)<|r_pv rfl rfl (za rfl)<|r_pv rfl rfl (zx (z:=(((yy+1):Nat):Int)) rfl rfl (w64 (by omega)))<|r_pv rfl rfl (zg Tryz.underlying24 rfl sz3 rfl rfl)<|r_u rfl rfl (zh 1 ty3 rfl rfl rfl)<|r_pv rfl rfl (zx (z:=(((w+1):Nat):Int)) rfl rfl (w64 (by omega)))<|zza rfl rfl (zIa (r:=rI .i64) (k:=(w+1)) (x0:=0) (γ0:=()) Tryz.underlying22 inf3 rfl rfl rfl rfl (by omega) (by omega) rfl (fun _ _=>by exact zR.2 (by decide)) (by decide)) (fun b7 _=> ?_)
  refine r_pv rfl rfl (zX (j:=(yy+1)) Tryz.underlying73 sz22 rfl rfl rfl (by omega))<|zDa 1 rfl rfl rfl (zW (j:=(yy+1)) (x0:=(some ⟨b7,0,none⟩,(w+1),(w+1))) (γ0:=()) rfl rfl (by first|omega|(rw [List.length_map];omega)|(simp only [List.length_set];omega)|(simp;done)|(simp;omega)) rfl rfl sz22 (fun _ _=>by trivial)) (fun _=>(.s .z)) (fun _ _=> ?_)
  refine zj<|ze<|zi<|zCb (rsF (rI .i64) (Z.set (yy+1) (some ⟨b7,0,none⟩,(w+1),(w+1))) (Cr.tab (Cr.sq l) w (yy+1))) (rsF_set 0 rfl (by exact Nat.le_of_eq (Cr.tab_len _ _ _)) _) ?_
  obtain ⟨Zy,hZy⟩:∃z:List Tr,z=(Z.set (yy+1) (some ⟨b7,0,none⟩,(w+1),(w+1))):=⟨_,rfl⟩
  rw [← hZy]
  have hZy2:Zy.length=h+1:=by rw [hZy,List.length_set];exact hZl
  have hZc:Zy[yy+1]? =some (some ⟨b7,0,none⟩,w+1,w+1):=by rw [hZy,List.getElem?_set_self (by omega)]
  refine zBf (rsF_get (j:=yy) (x:=Cr.tabRow (Cr.sq l) w yy) 0 rfl (by exact Cr.tab_at (by omega))) (fun pq hpq=> ?_)
  have hpq2:Zy[yy]? =some (pq.1,(Cr.tabRow (Cr.sq l) w yy).length,pq.2):=hpq
  refine zc<|r_pv rfl rfl (zd rfl)<|zj<|ze<|zi<|zc<|r_pv rfl rfl (zg Tryz.underlying24 rfl sz3 rfl rfl)<|r_u rfl rfl (zh 2 ty3 rfl rfl rfl)<|r_pv rfl rfl (za rfl)<|zj<|ze<|zA<|zka (X:=Nat×(List Int)) (fun x:Nat×(List Int)=>x.1≤w∧Cr.RowI (Cr.sq l) w (yy+1) x.1 x.2) (fun x=>[(5,.int .i64 (Cr.sumN (fun i=>Cr.sq l (yy*w+i)) x.1)),(33,.int .i64 ((x.1:Nat):Int)),(32,.int .i64 ((w:Nat):Int)),(4,.int .i64 ((yy:Nat):Int)),(20,.int .i64 ((yy:Nat):Int)),(19,.int .i64 ((h:Nat):Int)),(3,.slice (some ⟨b2,0,none⟩) (h+1) (h+1)),(2,.slice none 0 0),(1,.pointer (some ⟨b1,0,none⟩))]) (fun x=>[rowA 3 (rI .i64) (some ⟨b7,0,none⟩) (w+1) (x.2),rowA 22 rV (some ⟨b2,0,none⟩) (h+1) Zy,boxA b1 24 [.int .i64 ((w:Nat):Int),.int .i64 ((h:Nat):Int),.int .i64 m,.slice p n cap]]) (fun x=>[slF (rI .i64) (pq.1) (pq.2) (Cr.tabRow (Cr.sq l) w yy),rsF (rI .i64) Zy (Cr.tab (Cr.sq l) w (yy+1)),rsF (rI .i64) Z (Cr.tab (Cr.sq l) w (yy+1)),rsF (rI .i64) Z0 (Cr.tab (Cr.sq l) w (0+1)),rsF (rI .i64) Z0 ([]),slF (rI .i64) (some ⟨b3,0,none⟩) (w+1) (Cr.tabRow (Cr.sq l) w 0),slF (rI .i64) p cap l]) (fun x:Nat×(List Int)=>w - x.1) (0,List.replicate (w+1) 0) (show 0≤w∧Cr.RowI (Cr.sq l) w (yy+1) 0 (List.replicate (w+1) 0) from by exact ⟨Nat.zero_le _,Cr.RowI.start _ _ _⟩) ((.e rfl (by first|rfl|(congr 1;omega)|simp_all) (.e rfl (by first|rfl|(congr 1;omega)|simp_all) (.of rfl))):SubM _ _) (ho:=((.of [0,0,0] rfl):PickO _ _ _)) ((.of [0,1,2,3,4,5,6] rfl):SelR _ _ _) ?_
  rintro ⟨xx,A⟩ hJ
  replace hJ:xx≤w∧Cr.RowI (Cr.sq l) w (yy+1) xx A:=hJ
  try dsimp only
  obtain ⟨hx,hR⟩:=hJ
  have hAl:=hR.len
  refine zi<|zc<|r_pv rfl rfl (zda rfl rfl)<|zj<|ze<|zi<|zG rfl (fun h8=> ?_) (fun h8=> ?_)
  ·
   have hlt:yy*w+xx<n:=by rw [hwh];exact Cr.at_lt (by omega) (by omega)
   have hpx:=hg _ hlt
   have hps:=Cr.sq_b hpx
   have hr1:=Cr.sq_row hg hw.2 hh.2 hwh (show yy<h by omega) (show xx≤w by omega)
   have ht1:=Cr.sq_T2 hg hw.2 hh.2 hwh (show yy≤h by omega) (show xx+1≤w by omega)
   have htg:=Cr.tabRow_get (v:=(Cr.sq l)) (w:=w) (y:=yy) (show xx+1≤w by omega)
   have hyw:yy*w≤64*64:=Nat.mul_le_mul (by omega) hw.2
   have hrl:=Cr.tabRow_len (Cr.sq l) w yy
   refine zB<|ze<|zi<|zA<|zi<|zc<|r_pv rfl rfl (za rfl)<|r_pv rfl rfl (zd rfl)<|zj<|ze<|zi<|zc<|r_pv rfl rfl (zg Tryz.underlying24 rfl sz22 rfl rfl)<|r_u rfl rfl (zh 2 ty22 rfl rfl rfl)<|r_pv rfl rfl (za rfl)<|r_pv rfl rfl (zg Tryz.underlying24 rfl sz3 rfl rfl)<|r_u rfl rfl (zh 2 ty3 rfl rfl rfl)<|r_pv rfl rfl (zpa (z:=(((yy*w):Nat):Int)) rfl rfl (w64 (by omega)))<|r_pv rfl rfl (za rfl)<|r_pv rfl rfl (zx (z:=((((yy*w)+xx):Nat):Int)) rfl rfl (w64 (by omega)))<|zU (x0:=(l.getD ((yy*w)+xx) 0)) 6 ((yy*w)+xx) rfl Tryz.underlying22 sz3 rfl rfl rfl (by first|rfl|assumption|(simp only [List.length_set];assumption)|(simp only [List.length_set,List.length_replicate];done)|(simp only [Cr.tabRow_len];done)|omega) rfl rfl (gD (d:=0) (by omega)) (fun b9 o10 hok11=> ?_)
   replace hok11:=zR.1 hok11
   refine r_u rfl rfl (zk (j:=0) 0 ty3 rfl rfl rfl rfl)<|r_pv rfl rfl (zd rfl)<|zj<|ze<|zi<|zc<|r_pv rfl rfl (za rfl)<|r_pv rfl rfl (za rfl)<|r_pv rfl rfl (za rfl)<|r_pv rfl rfl (zpa (z:=((l.getD ((yy*w)+xx) 0)*(l.getD ((yy*w)+xx) 0))) rfl rfl (w64 (by omega)))<|r_pv rfl rfl (zx (z:=((Cr.sumN (fun i=>Cr.sq l (yy*w+i)) xx)+((l.getD ((yy*w)+xx) 0)*(l.getD ((yy*w)+xx) 0)))) rfl rfl (w64 (by omega)))<|r_pv rfl rfl (zd rfl)<|zj<|ze<|zea (OW:=[rowA 3 (rI .i64) (some ⟨b7,0,none⟩) (w+1) A]) (O:=[rowA 22 rV (some ⟨b2,0,none⟩) (h+1) Zy,boxA b1 24 [.int .i64 ((w:Nat):Int),.int .i64 ((h:Nat):Int),.int .i64 m,.slice p n cap]]) 18 mixed (.block (.then (.then (.block (.block (.then (.then (.block (.then .ret))))))))) (by kernel_rfl)<|d_pv 0 rfl rfl (by kernel_rfl) (by kernel_rfl) rfl rfl (za rfl)<|d_pv 1 rfl rfl (by kernel_rfl) (by kernel_rfl) rfl rfl (za rfl)<|d_pv 2 rfl rfl (by kernel_rfl) (by kernel_rfl) rfl rfl (zx (z:=(((yy+1):Nat):Int)) rfl rfl (w64 (by omega)))<|d_pv 3 rfl rfl (by kernel_rfl) (by kernel_rfl) rfl rfl (zX (j:=(yy+1)) Tryz.underlying73 sz22 rfl rfl rfl (by omega))<|zad 4 rfl rfl (by kernel_rfl) (by kernel_rfl) (by kernel_rfl) rfl rfl (zfa (x0:=(some ⟨b7,0,none⟩,(w+1),(w+1))) (v:= .slice (some ⟨b7,0,none⟩) (w+1) (w+1)) 1 (yy+1) rfl ty22 rfl rfl (by exact hZc) rfl) (fun _ hok12=> ?_)
   refine d_pv 5 rfl rfl (by kernel_rfl) (by kernel_rfl) rfl rfl (za rfl)<|d_pv 6 rfl rfl (by kernel_rfl) (by kernel_rfl) rfl rfl (zx (z:=(((xx+1):Nat):Int)) rfl rfl (w64 (by omega)))<|d_pv 7 rfl rfl (by kernel_rfl) (by kernel_rfl) rfl rfl (za rfl)<|d_pv 8 rfl rfl (by kernel_rfl) (by kernel_rfl) rfl rfl (za rfl)<|d_pv 9 rfl rfl (by kernel_rfl) (by kernel_rfl) rfl rfl (zX (j:=yy) Tryz.underlying73 sz22 rfl rfl rfl (by omega))<|zad 10 rfl rfl (by kernel_rfl) (by kernel_rfl) (by kernel_rfl) rfl rfl (zfa (x0:=(pq.1,(Cr.tabRow (Cr.sq l) w yy).length,pq.2)) (v:= .slice (pq.1) ((Cr.tabRow (Cr.sq l) w yy).length) (pq.2)) 1 yy rfl ty22 rfl rfl (by exact hpq2) rfl) (fun _ hok13=> ?_)
   refine d_pv 11 rfl rfl (by kernel_rfl) (by kernel_rfl) rfl rfl (za rfl)<|d_pv 12 rfl rfl (by kernel_rfl) (by kernel_rfl) rfl rfl (zx (z:=(((xx+1):Nat):Int)) rfl rfl (w64 (by omega)))<|zga (x0:=((Cr.tabRow (Cr.sq l) w yy).getD (xx+1) 0)) 13 rfl rfl (by kernel_rfl) (by kernel_rfl) 1 (xx+1) rfl Tryz.underlying22 sz3 rfl rfl rfl (by first|rfl|assumption|(simp only [List.length_set];assumption)|(simp only [List.length_set,List.length_replicate];done)|(simp only [Cr.tabRow_len];done)|omega) rfl rfl (gD (d:=0) (by omega)) (fun b14 o15 hok16=> ?_)
   replace hok16:=zR.1 hok16
   refine d_u 14 rfl rfl (by kernel_rfl) (by kernel_rfl) rfl rfl (zk (j:=0) 0 ty3 rfl rfl rfl rfl)<|d_pv 15 rfl rfl (by kernel_rfl) (by kernel_rfl) rfl rfl (za rfl)<|d_pv 16 rfl rfl (by kernel_rfl) (by kernel_rfl) rfl rfl (zx (z:=(((Cr.tabRow (Cr.sq l) w yy).getD (xx+1) 0)+((Cr.sumN (fun i=>Cr.sq l (yy*w+i)) xx)+((l.getD ((yy*w)+xx) 0)*(l.getD ((yy*w)+xx) 0))))) rfl rfl (w64 (by omega)))<|d_pv 17 rfl rfl (by kernel_rfl) (by kernel_rfl) rfl rfl (zX (j:=(xx+1)) Tryz.underlying22 sz3 rfl rfl rfl (by omega))<|zL 18 (by kernel_rfl) (zBd (A':=fun _=>rowA 3 (rI .i64) (some ⟨b7,0,none⟩) (w+1) (A.set (xx+1) (((Cr.tabRow (Cr.sq l) w yy).getD (xx+1) 0)+((Cr.sumN (fun i=>Cr.sq l (yy*w+i)) xx)+((l.getD ((yy*w)+xx) 0)*(l.getD ((yy*w)+xx) 0)))))) (by kernel_rfl) rfl rfl rfl (zW (j:=(xx+1)) (x0:=(((Cr.tabRow (Cr.sq l) w yy).getD (xx+1) 0)+((Cr.sumN (fun i=>Cr.sq l (yy*w+i)) xx)+((l.getD ((yy*w)+xx) 0)*(l.getD ((yy*w)+xx) 0))))) (γ0:=()) rfl rfl (by first|omega|(rw [List.length_map];omega)|(simp only [List.length_set];omega)|(simp;done)|(simp;omega)) rfl rfl sz3 (fun _ _=>by exact zR.2 (by omega))) (fun _ _=> ?_))
   refine zba (by kernel_rfl)<|zT<|ze<|zc<|r_pv rfl rfl (zx (z:=(((xx+1):Nat):Int)) rfl rfl (w64 (by omega)))<|r_pv rfl rfl (za rfl)<|zj<|zha ((xx+1),(A.set (xx+1) (((Cr.tabRow (Cr.sq l) w yy).getD (xx+1) 0)+((Cr.sumN (fun i=>Cr.sq l (yy*w+i)) xx)+((l.getD ((yy*w)+xx) 0)*(l.getD ((yy*w)+xx) 0)))))) (show (xx+1)≤w∧Cr.RowI (Cr.sq l) w (yy+1) (xx+1) (A.set (xx+1) (((Cr.tabRow (Cr.sq l) w yy).getD (xx+1) 0)+((Cr.sumN (fun i=>Cr.sq l (yy*w+i)) xx)+((l.getD ((yy*w)+xx) 0)*(l.getD ((yy*w)+xx) 0))))) from by exact ⟨by omega,hR.put (by omega) (by rw [Cr.T2_row,Cr.sumN,htg];rfl)⟩) (by show w - (xx+1)<w - xx;omega) ((.e rfl (by first|rfl|(congr 1;omega)|simp_all) (.of rfl)):SubM _ _) (ho:=((.of [0,0,0] rfl):PickO _ _ _)) ((.of [2,3,4,5,6,7,8] rfl):SelR _ _ _)
  ·
   refine zja<|zl<|zl<|zu<|zT<|ze<|zc<|r_pv rfl rfl (zx (z:=(((yy+1):Nat):Int)) rfl rfl (w64 (by omega)))<|r_pv rfl rfl (za rfl)<|zj<|zta 0 rfl .z ?_
   have e17:A=Cr.tabRow (Cr.sq l) w (yy+1):=by exact hR.fin (by omega)
   rw [e17]
   refine zab (rsF (rI .i64) Zy ((Cr.tab (Cr.sq l) w (yy+1))++[Cr.tabRow (Cr.sq l) w (yy+1)])) (rsF_snoc 2 0 rfl rfl (by rw [Cr.tab_len,Cr.tabRow_len];exact hZc)) ?_
   have e18:(Cr.tab (Cr.sq l) w (yy+1))++[Cr.tabRow (Cr.sq l) w (yy+1)]=Cr.tab (Cr.sq l) w ((yy+1)+1):=by exact (Cr.tab_succ _ _ _).symm
   rw [e18]
   refine zha ((yy+1),Zy) (show (yy+1)≤h∧Zy.length=h+1 from by exact ⟨by omega,hZy2⟩) (by show h - (yy+1)<h - yy;omega) ((.of rfl):SubM _ _) (ho:=((.of [1,1] rfl):PickO _ _ _)) ((.of [0,5,6,7,8] rfl):SelR _ _ _)
 ·
  refine zja<|zl<|zl<|zu<|ze<|zi<|zc<|r_pv rfl rfl (za rfl)<|r_pv rfl rfl (zd rfl)<|zj<|ze<|zI ?_
  have hy9:yy=h:=by omega
  refine zIf (fun w mm=>mm.rsFreeze 0 0 rfl rfl (by rw [Cr.tab_len];omega)) ?_
  dsimp only [List.set]
  exact zE Tryz.results62 (some ⟨b2,0,none⟩,(h+1)) trivial (zo rfl) rfl (ho:=(.n:PickO _ _ _)) ((.e (j:=0) rfl (by rw [hy9]) .n):SelR _ _ _)
end Go.Proofs.YtkamccndgblheaaGreat.Sp
namespace Go.Proofs.YtkamccndgblheaaGreat.Sp
open Go
set_option linter.unusedVariables false
set_option maxRecDepth 100000
set_option maxHeartbeats 1000000
theorem zId {w:Int} {h:Int} {m:Int} {p:Option Addr} {n:Nat} {cap:Nat} {bb:Nat} {u:Int}:Con Tryz.prog 95 [.int .i64 u,.pointer (some ⟨bb,0,none⟩)] [] [atF bb 0 [.int .i64 w,.int .i64 h,.int .i64 m,.slice p n cap]] (Y:=Unit) (fun y=>True) (fun y=> .bool (decide (u<0∨m<u))) (fun y=>[]) (fun y=>[]):=by
 refine zq Tryz.func95 rfl rfl rfl (fun c=> ?_)
 show RunC _ _ _ _ _ [(0,.int .i64 u),(1,.pointer (some ⟨bb,0,none⟩))] [] [atF bb 0 [.int .i64 w,.int .i64 h,.int .i64 m,.slice p n cap]]
 refine zi<|zc<|r_pv rfl rfl (zd rfl)<|zj<|ze<|zGa (X:=Unit) (fun x=>True) (fun x=>[(3,.bool (decide ((u<0)∨(m<u))))]) (fun x=>[]) (fun x=>[atF bb 0 [.int .i64 w,.int .i64 h,.int .i64 m,.slice p n cap]]) ?_ ?_
 ·
  refine zc<|r_pv rfl rfl (za rfl)<|r_pv rfl rfl (zda rfl rfl)<|zP rfl rfl (za rfl) (fun h1=> ?_) (fun h1=> ?_)
  ·
   refine zb rfl rfl<|zb rfl rfl<|zb rfl rfl<|zb rfl rfl<|r_pv rfl rfl (zm rfl rfl)<|r_pv rfl rfl (zd rfl)<|zj ?_
   exact zca () (show True from by first|trivial|omega|simp_all) ((.e rfl (congrArg Value.bool (by first|(simp_all;done)|(simp_all;omega)|(simp;omega)|omega)) .n):SubM _ _) (ho:=(.n:PickO _ _ _)) ((.c (j:=0) rfl .n):SelR _ _ _)
  ·
   refine r_pv rfl rfl (za rfl)<|r_pv rfl rfl (zg Tryz.underlying24 rfl sz3 rfl rfl)<|r_u rfl rfl (zk (j:=2) 0 ty3 rfl rfl rfl rfl)<|r_pv rfl rfl (zoa rfl rfl)<|r_pv rfl rfl (zm rfl rfl)<|r_pv rfl rfl (zd rfl)<|zj ?_
   exact zca () (show True from by first|trivial|omega|simp_all) ((.e rfl (congrArg Value.bool (by first|(simp_all;done)|(simp_all;omega)|(simp;omega)|omega)) .n):SubM _ _) (ho:=(.n:PickO _ _ _)) ((.c (j:=0) rfl .n):SelR _ _ _)
 ·
  rintro ⟨⟩ -
  try dsimp only
  refine zI ?_
  exact zE Tryz.results95 () trivial (zo rfl) rfl (ho:=(.n:PickO _ _ _)) (.n:SelR _ _ _)
theorem zyc {w:Int} {h:Int} {m:Int} {p:Option Addr} {n:Nat} {cap:Nat} {l:List Int} {bb:Nat} (hn:l.length=n):Con Tryz.prog 120 [.slice p n cap,.func (.func 95) #[] #[.pointer (some ⟨bb,0,none⟩)]] [] [slF (rI .i64) p cap l,atF bb 0 [.int .i64 w,.int .i64 h,.int .i64 m,.slice p n cap]] (Y:=Int) (fun y=>(0≤y↔∃g∈l,g<0∨m<g)) (fun y=> .int .i64 y) (fun y=>[]) (fun y=>[]):=by
 refine zq Tryz.func120 rfl rfl rfl (fun c=> ?_)
 show RunC _ _ _ _ _ [(0,.slice p n cap),(1,.func (.func 95) #[] #[.pointer (some ⟨bb,0,none⟩)])] [] [slF (rI .i64) p cap l,atF bb 0 [.int .i64 w,.int .i64 h,.int .i64 m,.slice p n cap]]
 refine zY 0 rfl (fun hL0=> ?_)
 refine zi<|zc<|r_pv rfl rfl (zd rfl)<|zj<|ze<|zi<|zi<|zc<|r_pv rfl rfl (za rfl)<|r_pv rfl rfl (zM Tryz.underlying22 rfl)<|r_pv rfl rfl (za rfl)<|zj<|ze<|zA<|zka (X:=Nat) (fun x:Nat=>x≤n∧∀j,j<x→¬(l.getD j 0<0∨m<l.getD j 0)) (fun x=>[(8,.int .i64 ((x:Nat):Int)),(7,.int .i64 ((n:Nat):Int)),(0,.slice p n cap),(1,.func (.func 95) #[] #[.pointer (some ⟨bb,0,none⟩)])]) (fun x=>[]) (fun x=>[slF (rI .i64) p cap l,atF bb 0 [.int .i64 w,.int .i64 h,.int .i64 m,.slice p n cap]]) (fun x:Nat=>n - x) 0 (show 0≤n∧∀j,j<0→¬(l.getD j 0<0∨m<l.getD j 0) from by exact ⟨by omega,fun j h=>by omega⟩) ((.e rfl (by first|rfl|(congr 1;omega)|simp_all) (.of rfl)):SubM _ _) (ho:=(.n:PickO _ _ _)) ((.of [0,1] rfl):SelR _ _ _) ?_
 rintro i hI
 replace hI:i≤n∧∀j,j<i→¬(l.getD j 0<0∨m<l.getD j 0):=hI
 try dsimp only
 obtain ⟨hi,hall⟩:=hI
 refine zi<|zc<|r_pv rfl rfl (zda rfl rfl)<|zj<|ze<|zi<|zG rfl (fun h1=> ?_) (fun h1=> ?_)
 ·
  refine zB<|ze<|zi<|zA<|zi<|zc<|r_pv rfl rfl (za rfl)<|r_pv rfl rfl (zd rfl)<|zj<|ze<|zi<|zc<|r_pv rfl rfl (za rfl)<|r_pv rfl rfl (za rfl)<|r_pv rfl rfl (za rfl)<|zU (x0:=(l.getD i 0)) 0 i rfl Tryz.underlying22 sz3 rfl rfl rfl (by first|rfl|assumption|(simp_all;done)|omega) rfl rfl (gD (d:=0) (by omega)) (fun b2 o3 hok4=> ?_)
  replace hok4:=zR.1 hok4
  refine r_u rfl rfl (zk (j:=0) 0 ty3 rfl rfl rfl rfl)<|zZc (first:=[]) (cap:=[.pointer (some ⟨bb,0,none⟩)]) rfl rfl rfl (.c rfl .n) ce95 (zId (w:=w) (h:=h) (m:=m) (p:=p) (n:=n) (cap:=cap) (bb:=bb) (u:=(l.getD i 0))) (.c (j:=2) rfl .n) ?_
  rintro ⟨⟩ -
  dsimp only [List.append_eq,List.nil_append,List.cons_append]
  refine zj<|ze<|zG rfl (fun hb=> ?_) (fun hb=> ?_)
  ·
   refine zi<|zc<|r_pv rfl rfl (za rfl)<|r_pv rfl rfl (zd rfl)<|zj<|ze<|zI<|zZ<|zp<|zp<|zZ<|zp ?_
   exact zE Tryz.results120 ((i:Nat):Int) (⟨fun _=>⟨l.getD i 0,Big.getD_mem (by omega),hb⟩,fun _=>by omega⟩) (zo rfl) rfl (ho:=(.n:PickO _ _ _)) (.n:SelR _ _ _)
  ·
   refine zB<|zT<|ze<|zc<|r_pv rfl rfl (zx (z:=(((i+1):Nat):Int)) rfl rfl (w64 (by omega)))<|r_pv rfl rfl (za rfl)<|zj<|zha (i+1) (show (i+1)≤n∧∀j,j<(i+1)→¬(l.getD j 0<0∨m<l.getD j 0) from by refine ⟨by omega,fun j hj=> ?_⟩;by_cases e:j=i;subst e;exact hb;exact hall j (by omega)) (by show n - (i+1)<n - i;omega) ((.of rfl):SubM _ _) (ho:=(.n:PickO _ _ _)) ((.of [1,2] rfl):SelR _ _ _)
 ·
  refine zja<|zl<|zl<|zu<|ze<|zi<|zc<|r_pv rfl rfl (zd rfl)<|zj<|ze<|zI ?_
  exact zE Tryz.results120 (-1) (⟨fun h=>by omega,fun ⟨g,hg,hb⟩=>by obtain ⟨j,hj,e⟩:=Big.mem_getD hg;have:=hall j (by omega);rw [e] at this;exact absurd hb this⟩) (zo rfl) rfl (ho:=(.n:PickO _ _ _)) (.n:SelR _ _ _)
theorem zWb {w:Int} {h:Int} {m:Int} {p:Option Addr} {n:Nat} {cap:Nat} {l:List Int} {bb:Nat} (hn:l.length=n):Con Tryz.prog 94 [.slice p n cap,.func (.func 95) #[] #[.pointer (some ⟨bb,0,none⟩)]] [] [slF (rI .i64) p cap l,atF bb 0 [.int .i64 w,.int .i64 h,.int .i64 m,.slice p n cap]] (Y:=Unit) (fun y=>True) (fun y=> .bool (decide (∃g∈l,g<0∨m<g))) (fun y=>[]) (fun y=>[]):=by
 refine zq Tryz.func94 rfl rfl rfl (fun c=> ?_)
 show RunC _ _ _ _ _ [(0,.slice p n cap),(1,.func (.func 95) #[] #[.pointer (some ⟨bb,0,none⟩)])] [] [slF (rI .i64) p cap l,atF bb 0 [.int .i64 w,.int .i64 h,.int .i64 m,.slice p n cap]]
 refine zY 0 rfl (fun hL0=> ?_)
 refine zi<|zc<|r_pv rfl rfl (zd rfl)<|zj<|ze<|zi<|zc<|r_pv rfl rfl (za rfl)<|r_pv rfl rfl (za rfl)<|zy rfl rfl (.c rfl (.c rfl .n)) ce120 (zyc (w:=w) (h:=h) (m:=m) (p:=p) (n:=n) (cap:=cap) (l:=l) (bb:=bb) (hn:=by assumption)) (.c (j:=0) rfl (.c (j:=1) rfl .n)) ?_
 rintro r1 hr
 dsimp only [List.append_eq,List.nil_append,List.cons_append]
 replace hr:(0≤r1↔∃g∈l,g<0∨m<g):=hr
 refine r_pv rfl rfl (zMa rfl rfl)<|r_pv rfl rfl (zd rfl)<|zj<|ze<|zI ?_
 exact zE Tryz.results94 () trivial (zo rfl) (congrArg Value.bool (decide_eq_decide.2 hr.symm)) (ho:=(.n:PickO _ _ _)) (.n:SelR _ _ _)
theorem zlb {w:Int} {h:Int} {m:Int} {p:Option Addr} {n:Nat} {cap:Nat} {l:List Int} (hn:l.length=n):Con Tryz.prog 61 [.agg #[.int .i64 w,.int .i64 h,.int .i64 m,.slice p n cap]] [] [slF (rI .i64) p cap l] (Y:=Unit) (fun y=>True) (fun y=> .int .i64 (if Bl.rok w h m l then 0 else 1)) (fun y=>[]) (fun y=>[]):=by
 refine zq Tryz.func61 rfl rfl rfl (fun c=> ?_)
 show RunC _ _ _ _ _ [(0,.agg #[.int .i64 w,.int .i64 h,.int .i64 m,.slice p n cap])] [] [slF (rI .i64) p cap l]
 refine zY 0 rfl (fun hL0=> ?_)
 refine zi<|zc<|zJ rfl rfl (zQ rfl rfl) (fun b1=> ?_)
 refine r_pv rfl rfl (zd rfl)<|zj<|ze<|zi<|zGa (X:=Unit) (fun x=>True) (fun x=>[(34,.bool (decide (¬((1≤w∧w≤64)∧(1≤h∧h≤64)∧(1≤m∧m≤65535)∧(n:Int)=w*h)))),(2,.int .i64 0),(1,.pointer (some ⟨b1,0,none⟩))]) (fun x=>[boxA b1 24 [.int .i64 w,.int .i64 h,.int .i64 m,.slice p n cap]]) (fun x=>[slF (rI .i64) p cap l]) ?_ ?_
 ·
  refine zc<|r_pv rfl rfl (zg Tryz.underlying24 rfl sz3 rfl rfl)<|r_u rfl rfl (zh 0 ty3 rfl rfl rfl)<|r_pv rfl rfl (zg Tryz.underlying24 rfl sz3 rfl rfl)<|r_u rfl rfl (zh 0 ty3 rfl rfl rfl)<|r_pv rfl rfl (zg Tryz.underlying24 rfl sz3 rfl rfl)<|r_u rfl rfl (zh 0 ty3 rfl rfl rfl)<|r_pv rfl rfl (zNf rfl rfl rfl)<|r_pv rfl rfl (zda rfl rfl)<|zP rfl rfl (za rfl) (fun h2=> ?_) (fun h2=> ?_)
  ·
   refine zb rfl rfl<|zb rfl rfl<|zb rfl rfl<|zb rfl rfl<|zb rfl rfl<|zb rfl rfl<|r_pv rfl rfl (zm rfl rfl)<|r_pv rfl rfl (za rfl)<|zb rfl rfl<|zb rfl rfl<|zb rfl rfl<|r_pv rfl rfl (zm rfl rfl)<|r_pv rfl rfl (za rfl)<|zb rfl rfl<|zb rfl rfl<|zb rfl rfl<|zb rfl rfl<|zb rfl rfl<|zb rfl rfl<|zb rfl rfl<|zb rfl rfl<|zb rfl rfl<|r_pv rfl rfl (zm rfl rfl)<|zj ?_
   exact zca () (show True from by first|trivial|omega|simp_all) ((.e rfl (congrArg Value.bool (by exact Eq.symm (decide_eq_true (by omega)))) (.c rfl (.c rfl .n))):SubM _ _) (ho:=((.c (i:=0) rfl .n):PickO _ _ _)) ((.c (j:=0) rfl .n):SelR _ _ _)
  ·
   refine r_pv rfl rfl (zg Tryz.underlying24 rfl sz3 rfl rfl)<|r_u rfl rfl (zh 0 ty3 rfl rfl rfl)<|r_pv rfl rfl (zg Tryz.underlying24 rfl sz3 rfl rfl)<|r_u rfl rfl (zh 0 ty3 rfl rfl rfl)<|r_pv rfl rfl (zxe rfl rfl)<|r_pv rfl rfl (zoa rfl rfl)<|r_pv rfl rfl (zm rfl rfl)<|zP rfl rfl (za rfl) (fun h3=> ?_) (fun h3=> ?_)
   ·
    refine zb rfl rfl<|zb rfl rfl<|zb rfl rfl<|r_pv rfl rfl (zm rfl rfl)<|r_pv rfl rfl (za rfl)<|zb rfl rfl<|zb rfl rfl<|zb rfl rfl<|zb rfl rfl<|zb rfl rfl<|zb rfl rfl<|zb rfl rfl<|zb rfl rfl<|zb rfl rfl<|r_pv rfl rfl (zm rfl rfl)<|zj ?_
    exact zca () (show True from by first|trivial|omega|simp_all) ((.e rfl (congrArg Value.bool (by exact Eq.symm (decide_eq_true (by omega)))) (.c rfl (.c rfl .n))):SubM _ _) (ho:=((.c (i:=0) rfl .n):PickO _ _ _)) ((.c (j:=0) rfl .n):SelR _ _ _)
   ·
    refine r_pv rfl rfl (zg Tryz.underlying24 rfl sz3 rfl rfl)<|r_u rfl rfl (zh 0 ty3 rfl rfl rfl)<|r_pv rfl rfl (zoa rfl rfl)<|r_pv rfl rfl (zm rfl rfl)<|zP rfl rfl (za rfl) (fun h4=> ?_) (fun h4=> ?_)
    ·
     refine zb rfl rfl<|zb rfl rfl<|zb rfl rfl<|zb rfl rfl<|zb rfl rfl<|zb rfl rfl<|zb rfl rfl<|zb rfl rfl<|zb rfl rfl<|r_pv rfl rfl (zm rfl rfl)<|zj ?_
     exact zca () (show True from by first|trivial|omega|simp_all) ((.e rfl (congrArg Value.bool (by exact Eq.symm (decide_eq_true (by omega)))) (.c rfl (.c rfl .n))):SubM _ _) (ho:=((.c (i:=0) rfl .n):PickO _ _ _)) ((.c (j:=0) rfl .n):SelR _ _ _)
    ·
     refine r_pv rfl rfl (zg Tryz.underlying24 rfl sz22 rfl rfl)<|r_u rfl rfl (zh 0 ty22 rfl rfl rfl)<|r_pv rfl rfl (zM Tryz.underlying22 rfl)<|r_pv rfl rfl (zg Tryz.underlying24 rfl sz3 rfl rfl)<|r_u rfl rfl (zh 0 ty3 rfl rfl rfl)<|r_pv rfl rfl (zg Tryz.underlying24 rfl sz3 rfl rfl)<|r_u rfl rfl (zh 0 ty3 rfl rfl rfl)<|r_pv rfl rfl (zpa (z:=(w*h)) rfl rfl (w64 (by first|omega|(have:=Bl.mul_b (x:=w) (y:=h) (m:=64) (n:=64) (by omega) (by omega);omega))))<|r_pv rfl rfl (zKa rfl rfl)<|r_pv rfl rfl (zm rfl rfl)<|zj ?_
     exact zca () (show True from by first|trivial|omega|simp_all) ((.e rfl (congrArg Value.bool (by exact decide_eq_decide.2 (by constructor <;> intro k <;> omega))) (.c rfl (.c rfl .n))):SubM _ _) (ho:=((.c (i:=0) rfl .n):PickO _ _ _)) ((.c (j:=0) rfl .n):SelR _ _ _)
 ·
  rintro ⟨⟩ -
  try dsimp only
  refine zG rfl (fun h5=> ?_) (fun h5=> ?_)
  ·
   refine zi<|zc<|r_pv rfl rfl (zd rfl)<|zj<|ze<|zI<|zp ?_
   exact zE Tryz.results61 () trivial (zo rfl) (by rw [if_neg (fun k=>by unfold Bl.rok at k;omega)]) (ho:=(.n:PickO _ _ _)) (.n:SelR _ _ _)
  ·
   refine zB<|ze<|zi<|zi<|zkb 0 rfl .z<|zc<|r_pv rfl rfl (zg Tryz.underlying24 rfl sz22 rfl rfl)<|r_u rfl rfl (zk (j:=3) 0 ty22 rfl rfl rfl rfl)<|r_pv rfl rfl (zob .n (.c rfl .n))<|zN rfl rfl (.c rfl (.c rfl .n)) ce94 (zWb (w:=w) (h:=h) (m:=m) (p:=p) (n:=n) (cap:=cap) (l:=l) (bb:=b1) (hn:=by assumption)) (.c (j:=1) rfl (.c (j:=0) rfl .n))<|zj<|ze<|zG rfl (fun hx=> ?_) (fun hx=> ?_)
   ·
    refine zi<|zc<|r_pv rfl rfl (zd rfl)<|zj<|ze<|zI<|zp ?_
    exact zE Tryz.results61 () trivial (zo rfl) (by rw [if_neg (fun k=>k.2.2.2.2 hx)]) (ho:=(.n:PickO _ _ _)) (.n:SelR _ _ _)
   ·
    refine zB<|ze<|zi<|zc<|r_pv rfl rfl (zd rfl)<|zj<|ze<|zI ?_
    exact zE Tryz.results61 () trivial (zo rfl) (by rw [if_pos (show Bl.rok w h m l from ⟨by omega,by omega,by omega,by omega,hx⟩)]) (ho:=(.n:PickO _ _ _)) (.n:SelR _ _ _)
theorem zJd {w:Int} {h:Int} {m:Int} {p:Option Addr} {n:Nat} {cap:Nat} {l:List Int} (hn:l.length=n):Con Tryz.prog 38 [.agg #[.int .i64 w,.int .i64 h,.int .i64 m,.slice p n cap]] [] [slF (rI .i64) p cap l] (Y:=Unit) (fun y=>True) (fun y=> .int .i64 (if Bl.rok w h m l then 0 else 1)) (fun y=>[]) (fun y=>[]):=by
 refine zq Tryz.func38 rfl rfl rfl (fun c=> ?_)
 show RunC _ _ _ _ _ [(0,.agg #[.int .i64 w,.int .i64 h,.int .i64 m,.slice p n cap])] [] [slF (rI .i64) p cap l]
 refine zY 0 rfl (fun hL0=> ?_)
 refine zi<|zc<|zJ rfl rfl (zQ rfl rfl) (fun b1=> ?_)
 refine r_pv rfl rfl (zd rfl)<|zj<|ze<|zi<|zGa (X:=Unit) (fun x=>True) (fun x=>[(42,.bool (decide (¬((1≤w∧w≤64)∧(1≤h∧h≤64)∧(1≤m∧m≤65535)∧(n:Int)=w*h)))),(2,.int .i64 0),(1,.pointer (some ⟨b1,0,none⟩))]) (fun x=>[boxA b1 24 [.int .i64 w,.int .i64 h,.int .i64 m,.slice p n cap]]) (fun x=>[slF (rI .i64) p cap l]) ?_ ?_
 ·
  refine zc<|r_pv rfl rfl (zg Tryz.underlying24 rfl sz3 rfl rfl)<|r_u rfl rfl (zh 0 ty3 rfl rfl rfl)<|r_pv rfl rfl (zda rfl rfl)<|zP rfl rfl (za rfl) (fun h2=> ?_) (fun h2=> ?_)
  ·
   refine zb rfl rfl<|zb rfl rfl<|zb rfl rfl<|r_pv rfl rfl (zm rfl rfl)<|r_pv rfl rfl (za rfl)<|zb rfl rfl<|zb rfl rfl<|zb rfl rfl<|r_pv rfl rfl (zm rfl rfl)<|r_pv rfl rfl (za rfl)<|zb rfl rfl<|zb rfl rfl<|zb rfl rfl<|r_pv rfl rfl (zm rfl rfl)<|r_pv rfl rfl (za rfl)<|zb rfl rfl<|zb rfl rfl<|zb rfl rfl<|r_pv rfl rfl (zm rfl rfl)<|r_pv rfl rfl (za rfl)<|zb rfl rfl<|zb rfl rfl<|zb rfl rfl<|r_pv rfl rfl (zm rfl rfl)<|r_pv rfl rfl (za rfl)<|zb rfl rfl<|zb rfl rfl<|zb rfl rfl<|zb rfl rfl<|zb rfl rfl<|zb rfl rfl<|zb rfl rfl<|zb rfl rfl<|zb rfl rfl<|r_pv rfl rfl (zm rfl rfl)<|zj ?_
   exact zca () (show True from by first|trivial|omega|simp_all) ((.e rfl (congrArg Value.bool (by exact Eq.symm (decide_eq_true (by omega)))) (.c rfl (.c rfl .n))):SubM _ _) (ho:=((.c (i:=0) rfl .n):PickO _ _ _)) ((.c (j:=0) rfl .n):SelR _ _ _)
  ·
   refine r_pv rfl rfl (zg Tryz.underlying24 rfl sz3 rfl rfl)<|r_u rfl rfl (zh 0 ty3 rfl rfl rfl)<|r_pv rfl rfl (zoa rfl rfl)<|r_pv rfl rfl (zm rfl rfl)<|zP rfl rfl (za rfl) (fun h3=> ?_) (fun h3=> ?_)
   ·
    refine zb rfl rfl<|zb rfl rfl<|zb rfl rfl<|r_pv rfl rfl (zm rfl rfl)<|r_pv rfl rfl (za rfl)<|zb rfl rfl<|zb rfl rfl<|zb rfl rfl<|r_pv rfl rfl (zm rfl rfl)<|r_pv rfl rfl (za rfl)<|zb rfl rfl<|zb rfl rfl<|zb rfl rfl<|r_pv rfl rfl (zm rfl rfl)<|r_pv rfl rfl (za rfl)<|zb rfl rfl<|zb rfl rfl<|zb rfl rfl<|r_pv rfl rfl (zm rfl rfl)<|r_pv rfl rfl (za rfl)<|zb rfl rfl<|zb rfl rfl<|zb rfl rfl<|zb rfl rfl<|zb rfl rfl<|zb rfl rfl<|zb rfl rfl<|zb rfl rfl<|zb rfl rfl<|r_pv rfl rfl (zm rfl rfl)<|zj ?_
    exact zca () (show True from by first|trivial|omega|simp_all) ((.e rfl (congrArg Value.bool (by exact Eq.symm (decide_eq_true (by omega)))) (.c rfl (.c rfl .n))):SubM _ _) (ho:=((.c (i:=0) rfl .n):PickO _ _ _)) ((.c (j:=0) rfl .n):SelR _ _ _)
   ·
    refine r_pv rfl rfl (zg Tryz.underlying24 rfl sz3 rfl rfl)<|r_u rfl rfl (zh 0 ty3 rfl rfl rfl)<|r_pv rfl rfl (zda rfl rfl)<|r_pv rfl rfl (zm rfl rfl)<|zP rfl rfl (za rfl) (fun h4=> ?_) (fun h4=> ?_)
    ·
     refine zb rfl rfl<|zb rfl rfl<|zb rfl rfl<|r_pv rfl rfl (zm rfl rfl)<|r_pv rfl rfl (za rfl)<|zb rfl rfl<|zb rfl rfl<|zb rfl rfl<|r_pv rfl rfl (zm rfl rfl)<|r_pv rfl rfl (za rfl)<|zb rfl rfl<|zb rfl rfl<|zb rfl rfl<|r_pv rfl rfl (zm rfl rfl)<|r_pv rfl rfl (za rfl)<|zb rfl rfl<|zb rfl rfl<|zb rfl rfl<|zb rfl rfl<|zb rfl rfl<|zb rfl rfl<|zb rfl rfl<|zb rfl rfl<|zb rfl rfl<|r_pv rfl rfl (zm rfl rfl)<|zj ?_
     exact zca () (show True from by first|trivial|omega|simp_all) ((.e rfl (congrArg Value.bool (by exact Eq.symm (decide_eq_true (by omega)))) (.c rfl (.c rfl .n))):SubM _ _) (ho:=((.c (i:=0) rfl .n):PickO _ _ _)) ((.c (j:=0) rfl .n):SelR _ _ _)
    ·
     refine r_pv rfl rfl (zg Tryz.underlying24 rfl sz3 rfl rfl)<|r_u rfl rfl (zh 0 ty3 rfl rfl rfl)<|r_pv rfl rfl (zoa rfl rfl)<|r_pv rfl rfl (zm rfl rfl)<|zP rfl rfl (za rfl) (fun h5=> ?_) (fun h5=> ?_)
     ·
      refine zb rfl rfl<|zb rfl rfl<|zb rfl rfl<|r_pv rfl rfl (zm rfl rfl)<|r_pv rfl rfl (za rfl)<|zb rfl rfl<|zb rfl rfl<|zb rfl rfl<|r_pv rfl rfl (zm rfl rfl)<|r_pv rfl rfl (za rfl)<|zb rfl rfl<|zb rfl rfl<|zb rfl rfl<|zb rfl rfl<|zb rfl rfl<|zb rfl rfl<|zb rfl rfl<|zb rfl rfl<|zb rfl rfl<|r_pv rfl rfl (zm rfl rfl)<|zj ?_
      exact zca () (show True from by first|trivial|omega|simp_all) ((.e rfl (congrArg Value.bool (by exact Eq.symm (decide_eq_true (by omega)))) (.c rfl (.c rfl .n))):SubM _ _) (ho:=((.c (i:=0) rfl .n):PickO _ _ _)) ((.c (j:=0) rfl .n):SelR _ _ _)
     ·
      refine r_pv rfl rfl (zg Tryz.underlying24 rfl sz3 rfl rfl)<|r_u rfl rfl (zh 0 ty3 rfl rfl rfl)<|r_pv rfl rfl (zda rfl rfl)<|r_pv rfl rfl (zm rfl rfl)<|zP rfl rfl (za rfl) (fun h6=> ?_) (fun h6=> ?_)
      ·
       refine zb rfl rfl<|zb rfl rfl<|zb rfl rfl<|r_pv rfl rfl (zm rfl rfl)<|r_pv rfl rfl (za rfl)<|zb rfl rfl<|zb rfl rfl<|zb rfl rfl<|zb rfl rfl<|zb rfl rfl<|zb rfl rfl<|zb rfl rfl<|zb rfl rfl<|zb rfl rfl<|r_pv rfl rfl (zm rfl rfl)<|zj ?_
       exact zca () (show True from by first|trivial|omega|simp_all) ((.e rfl (congrArg Value.bool (by exact Eq.symm (decide_eq_true (by omega)))) (.c rfl (.c rfl .n))):SubM _ _) (ho:=((.c (i:=0) rfl .n):PickO _ _ _)) ((.c (j:=0) rfl .n):SelR _ _ _)
      ·
       refine r_pv rfl rfl (zg Tryz.underlying24 rfl sz3 rfl rfl)<|r_u rfl rfl (zh 0 ty3 rfl rfl rfl)<|r_pv rfl rfl (zoa rfl rfl)<|r_pv rfl rfl (zm rfl rfl)<|zP rfl rfl (za rfl) (fun h7=> ?_) (fun h7=> ?_)
       ·
        refine zb rfl rfl<|zb rfl rfl<|zb rfl rfl<|zb rfl rfl<|zb rfl rfl<|zb rfl rfl<|zb rfl rfl<|zb rfl rfl<|zb rfl rfl<|r_pv rfl rfl (zm rfl rfl)<|zj ?_
        exact zca () (show True from by first|trivial|omega|simp_all) ((.e rfl (congrArg Value.bool (by exact Eq.symm (decide_eq_true (by omega)))) (.c rfl (.c rfl .n))):SubM _ _) (ho:=((.c (i:=0) rfl .n):PickO _ _ _)) ((.c (j:=0) rfl .n):SelR _ _ _)
       ·
        refine r_pv rfl rfl (zg Tryz.underlying24 rfl sz22 rfl rfl)<|r_u rfl rfl (zh 0 ty22 rfl rfl rfl)<|r_pv rfl rfl (zM Tryz.underlying22 rfl)<|r_pv rfl rfl (zg Tryz.underlying24 rfl sz3 rfl rfl)<|r_u rfl rfl (zh 0 ty3 rfl rfl rfl)<|r_pv rfl rfl (zg Tryz.underlying24 rfl sz3 rfl rfl)<|r_u rfl rfl (zh 0 ty3 rfl rfl rfl)<|r_pv rfl rfl (zpa (z:=(w*h)) rfl rfl (w64 (by first|omega|(have:=Bl.mul_b (x:=w) (y:=h) (m:=64) (n:=64) (by omega) (by omega);omega))))<|r_pv rfl rfl (zKa rfl rfl)<|r_pv rfl rfl (zm rfl rfl)<|zj ?_
        exact zca () (show True from by first|trivial|omega|simp_all) ((.e rfl (congrArg Value.bool (by exact decide_eq_decide.2 (by constructor <;> intro k <;> omega))) (.c rfl (.c rfl .n))):SubM _ _) (ho:=((.c (i:=0) rfl .n):PickO _ _ _)) ((.c (j:=0) rfl .n):SelR _ _ _)
 ·
  rintro ⟨⟩ -
  try dsimp only
  refine zG rfl (fun hc=> ?_) (fun hc=> ?_)
  ·
   refine zi<|zc<|r_pv rfl rfl (zd rfl)<|zj<|ze<|zI<|zp ?_
   exact zE Tryz.results38 () trivial (zo rfl) (by rw [if_neg (fun k=>by unfold Bl.rok at k;omega)]) (ho:=(.n:PickO _ _ _)) (.n:SelR _ _ _)
  ·
   refine zB<|ze<|zi<|zi<|zc<|r_pv rfl rfl (zd rfl)<|zj<|ze<|zA<|zka (X:=Nat) (fun x:Nat=>x≤n∧∀j,j<x→¬(l.getD j 0<0∨m<l.getD j 0)) (fun x=>[(3,.int .i64 ((x:Nat):Int)),(1,.pointer (some ⟨b1,0,none⟩))]) (fun x=>[boxA b1 24 [.int .i64 w,.int .i64 h,.int .i64 m,.slice p n cap]]) (fun x=>[slF (rI .i64) p cap l]) (fun x:Nat=>n - x) 0 (show 0≤n∧∀j,j<0→¬(l.getD j 0<0∨m<l.getD j 0) from by exact ⟨by omega,fun j h=>by omega⟩) ((.e rfl (by first|rfl|(congr 1;omega)|simp_all) (.c rfl .n)):SubM _ _) (ho:=((.c (i:=0) rfl .n):PickO _ _ _)) ((.c (j:=0) rfl .n):SelR _ _ _) ?_
   rintro i hI
   replace hI:i≤n∧∀j,j<i→¬(l.getD j 0<0∨m<l.getD j 0):=hI
   try dsimp only
   obtain ⟨hi,hall⟩:=hI
   refine zi<|zi<|zc<|r_pv rfl rfl (za rfl)<|r_pv rfl rfl (zg Tryz.underlying24 rfl sz22 rfl rfl)<|r_u rfl rfl (zh 0 ty22 rfl rfl rfl)<|r_pv rfl rfl (zM Tryz.underlying22 rfl)<|r_pv rfl rfl (zda rfl rfl)<|zj<|ze<|zG rfl (fun h8=> ?_) (fun h8=> ?_)
   ·
    refine zB<|ze<|zi<|zA<|zGa (X:=Unit) (fun x=>True) (fun x=>[(65,.bool (decide (l.getD i 0<0∨m<l.getD i 0))),(3,.int .i64 ((i:Nat):Int)),(1,.pointer (some ⟨b1,0,none⟩))]) (fun x=>[boxA b1 24 [.int .i64 w,.int .i64 h,.int .i64 m,.slice p n cap]]) (fun x=>[slF (rI .i64) p cap l]) ?_ ?_
    ·
     refine zea (OW:=[]) (O:=[boxA b1 24 [.int .i64 w,.int .i64 h,.int .i64 m,.slice p n cap]]) 100000 mixed (.then (.block (.then (.then (.block (.then .ret)))))) (by kernel_rfl)<|d_pv 0 rfl rfl (by kernel_rfl) (by kernel_rfl) rfl rfl (zg Tryz.underlying24 rfl sz22 rfl rfl)<|d_u 1 rfl rfl (by kernel_rfl) (by kernel_rfl) rfl rfl (zh 0 ty22 rfl rfl rfl)<|d_pv 2 rfl rfl (by kernel_rfl) (by kernel_rfl) rfl rfl (za rfl)<|zga (x0:=(l.getD i 0)) 3 rfl rfl (by kernel_rfl) (by kernel_rfl) 0 i rfl Tryz.underlying22 sz3 rfl rfl rfl (by first|rfl|assumption|(simp_all;done)|omega) rfl rfl (gD (d:=0) (by first|omega|(have:=Bl.mul_b (x:=w) (y:=h) (m:=64) (n:=64) (by omega) (by omega);omega))) (fun b9 o10 hok11=> ?_)
     replace hok11:=zR.1 hok11
     refine d_u 4 rfl rfl (by kernel_rfl) (by kernel_rfl) rfl rfl (zk (j:=0) 0 ty3 rfl rfl rfl rfl)<|d_pv 5 rfl rfl (by kernel_rfl) (by kernel_rfl) rfl rfl (zda rfl rfl)<|zOb 6 rfl rfl (by kernel_rfl) (by kernel_rfl) rfl rfl (za rfl) (fun h12=> ?_) (fun h12=> ?_)
     ·
      refine zS 7 rfl rfl (by kernel_rfl) (by kernel_rfl) rfl rfl<|zS 8 rfl rfl (by kernel_rfl) (by kernel_rfl) rfl rfl<|zS 9 rfl rfl (by kernel_rfl) (by kernel_rfl) rfl rfl<|zS 10 rfl rfl (by kernel_rfl) (by kernel_rfl) rfl rfl<|zS 11 rfl rfl (by kernel_rfl) (by kernel_rfl) rfl rfl<|zS 12 rfl rfl (by kernel_rfl) (by kernel_rfl) rfl rfl<|zS 13 rfl rfl (by kernel_rfl) (by kernel_rfl) rfl rfl<|zS 14 rfl rfl (by kernel_rfl) (by kernel_rfl) rfl rfl<|d_pv 15 rfl rfl (by kernel_rfl) (by kernel_rfl) rfl rfl (zm rfl rfl)<|zba (by kernel_rfl) ?_
      exact zca () (show True from by first|trivial|omega|simp_all) ((.e rfl (congrArg Value.bool (by exact Eq.symm (decide_eq_true (by omega)))) (.c rfl (.c rfl .n))):SubM _ _) (ho:=((.c (i:=0) rfl .n):PickO _ _ _)) ((.c (j:=1) rfl .n):SelR _ _ _)
     ·
      refine d_pv 7 rfl rfl (by kernel_rfl) (by kernel_rfl) rfl rfl (zg Tryz.underlying24 rfl sz22 rfl rfl)<|d_u 8 rfl rfl (by kernel_rfl) (by kernel_rfl) rfl rfl (zh 0 ty22 rfl rfl rfl)<|d_pv 9 rfl rfl (by kernel_rfl) (by kernel_rfl) rfl rfl (za rfl)<|zga (x0:=(l.getD i 0)) 10 rfl rfl (by kernel_rfl) (by kernel_rfl) 1 i rfl Tryz.underlying22 sz3 rfl rfl rfl (by first|rfl|assumption|(simp_all;done)|omega) rfl rfl (gD (d:=0) (by first|omega|(have:=Bl.mul_b (x:=w) (y:=h) (m:=64) (n:=64) (by omega) (by omega);omega))) (fun b13 o14 hok15=> ?_)
      replace hok15:=zR.1 hok15
      refine d_u 11 rfl rfl (by kernel_rfl) (by kernel_rfl) rfl rfl (zk (j:=0) 0 ty3 rfl rfl rfl rfl)<|d_pv 12 rfl rfl (by kernel_rfl) (by kernel_rfl) rfl rfl (zg Tryz.underlying24 rfl sz3 rfl rfl)<|d_u 13 rfl rfl (by kernel_rfl) (by kernel_rfl) rfl rfl (zh 0 ty3 rfl rfl rfl)<|d_pv 14 rfl rfl (by kernel_rfl) (by kernel_rfl) rfl rfl (zoa rfl rfl)<|d_pv 15 rfl rfl (by kernel_rfl) (by kernel_rfl) rfl rfl (zm rfl rfl)<|zba (by kernel_rfl) ?_
      exact zca () (show True from by first|trivial|omega|simp_all) ((.e rfl (congrArg Value.bool (by exact decide_eq_decide.2 (by constructor <;> intro k <;> omega))) (.c rfl (.c rfl .n))):SubM _ _) (ho:=((.c (i:=0) rfl .n):PickO _ _ _)) ((.c (j:=2) rfl .n):SelR _ _ _)
    ·
     rintro ⟨⟩ -
     try dsimp only
     refine zG rfl (fun hx=> ?_) (fun hx=> ?_)
     ·
      refine zi<|zc<|r_pv rfl rfl (zd rfl)<|zj<|ze<|zI<|zZ<|zp<|zp<|zZ<|zp ?_
      exact zE Tryz.results38 () trivial (zo rfl) (by rw [if_neg (fun k=>k.2.2.2.2 ⟨l.getD i 0,Big.getD_mem (by omega),hx⟩)]) (ho:=(.n:PickO _ _ _)) (.n:SelR _ _ _)
     ·
      refine zB<|zT<|ze<|zc<|r_pv rfl rfl (za rfl)<|r_pv rfl rfl (zx (z:=(((i+1):Nat):Int)) rfl rfl (w64 (by first|omega|(have:=Bl.mul_b (x:=w) (y:=h) (m:=64) (n:=64) (by omega) (by omega);omega))))<|r_pv rfl rfl (zd rfl)<|zj<|zha (i+1) (show (i+1)≤n∧∀j,j<(i+1)→¬(l.getD j 0<0∨m<l.getD j 0) from by refine ⟨by omega,fun j hj=> ?_⟩;by_cases e:j=i;subst e;exact hx;exact hall j (by omega)) (by show n - (i+1)<n - i;omega) ((.c rfl (.c rfl .n)):SubM _ _) (ho:=((.c (i:=0) rfl .n):PickO _ _ _)) ((.c (j:=0) rfl .n):SelR _ _ _)
   ·
    refine zja<|zl<|zl<|zu<|ze<|zi<|zc<|r_pv rfl rfl (zd rfl)<|zj<|ze<|zI ?_
    exact zE Tryz.results38 () trivial (zo rfl) (by rw [if_pos (show Bl.rok w h m l from ⟨by omega,by omega,by omega,by omega,fun ⟨g,hg,hb⟩=>by obtain ⟨j,hj,e⟩:=Big.mem_getD hg;have:=hall j (by omega);rw [e] at this;exact absurd hb this⟩)]) (ho:=(.n:PickO _ _ _)) (.n:SelR _ _ _)
theorem zKe {p1:Option Addr} {n1:Nat} {c1:Nat} {l1:List Int} {p2:Option Addr} {n2:Nat} {c2:Nat} {l2:List Int} (hn1:l1.length=n1) (hn2:l2.length=n2):Con Tryz.prog 33 [.slice p1 n1 c1,.slice p2 n2 c2] [] [slF (rI .i64) p1 c1 l1,slF (rI .i64) p2 c2 l2] (Y:=Unit) (fun y=>True) (fun y=> .bool (decide (l1=l2))) (fun y=>[]) (fun y=>[]):=by
 refine zq Tryz.func33 rfl rfl rfl (fun c=> ?_)
 show RunC _ _ _ _ _ [(0,.slice p1 n1 c1),(1,.slice p2 n2 c2)] [] [slF (rI .i64) p1 c1 l1,slF (rI .i64) p2 c2 l2]
 refine zY 0 rfl (fun hL0=> ?_)
 refine zY 1 rfl (fun hL1=> ?_)
 refine zi<|zc<|r_pv rfl rfl (zd rfl)<|zj<|ze<|zi<|zi<|zc<|r_pv rfl rfl (za rfl)<|r_pv rfl rfl (zM Tryz.underlying22 rfl)<|r_pv rfl rfl (za rfl)<|r_pv rfl rfl (zM Tryz.underlying22 rfl)<|r_pv rfl rfl (zKa rfl rfl)<|zj<|ze<|zG rfl (fun hlen=> ?_) (fun hlen=> ?_)
 ·
  refine zi<|zc<|r_pv rfl rfl (zd rfl)<|zj<|ze<|zI<|zp ?_
  exact zE Tryz.results33 () trivial (zo rfl) (congrArg Value.bool (decide_eq_false (fun h=>hlen (by rw [← hn1,←hn2,h])))) (ho:=(.n:PickO _ _ _)) (.n:SelR _ _ _)
 ·
  refine zB<|ze<|zi<|zi<|zc<|r_pv rfl rfl (za rfl)<|r_pv rfl rfl (zM Tryz.underlying22 rfl)<|r_pv rfl rfl (za rfl)<|zj<|ze<|zA<|zka (X:=Nat) (fun x:Nat=>x≤n1∧∀j,j<x→l1.getD j 0=l2.getD j 0) (fun x=>[(13,.int .i64 ((x:Nat):Int)),(12,.int .i64 ((n1:Nat):Int)),(0,.slice p1 n1 c1),(1,.slice p2 n2 c2)]) (fun x=>[]) (fun x=>[slF (rI .i64) p1 c1 l1,slF (rI .i64) p2 c2 l2]) (fun x:Nat=>n1 - x) 0 (show 0≤n1∧∀j,j<0→l1.getD j 0=l2.getD j 0 from by exact ⟨by omega,fun j h=>by omega⟩) ((.e rfl (by first|rfl|(congr 1;omega)|simp_all) (.of rfl)):SubM _ _) (ho:=(.n:PickO _ _ _)) ((.of [0,1] rfl):SelR _ _ _) ?_
  rintro i hI
  replace hI:i≤n1∧∀j,j<i→l1.getD j 0=l2.getD j 0:=hI
  try dsimp only
  obtain ⟨hi,hall⟩:=hI
  refine zi<|zc<|r_pv rfl rfl (zda rfl rfl)<|zj<|ze<|zi<|zG rfl (fun h1=> ?_) (fun h1=> ?_)
  ·
   refine zB<|ze<|zi<|zA<|zi<|zc<|r_pv rfl rfl (za rfl)<|r_pv rfl rfl (zd rfl)<|zj<|ze<|zi<|zea (OW:=[]) (O:=[]) 100000 mixed (.then (.block (.then (.then (.block (.then .ret)))))) (by kernel_rfl)<|d_pv 0 rfl rfl (by kernel_rfl) (by kernel_rfl) rfl rfl (za rfl)<|d_pv 1 rfl rfl (by kernel_rfl) (by kernel_rfl) rfl rfl (za rfl)<|zga (x0:=(l1.getD i 0)) 2 rfl rfl (by kernel_rfl) (by kernel_rfl) 0 i rfl Tryz.underlying22 sz3 rfl rfl rfl (by first|rfl|assumption|(simp_all;done)|omega) rfl rfl (gD (d:=0) (by omega)) (fun b2 o3 hok4=> ?_)
   replace hok4:=zR.1 hok4
   refine d_u 3 rfl rfl (by kernel_rfl) (by kernel_rfl) rfl rfl (zk (j:=0) 0 ty3 rfl rfl rfl rfl)<|d_pv 4 rfl rfl (by kernel_rfl) (by kernel_rfl) rfl rfl (za rfl)<|d_pv 5 rfl rfl (by kernel_rfl) (by kernel_rfl) rfl rfl (za rfl)<|zga (x0:=(l2.getD i 0)) 6 rfl rfl (by kernel_rfl) (by kernel_rfl) 2 i rfl Tryz.underlying22 sz3 rfl rfl rfl (by first|rfl|assumption|(simp_all;done)|omega) rfl rfl (gD (d:=0) (by omega)) (fun b5 o6 hok7=> ?_)
   replace hok7:=zR.1 hok7
   refine d_u 7 rfl rfl (by kernel_rfl) (by kernel_rfl) rfl rfl (zk (j:=0) 0 ty3 rfl rfl rfl rfl)<|d_pv 8 rfl rfl (by kernel_rfl) (by kernel_rfl) rfl rfl (zKa rfl rfl)<|zba (by kernel_rfl)<|ze<|zG rfl (fun hd=> ?_) (fun hd=> ?_)
   ·
    refine zi<|zc<|r_pv rfl rfl (zd rfl)<|zj<|ze<|zI<|zZ<|zp<|zp<|zZ<|zp ?_
    exact zE Tryz.results33 () trivial (zo rfl) (congrArg Value.bool (decide_eq_false (fun h=>hd (by simp [h])))) (ho:=(.n:PickO _ _ _)) (.n:SelR _ _ _)
   ·
    refine zB<|zT<|ze<|zc<|r_pv rfl rfl (zx (z:=(((i+1):Nat):Int)) rfl rfl (w64 (by omega)))<|r_pv rfl rfl (za rfl)<|zj<|zha (i+1) (show (i+1)≤n1∧∀j,j<(i+1)→l1.getD j 0=l2.getD j 0 from by refine ⟨by omega,fun j hj=> ?_⟩;by_cases e:j=i;rw [e];exact Decidable.not_not.1 hd;exact hall j (by omega)) (by show n1 - (i+1)<n1 - i;omega) ((.of rfl):SubM _ _) (ho:=(.n:PickO _ _ _)) ((.of [2,3] rfl):SelR _ _ _)
  ·
   refine zja<|zl<|zl<|zu<|ze<|zi<|zc<|r_pv rfl rfl (zd rfl)<|zj<|ze<|zI ?_
   exact zE Tryz.results33 () trivial (zo rfl) (congrArg Value.bool (decide_eq_true (Big.ext_getD (by omega) (fun j hj=>hall j (by omega))))) (ho:=(.n:PickO _ _ _)) (.n:SelR _ _ _)
end Go.Proofs.YtkamccndgblheaaGreat.Sp
namespace Go.Proofs.YtkamccndgblheaaGreat.Sp
open Go
set_option linter.unusedVariables false
set_option maxRecDepth 100000
set_option maxHeartbeats 1000000
theorem zLe {w:Nat} {h:Nat} {m:Int} {p:Option Addr} {n:Nat} {cap:Nat} {l:List Int} {xx:Nat} {yy:Nat} (hn:l.length=n) (hw:1≤w∧w≤64) (hh:1≤h∧h≤64) (hwh:n=w*h) (hb:n≤4096) (hg:∀i,i<n→0≤l.getD i 0∧l.getD i 0≤65535) (hx:xx<w) (hy:yy<h):Con Tryz.prog 88 [.agg #[.int .i64 ((w:Nat):Int),.int .i64 ((h:Nat):Int),.int .i64 m,.slice p n cap],.int .i64 ((xx:Nat):Int),.int .i64 ((yy:Nat):Int)] [] [slF (rI .i64) p cap l] (Y:=Unit) (fun y=>True) (fun y=> .int .i64 (Cr.px l (yy*w+xx))) (fun y=>[]) (fun y=>[]):=by
 refine zq Tryz.func88 rfl rfl rfl (fun c=> ?_)
 show RunC _ _ _ _ _ [(0,.agg #[.int .i64 ((w:Nat):Int),.int .i64 ((h:Nat):Int),.int .i64 m,.slice p n cap]),(1,.int .i64 ((xx:Nat):Int)),(2,.int .i64 ((yy:Nat):Int))] [] [slF (rI .i64) p cap l]
 refine zY 0 rfl (fun hL0=> ?_)
 have hlt:yy*w+xx<n:=by rw [hwh];exact Cr.at_lt hy hx
 have hyw:yy*w≤64*64:=Nat.mul_le_mul (by omega) hw.2
 refine zi<|zc<|zJ rfl rfl (zQ rfl rfl) (fun b1=> ?_)
 refine r_pv rfl rfl (zd rfl)<|zj<|ze<|zi<|zc<|r_pv rfl rfl (zg Tryz.underlying24 rfl sz22 rfl rfl)<|r_u rfl rfl (zh 0 ty22 rfl rfl rfl)<|r_pv rfl rfl (za rfl)<|r_pv rfl rfl (zg Tryz.underlying24 rfl sz3 rfl rfl)<|r_u rfl rfl (zh 0 ty3 rfl rfl rfl)<|r_pv rfl rfl (zpa (z:=(((yy*w):Nat):Int)) rfl rfl (w64 (by omega)))<|r_pv rfl rfl (za rfl)<|r_pv rfl rfl (zx (z:=((((yy*w)+xx):Nat):Int)) rfl rfl (w64 (by omega)))<|zU (x0:=(l.getD ((yy*w)+xx) 0)) 0 ((yy*w)+xx) rfl Tryz.underlying22 sz3 rfl rfl rfl (by first|rfl|assumption|(simp_all;done)|omega) rfl rfl (gD (d:=0) (by omega)) (fun b2 o3 hok4=> ?_)
 replace hok4:=zR.1 hok4
 refine r_u rfl rfl (zk (j:=0) 0 ty3 rfl rfl rfl rfl)<|r_pv rfl rfl (zd rfl)<|zj<|ze<|zI ?_
 exact zE Tryz.results88 () trivial (zo rfl) rfl (ho:=(.n:PickO _ _ _)) (.n:SelR _ _ _)
theorem zkd {w:Nat} {h:Nat} {m:Int} {p:Option Addr} {n:Nat} {cap:Nat} {l:List Int} (hn:l.length=n) (hw:1≤w∧w≤64) (hh:1≤h∧h≤64) (hwh:n=w*h) (hb:n≤4096) (hg:∀i,i<n→0≤l.getD i 0∧l.getD i 0≤65535) (hok:Bl.rok w h m l):Con Tryz.prog 63 [.agg #[.int .i64 ((w:Nat):Int),.int .i64 ((h:Nat):Int),.int .i64 m,.slice p n cap]] [] [slF (rI .i64) p cap l] (Y:=(Option Addr)×Nat) (fun y=>True) (fun y=> .tuple #[.slice (y.1) (h+1) (y.2),.int .i64 0]) (fun y=>[]) (fun y=>[slF (rS (rI .i64)) (y.1) (y.2) (Cr.tab (Cr.px l) w (h+1))]):=by
 refine zq Tryz.func63 rfl rfl rfl (fun c=> ?_)
 show RunC _ _ _ _ _ [(0,.agg #[.int .i64 ((w:Nat):Int),.int .i64 ((h:Nat):Int),.int .i64 m,.slice p n cap])] [] [slF (rI .i64) p cap l]
 refine zY 0 rfl (fun hL0=> ?_)
 refine zi<|zc<|zJ rfl rfl (zQ rfl rfl) (fun b1=> ?_)
 refine r_pv rfl rfl (zd rfl)<|r_pv rfl rfl (zd rfl)<|zj<|ze<|zi<|zi<|zc<|r_u rfl rfl (zf 0 ty24 rfl rfl (.take (.take (.take (.take .nil)))))<|zN rfl rfl (.c rfl .n) ce61 (zlb (w:=((w:Nat):Int)) (h:=((h:Nat):Int)) (m:=m) (p:=p) (n:=n) (cap:=cap) (l:=l) (hn:=by assumption)) (.c (j:=0) rfl .n)<|r_pv rfl rfl (zd rfl)<|zj<|ze<|zi<|zc<|r_pv rfl rfl (za rfl)<|r_pv rfl rfl (zKa rfl rfl)<|zj<|ze<|zG rfl (fun hc=> ?_) (fun hc=> ?_)
 ·
  exact absurd (if_pos hok) hc
 ·
  refine zB<|ze<|zi<|zc<|r_pv rfl rfl (zg Tryz.underlying24 rfl sz3 rfl rfl)<|r_u rfl rfl (zh 0 ty3 rfl rfl rfl)<|r_pv rfl rfl (zx (z:=(((h+1):Nat):Int)) rfl rfl (w64 (by omega)))<|zza rfl rfl (zIa (r:=rV) (k:=(h+1)) (x0:=(none,0,0)) (γ0:=()) Tryz.underlying73 inf22 rfl rfl rfl rfl (by omega) (by omega) rfl (fun _ _=>by trivial) (by decide)) (fun b2 _=> ?_)
  refine r_pv rfl rfl (zd rfl)<|zj<|ze<|zi<|zi ?_
  obtain ⟨Z0,hZ0⟩:∃z:List Tr,z=List.replicate (h+1) (none,0,0):=⟨_,rfl⟩
  rw [← hZ0]
  have hZl0:Z0.length=h+1:=by rw [hZ0];simp
  refine zCb (rsF (rI .i64) Z0 []) (fun g _=>rsF_nil _ g)<|zc<|r_pv rfl rfl (za rfl)<|r_pv rfl rfl (zM Tryz.underlying73 rfl)<|r_pv rfl rfl (za rfl)<|zj<|ze<|zA<|zka (X:=Nat×(List Tr)) (fun x:Nat×(List Tr)=>x.1≤h+1∧x.2.length=h+1) (fun x=>[(19,.int .i64 ((x.1:Nat):Int)),(18,.int .i64 (((h+1):Nat):Int)),(5,.slice (some ⟨b2,0,none⟩) (h+1) (h+1)),(3,.int .i64 0),(2,.slice none 0 0),(1,.pointer (some ⟨b1,0,none⟩))]) (fun x=>[rowA 22 rV (some ⟨b2,0,none⟩) (h+1) (x.2),boxA b1 24 [.int .i64 ((w:Nat):Int),.int .i64 ((h:Nat):Int),.int .i64 m,.slice p n cap]]) (fun x=>[rsF (rI .i64) (x.2) (Cr.tab (Cr.px l) w x.1),rsF (rI .i64) Z0 ([]),slF (rI .i64) p cap l]) (fun x:Nat×(List Tr)=>h+1 - x.1) (0,Z0) (show 0≤h+1∧Z0.length=h+1 from by exact ⟨Nat.zero_le _,hZl0⟩) ((.e rfl (by first|rfl|(congr 1;omega)|simp_all) (.of rfl)):SubM _ _) (ho:=((.of [0,0] rfl):PickO _ _ _)) ((.e (j:=0) rfl (by first|rfl|simp_all) (.of [0,1] rfl)):SelR _ _ _) ?_
  rintro ⟨yy,Z⟩ hI
  replace hI:yy≤h+1∧Z.length=h+1:=hI
  try dsimp only
  obtain ⟨hi,hZl⟩:=hI
  refine zi<|zc<|r_pv rfl rfl (zda rfl rfl)<|zj<|ze<|zi<|zG rfl (fun h3=> ?_) (fun h3=> ?_)
  ·
   refine zB<|ze<|zi<|zA<|zi<|zc<|r_pv rfl rfl (za rfl)<|r_pv rfl rfl (zd rfl)<|zj<|ze<|zi<|zc<|r_pv rfl rfl (za rfl)<|r_pv rfl rfl (za rfl)<|r_pv rfl rfl (zg Tryz.underlying24 rfl sz3 rfl rfl)<|r_u rfl rfl (zh 1 ty3 rfl rfl rfl)<|r_pv rfl rfl (zx (z:=(((w+1):Nat):Int)) rfl rfl (w64 (by omega)))<|zza rfl rfl (zIa (r:=rI .i64) (k:=(w+1)) (x0:=0) (γ0:=()) Tryz.underlying22 inf3 rfl rfl rfl rfl (by omega) (by omega) rfl (fun _ _=>by exact zR.2 (by decide)) (by decide)) (fun b4 _=> ?_)
   refine r_pv rfl rfl (zX (j:=yy) Tryz.underlying73 sz22 rfl rfl rfl (by omega))<|zDa 1 rfl rfl rfl (zW (j:=yy) (x0:=(some ⟨b4,0,none⟩,(w+1),(w+1))) (γ0:=()) rfl rfl (by first|omega|(rw [List.length_map];omega)|(simp only [List.length_set];omega)|(simp;done)|(simp;omega)) rfl rfl sz22 (fun _ _=>by trivial)) (fun _=>(.s .z)) (fun _ _=> ?_)
   refine zj<|ze<|zi<|zCb (rsF (rI .i64) (Z.set yy (some ⟨b4,0,none⟩,(w+1),(w+1))) (Cr.tab (Cr.px l) w yy)) (rsF_set 0 rfl (by exact Nat.le_of_eq (Cr.tab_len _ _ _)) _) ?_
   obtain ⟨Zy,hZy⟩:∃z:List Tr,z=(Z.set yy (some ⟨b4,0,none⟩,(w+1),(w+1))):=⟨_,rfl⟩
   rw [← hZy]
   have hZy2:Zy.length=h+1:=by rw [hZy,List.length_set];exact hZl
   have hZc:Zy[yy]? =some (some ⟨b4,0,none⟩,w+1,w+1):=by rw [hZy,List.getElem?_set_self (by omega)]
   refine zc<|r_pv rfl rfl (zd rfl)<|zj<|ze<|zA<|zka (X:=Nat×(List Int)) (fun x:Nat×(List Int)=>1≤x.1∧x.1≤w+1∧Cr.RowI (Cr.px l) w yy (x.1 - 1) x.2∧(yy=0→x.2=List.replicate (w+1) 0)) (fun x=>[(7,.int .i64 ((x.1:Nat):Int)),(6,.int .i64 ((yy:Nat):Int)),(19,.int .i64 ((yy:Nat):Int)),(18,.int .i64 (((h+1):Nat):Int)),(5,.slice (some ⟨b2,0,none⟩) (h+1) (h+1)),(3,.int .i64 0),(2,.slice none 0 0),(1,.pointer (some ⟨b1,0,none⟩))]) (fun x=>[rowA 3 (rI .i64) (some ⟨b4,0,none⟩) (w+1) (x.2),rowA 22 rV (some ⟨b2,0,none⟩) (h+1) Zy,boxA b1 24 [.int .i64 ((w:Nat):Int),.int .i64 ((h:Nat):Int),.int .i64 m,.slice p n cap]]) (fun x=>[rsF (rI .i64) Zy (Cr.tab (Cr.px l) w yy),rsF (rI .i64) Z (Cr.tab (Cr.px l) w yy),rsF (rI .i64) Z0 ([]),slF (rI .i64) p cap l]) (fun x:Nat×(List Int)=>w+1 - x.1) (1,List.replicate (w+1) 0) (show 1≤1∧1≤w+1∧Cr.RowI (Cr.px l) w yy (1 - 1) (List.replicate (w+1) 0)∧(yy=0→(List.replicate (w+1) 0)=List.replicate (w+1) 0) from by exact ⟨Nat.le_refl _,by omega,Cr.RowI.start _ _ _,fun _=>rfl⟩) ((.e rfl (by first|rfl|(congr 1;omega)|simp_all) (.of rfl)):SubM _ _) (ho:=((.of [0,0,0] rfl):PickO _ _ _)) ((.of [0,1,2,3] rfl):SelR _ _ _) ?_
   rintro ⟨xx,A⟩ hJ
   replace hJ:1≤xx∧xx≤w+1∧Cr.RowI (Cr.px l) w yy (xx - 1) A∧(yy=0→A=List.replicate (w+1) 0):=hJ
   try dsimp only
   obtain ⟨hx1,hx2,hR,hR0⟩:=hJ
   have hAl:=hR.len
   refine zi<|zGa (X:=Unit) (fun x=>True) (fun x=>[(36,.bool (decide (xx≤w∧0<yy))),(7,.int .i64 ((xx:Nat):Int)),(6,.int .i64 ((yy:Nat):Int)),(19,.int .i64 ((yy:Nat):Int)),(18,.int .i64 (((h+1):Nat):Int)),(5,.slice (some ⟨b2,0,none⟩) (h+1) (h+1)),(3,.int .i64 0),(2,.slice none 0 0),(1,.pointer (some ⟨b1,0,none⟩))]) (fun x=>[rowA 3 (rI .i64) (some ⟨b4,0,none⟩) (w+1) A,rowA 22 rV (some ⟨b2,0,none⟩) (h+1) Zy,boxA b1 24 [.int .i64 ((w:Nat):Int),.int .i64 ((h:Nat):Int),.int .i64 m,.slice p n cap]]) (fun x=>[rsF (rI .i64) Zy (Cr.tab (Cr.px l) w yy),rsF (rI .i64) Z (Cr.tab (Cr.px l) w yy),rsF (rI .i64) Z0 ([]),slF (rI .i64) p cap l]) ?_ ?_
   ·
    refine zc<|r_pv rfl rfl (za rfl)<|r_pv rfl rfl (zg Tryz.underlying24 rfl sz3 rfl rfl)<|r_u rfl rfl (zh 2 ty3 rfl rfl rfl)<|r_pv rfl rfl (zdb rfl rfl)<|zP rfl rfl (za rfl) (fun hk1=> ?_) (fun hk1=> ?_)
    ·
     refine r_pv rfl rfl (za rfl)<|r_pv rfl rfl (zoa rfl rfl)<|r_pv rfl rfl (zm rfl rfl)<|zj ?_
     exact zca () (show True from by first|trivial|omega|simp_all) ((.e rfl (congrArg Value.bool (by exact decide_eq_decide.2 (by constructor <;> intro k <;> omega))) (.of rfl)):SubM _ _) (ho:=((.of [0,0,0] rfl):PickO _ _ _)) ((.of [0,1,2,3] rfl):SelR _ _ _)
    ·
     refine zb rfl rfl<|zb rfl rfl<|r_pv rfl rfl (zm rfl rfl)<|zj ?_
     exact zca () (show True from by first|trivial|omega|simp_all) ((.e rfl (congrArg Value.bool (by exact Eq.symm (decide_eq_false (by omega)))) (.of rfl)):SubM _ _) (ho:=((.of [0,0,0] rfl):PickO _ _ _)) ((.of [0,1,2,3] rfl):SelR _ _ _)
   ·
    rintro ⟨⟩ -
    try dsimp only
    refine zG rfl (fun hk=> ?_) (fun hk=> ?_)
    ·
     have hyp:0<yy:=hk.2
     have ht1:=Cr.px_T2 hg hw.2 hh.2 hwh (show yy - 1≤h by omega) (show xx≤w by omega)
     have ht2:=Cr.px_T2 hg hw.2 hh.2 hwh (show yy - 1≤h by omega) (show xx - 1≤w by omega)
     have ht3:=Cr.px_T2 hg hw.2 hh.2 hwh (show yy≤h by omega) (show xx - 1≤w by omega)
     have htg1:=Cr.tabRow_get (v:=(Cr.px l)) (w:=w) (y:=yy - 1) (show xx≤w by omega)
     have htg2:=Cr.tabRow_get (v:=(Cr.px l)) (w:=w) (y:=yy - 1) (show xx - 1≤w by omega)
     have hag:=hR.get (xx - 1) (Nat.le_refl _)
     have hrl:=Cr.tabRow_len (Cr.px l) w (yy - 1)
     have hlt:(yy - 1)*w+(xx - 1)<n:=by rw [hwh];exact Cr.at_lt (by omega) (by omega)
     have hpx:0≤Cr.px l ((yy - 1)*w+(xx - 1))∧Cr.px l ((yy - 1)*w+(xx - 1))≤65535:=hg _ hlt
     have hst:=Cr.T2_step (Cr.px l) w (yy - 1) (xx - 1)
     rw [show yy - 1+1=yy by omega,show xx - 1+1=xx by omega] at hst
     refine zBf (rsF_get (j:=(yy - 1)) (x:=Cr.tabRow (Cr.px l) w (yy - 1)) 0 rfl (by exact Cr.tab_at (by omega))) (fun pq hpq=> ?_)
     have hpq2:Zy[yy - 1]? =some (pq.1,(Cr.tabRow (Cr.px l) w (yy - 1)).length,pq.2):=hpq
     refine zB<|ze<|zi<|zA<|zea (OW:=[rowA 3 (rI .i64) (some ⟨b4,0,none⟩) (w+1) A]) (O:=[rowA 22 rV (some ⟨b2,0,none⟩) (h+1) Zy,boxA b1 24 [.int .i64 ((w:Nat):Int),.int .i64 ((h:Nat):Int),.int .i64 m,.slice p n cap]]) 40 mixed (.block (.then (.then (.block (.block (.then (.then (.block (.then .ret))))))))) (by kernel_rfl)<|d_pv 0 rfl rfl (by kernel_rfl) (by kernel_rfl) rfl rfl (za rfl)<|d_pv 1 rfl rfl (by kernel_rfl) (by kernel_rfl) rfl rfl (za rfl)<|d_pv 2 rfl rfl (by kernel_rfl) (by kernel_rfl) rfl rfl (zX (j:=yy) Tryz.underlying73 sz22 rfl rfl rfl (by omega))<|zad 3 rfl rfl (by kernel_rfl) (by kernel_rfl) (by kernel_rfl) rfl rfl (zfa (x0:=(some ⟨b4,0,none⟩,(w+1),(w+1))) (v:= .slice (some ⟨b4,0,none⟩) (w+1) (w+1)) 1 yy rfl ty22 rfl rfl (by exact hZc) rfl) (fun _ hok5=> ?_)
     refine d_pv 4 rfl rfl (by kernel_rfl) (by kernel_rfl) rfl rfl (za rfl)<|d_pv 5 rfl rfl (by kernel_rfl) (by kernel_rfl) rfl rfl (za rfl)<|d_pv 6 rfl rfl (by kernel_rfl) (by kernel_rfl) rfl rfl (za rfl)<|d_pv 7 rfl rfl (by kernel_rfl) (by kernel_rfl) rfl rfl (zaa (z:=(((yy - 1):Nat):Int)) rfl rfl (w64 (by omega)))<|d_pv 8 rfl rfl (by kernel_rfl) (by kernel_rfl) rfl rfl (zX (j:=(yy - 1)) Tryz.underlying73 sz22 rfl rfl rfl (by omega))<|zad 9 rfl rfl (by kernel_rfl) (by kernel_rfl) (by kernel_rfl) rfl rfl (zfa (x0:=(pq.1,(Cr.tabRow (Cr.px l) w (yy - 1)).length,pq.2)) (v:= .slice (pq.1) ((Cr.tabRow (Cr.px l) w (yy - 1)).length) (pq.2)) 1 (yy - 1) rfl ty22 rfl rfl (by exact hpq2) rfl) (fun _ hok6=> ?_)
     refine d_pv 10 rfl rfl (by kernel_rfl) (by kernel_rfl) rfl rfl (za rfl)<|zga (x0:=((Cr.tabRow (Cr.px l) w (yy - 1)).getD xx 0)) 11 rfl rfl (by kernel_rfl) (by kernel_rfl) 0 xx rfl Tryz.underlying22 sz3 rfl rfl rfl (by first|rfl|assumption|(simp only [List.length_set];assumption)|(simp only [List.length_set,List.length_replicate];done)|(simp only [Cr.tabRow_len];done)|omega) rfl rfl (gD (d:=0) (by omega)) (fun b7 o8 hok9=> ?_)
     replace hok9:=zR.1 hok9
     refine d_u 12 rfl rfl (by kernel_rfl) (by kernel_rfl) rfl rfl (zk (j:=0) 0 ty3 rfl rfl rfl rfl)<|d_pv 13 rfl rfl (by kernel_rfl) (by kernel_rfl) rfl rfl (za rfl)<|d_pv 14 rfl rfl (by kernel_rfl) (by kernel_rfl) rfl rfl (za rfl)<|d_pv 15 rfl rfl (by kernel_rfl) (by kernel_rfl) rfl rfl (zX (j:=yy) Tryz.underlying73 sz22 rfl rfl rfl (by omega))<|zad 16 rfl rfl (by kernel_rfl) (by kernel_rfl) (by kernel_rfl) rfl rfl (zfa (x0:=(some ⟨b4,0,none⟩,(w+1),(w+1))) (v:= .slice (some ⟨b4,0,none⟩) (w+1) (w+1)) 1 yy rfl ty22 rfl rfl (by exact hZc) rfl) (fun _ hok10=> ?_)
     refine d_pv 17 rfl rfl (by kernel_rfl) (by kernel_rfl) rfl rfl (za rfl)<|d_pv 18 rfl rfl (by kernel_rfl) (by kernel_rfl) rfl rfl (zaa (z:=(((xx - 1):Nat):Int)) rfl rfl (w64 (by omega)))<|d_pv 19 rfl rfl (by kernel_rfl) (by kernel_rfl) rfl rfl (zX (j:=(xx - 1)) Tryz.underlying22 sz3 rfl rfl rfl (by omega))<|zad 20 rfl rfl (by kernel_rfl) (by kernel_rfl) (by kernel_rfl) rfl rfl (zfa 0 (xx - 1) rfl ty3 rfl rfl (gD (d:=0) (by omega)) rfl) (fun _ hok11=> ?_)
     replace hok11:=zR.1 hok11
     refine d_pv 21 rfl rfl (by kernel_rfl) (by kernel_rfl) rfl rfl (zx (z:=(((Cr.tabRow (Cr.px l) w (yy - 1)).getD xx 0)+(A.getD (xx - 1) 0))) rfl rfl (w64 (by omega)))<|d_pv 22 rfl rfl (by kernel_rfl) (by kernel_rfl) rfl rfl (za rfl)<|d_pv 23 rfl rfl (by kernel_rfl) (by kernel_rfl) rfl rfl (za rfl)<|d_pv 24 rfl rfl (by kernel_rfl) (by kernel_rfl) rfl rfl (zaa (z:=(((yy - 1):Nat):Int)) rfl rfl (w64 (by omega)))<|d_pv 25 rfl rfl (by kernel_rfl) (by kernel_rfl) rfl rfl (zX (j:=(yy - 1)) Tryz.underlying73 sz22 rfl rfl rfl (by omega))<|zad 26 rfl rfl (by kernel_rfl) (by kernel_rfl) (by kernel_rfl) rfl rfl (zfa (x0:=(pq.1,(Cr.tabRow (Cr.px l) w (yy - 1)).length,pq.2)) (v:= .slice (pq.1) ((Cr.tabRow (Cr.px l) w (yy - 1)).length) (pq.2)) 1 (yy - 1) rfl ty22 rfl rfl (by exact hpq2) rfl) (fun _ hok12=> ?_)
     refine d_pv 27 rfl rfl (by kernel_rfl) (by kernel_rfl) rfl rfl (za rfl)<|d_pv 28 rfl rfl (by kernel_rfl) (by kernel_rfl) rfl rfl (zaa (z:=(((xx - 1):Nat):Int)) rfl rfl (w64 (by omega)))<|zga (x0:=((Cr.tabRow (Cr.px l) w (yy - 1)).getD (xx - 1) 0)) 29 rfl rfl (by kernel_rfl) (by kernel_rfl) 1 (xx - 1) rfl Tryz.underlying22 sz3 rfl rfl rfl (by first|rfl|assumption|(simp only [List.length_set];assumption)|(simp only [List.length_set,List.length_replicate];done)|(simp only [Cr.tabRow_len];done)|omega) rfl rfl (gD (d:=0) (by omega)) (fun b13 o14 hok15=> ?_)
     replace hok15:=zR.1 hok15
     refine d_u 30 rfl rfl (by kernel_rfl) (by kernel_rfl) rfl rfl (zk (j:=0) 0 ty3 rfl rfl rfl rfl)<|d_pv 31 rfl rfl (by kernel_rfl) (by kernel_rfl) rfl rfl (zaa (z:=((((Cr.tabRow (Cr.px l) w (yy - 1)).getD xx 0)+(A.getD (xx - 1) 0)) - ((Cr.tabRow (Cr.px l) w (yy - 1)).getD (xx - 1) 0))) rfl rfl (w64 (by omega)))<|d_uw 32 rfl rfl (by kernel_rfl) (by kernel_rfl) (by kernel_rfl) rfl rfl (zf 2 ty24 rfl rfl (.take (.take (.take (.take .nil)))))<|d_pv 33 rfl rfl (by kernel_rfl) (by kernel_rfl) rfl rfl (za rfl)<|d_pv 34 rfl rfl (by kernel_rfl) (by kernel_rfl) rfl rfl (zaa (z:=(((xx - 1):Nat):Int)) rfl rfl (w64 (by omega)))<|d_pv 35 rfl rfl (by kernel_rfl) (by kernel_rfl) rfl rfl (za rfl)<|d_pv 36 rfl rfl (by kernel_rfl) (by kernel_rfl) rfl rfl (zaa (z:=(((yy - 1):Nat):Int)) rfl rfl (w64 (by omega)))<|zL 37 (by kernel_rfl) (zib rfl rfl rfl rfl (.c rfl (.c rfl (.c rfl .n))) ce88 (zLe (w:=w) (h:=h) (m:=m) (p:=p) (n:=n) (cap:=cap) (l:=l) (xx:=(xx - 1)) (yy:=(yy - 1)) (hn:=by assumption) (hw:=by assumption) (hh:=by assumption) (hwh:=by assumption) (hb:=by assumption) (hg:=by assumption) (hx:=by first|rfl|assumption|omega) (hy:=by first|rfl|assumption|omega)) (.c (j:=6) rfl .n) ?_)
     refine d_pv 38 rfl rfl (by kernel_rfl) (by kernel_rfl) rfl rfl (zx (z:=(((((Cr.tabRow (Cr.px l) w (yy - 1)).getD xx 0)+(A.getD (xx - 1) 0)) - ((Cr.tabRow (Cr.px l) w (yy - 1)).getD (xx - 1) 0))+(Cr.px l ((yy - 1)*w+(xx - 1))))) rfl rfl (w64 (by omega)))<|d_pv 39 rfl rfl (by kernel_rfl) (by kernel_rfl) rfl rfl (zX (j:=xx) Tryz.underlying22 sz3 rfl rfl rfl (by omega))<|zL 40 (by kernel_rfl) (zBd (A':=fun _=>rowA 3 (rI .i64) (some ⟨b4,0,none⟩) (w+1) (A.set xx (((((Cr.tabRow (Cr.px l) w (yy - 1)).getD xx 0)+(A.getD (xx - 1) 0)) - ((Cr.tabRow (Cr.px l) w (yy - 1)).getD (xx - 1) 0))+(Cr.px l ((yy - 1)*w+(xx - 1)))))) (by kernel_rfl) rfl rfl rfl (zW (j:=xx) (x0:=(((((Cr.tabRow (Cr.px l) w (yy - 1)).getD xx 0)+(A.getD (xx - 1) 0)) - ((Cr.tabRow (Cr.px l) w (yy - 1)).getD (xx - 1) 0))+(Cr.px l ((yy - 1)*w+(xx - 1))))) (γ0:=()) rfl rfl (by first|omega|(rw [List.length_map];omega)|(simp only [List.length_set];omega)|(simp;done)|(simp;omega)) rfl rfl sz3 (fun _ _=>by exact zR.2 (by omega))) (fun _ _=> ?_))
     refine zba (by kernel_rfl)<|zT<|ze<|zc<|r_pv rfl rfl (za rfl)<|r_pv rfl rfl (zx (z:=(((xx+1):Nat):Int)) rfl rfl (w64 (by omega)))<|r_pv rfl rfl (zd rfl)<|zj<|zha ((xx+1),(A.set xx (((((Cr.tabRow (Cr.px l) w (yy - 1)).getD xx 0)+(A.getD (xx - 1) 0)) - ((Cr.tabRow (Cr.px l) w (yy - 1)).getD (xx - 1) 0))+(Cr.px l ((yy - 1)*w+(xx - 1)))))) (show 1≤(xx+1)∧(xx+1)≤w+1∧Cr.RowI (Cr.px l) w yy ((xx+1) - 1) (A.set xx (((((Cr.tabRow (Cr.px l) w (yy - 1)).getD xx 0)+(A.getD (xx - 1) 0)) - ((Cr.tabRow (Cr.px l) w (yy - 1)).getD (xx - 1) 0))+(Cr.px l ((yy - 1)*w+(xx - 1)))))∧(yy=0→(A.set xx (((((Cr.tabRow (Cr.px l) w (yy - 1)).getD xx 0)+(A.getD (xx - 1) 0)) - ((Cr.tabRow (Cr.px l) w (yy - 1)).getD (xx - 1) 0))+(Cr.px l ((yy - 1)*w+(xx - 1)))))=List.replicate (w+1) 0) from by exact ⟨by omega,by omega,(by have h9:=hR.put (x:=xx - 1) (z:=(Cr.tabRow (Cr.px l) w (yy - 1)).getD xx 0+A.getD (xx - 1) 0 - (Cr.tabRow (Cr.px l) w (yy - 1)).getD (xx - 1) 0+Cr.px l ((yy - 1)*w+(xx - 1))) (by omega) (by rw [show xx - 1+1=xx by omega,htg1,htg2,hag];omega);rw [show xx - 1+1=xx by omega] at h9;exact h9),fun h9=>by omega⟩) (by show w+1 - (xx+1)<w+1 - xx;omega) ((.of rfl):SubM _ _) (ho:=((.of [0,0,0] rfl):PickO _ _ _)) ((.of [3,4,5,6] rfl):SelR _ _ _)
    ·
     refine zja<|zl<|zl<|zu<|zT<|ze<|zc<|r_pv rfl rfl (zx (z:=(((yy+1):Nat):Int)) rfl rfl (w64 (by omega)))<|r_pv rfl rfl (za rfl)<|zj ?_
     have hA9:A=Cr.tabRow (Cr.px l) w yy:=Cr.row_end hR hR0 hk
     refine zta 0 rfl .z ?_
     have e16:A=Cr.tabRow (Cr.px l) w yy:=by exact hA9
     rw [e16]
     refine zab (rsF (rI .i64) Zy ((Cr.tab (Cr.px l) w yy)++[Cr.tabRow (Cr.px l) w yy])) (rsF_snoc 1 0 rfl rfl (by rw [Cr.tab_len,Cr.tabRow_len];exact hZc)) ?_
     have e17:(Cr.tab (Cr.px l) w yy)++[Cr.tabRow (Cr.px l) w yy]=Cr.tab (Cr.px l) w (yy+1):=by exact (Cr.tab_succ _ _ _).symm
     rw [e17]
     refine zha ((yy+1),Zy) (show (yy+1)≤h+1∧Zy.length=h+1 from by exact ⟨by omega,hZy2⟩) (by show h+1 - (yy+1)<h+1 - yy;omega) ((.of rfl):SubM _ _) (ho:=((.of [1,1] rfl):PickO _ _ _)) ((.of [0,4,5] rfl):SelR _ _ _)
  ·
   refine zja<|zl<|zl<|zu<|ze<|zi<|zc<|r_pv rfl rfl (za rfl)<|r_pv rfl rfl (zd rfl)<|r_pv rfl rfl (zd rfl)<|zj<|ze<|zI ?_
   have hy9:yy=h+1:=by omega
   refine zIf (fun w mm=>mm.rsFreeze 0 0 rfl rfl (by rw [Cr.tab_len];omega)) ?_
   dsimp only [List.set]
   exact zBa Tryz.results63 (some ⟨b2,0,none⟩,(h+1)) trivial (zo rfl) (zo rfl) rfl (ho:=(.n:PickO _ _ _)) ((.e (j:=0) rfl (by rw [hy9]) .n):SelR _ _ _)
end Go.Proofs.YtkamccndgblheaaGreat.Sp
namespace Go.Proofs.YtkamccndgblheaaGreat.Sp
open Go
set_option linter.unusedVariables false
set_option maxRecDepth 100000
set_option maxHeartbeats 1000000
theorem zPa {w1:Nat} {vh1:Nat} {m1:Int} {p1:Option Addr} {n1:Nat} {c1:Nat} {l1:List Int} {w2:Nat} {vh2:Nat} {m2:Int} {p2:Option Addr} {n2:Nat} {c2:Nat} {l2:List Int} (hn1:l1.length=n1) (hw1:1≤w1∧w1≤64) (hh1:1≤vh1∧vh1≤64) (hwh1:n1=w1*vh1) (hb1:n1≤4096) (hg1:∀i,i<n1→0≤l1.getD i 0∧l1.getD i 0≤65535) (hn2:l2.length=n2) (hw2:1≤w2∧w2≤64) (hh2:1≤vh2∧vh2≤64) (hwh2:n2=w2*vh2) (hb2:n2≤4096) (hg2:∀i,i<n2→0≤l2.getD i 0∧l2.getD i 0≤65535) (hok:Bl.rok w2 vh2 m2 l2):Con Tryz.prog 35 [.agg #[.int .i64 ((w1:Nat):Int),.int .i64 ((vh1:Nat):Int),.int .i64 m1,.slice p1 n1 c1],.agg #[.int .i64 ((w2:Nat):Int),.int .i64 ((vh2:Nat):Int),.int .i64 m2,.slice p2 n2 c2]] [] [slF (rI .i64) p1 c1 l1,slF (rI .i64) p2 c2 l2] (Y:=Nat×(Option Addr)×Nat×(Option Addr)×Nat) (fun y=>True) (fun y=> .pointer (some ⟨y.1,0,none⟩)) (fun y=>[]) (fun y=>[atF y.1 0 [.int .i64 ((w1:Nat):Int),.int .i64 ((vh1:Nat):Int),.int .i64 m1,.slice p1 n1 c1,.int .i64 ((w2:Nat):Int),.int .i64 ((vh2:Nat):Int),.int .i64 m2,.slice p2 n2 c2,.slice (y.2.1) (vh2+1) (y.2.2.1),.slice (y.2.2.2.1) (vh2+1) (y.2.2.2.2),.int .i64 (Cr.sumN (Cr.px l1) n1),.int .i64 ((((n1:Nat):Int)*(Cr.sumN (Cr.sq l1) n1)) - ((Cr.sumN (Cr.px l1) n1)*(Cr.sumN (Cr.px l1) n1)))],slF (rS (rI .i64)) (y.2.1) (y.2.2.1) (Cr.tab (Cr.px l2) w2 (vh2+1)),slF (rS (rI .i64)) (y.2.2.2.1) (y.2.2.2.2) (Cr.tab (Cr.sq l2) w2 (vh2+1))]):=by
 refine zq Tryz.func35 rfl rfl rfl (fun c=> ?_)
 show RunC _ _ _ _ _ [(0,.agg #[.int .i64 ((w1:Nat):Int),.int .i64 ((vh1:Nat):Int),.int .i64 m1,.slice p1 n1 c1]),(1,.agg #[.int .i64 ((w2:Nat):Int),.int .i64 ((vh2:Nat):Int),.int .i64 m2,.slice p2 n2 c2])] [] [slF (rI .i64) p1 c1 l1,slF (rI .i64) p2 c2 l2]
 refine zY 0 rfl (fun hL0=> ?_)
 refine zY 1 rfl (fun hL1=> ?_)
 refine zi<|zc<|zJ rfl rfl (zQ rfl rfl) (fun b1=> ?_)
 refine zJ rfl rfl (zQ rfl rfl) (fun b2=> ?_)
 refine r_pv rfl rfl (zd rfl)<|zj<|ze<|zi<|zea (OW:=[]) (O:=[boxA b2 24 [.int .i64 ((w2:Nat):Int),.int .i64 ((vh2:Nat):Int),.int .i64 m2,.slice p2 n2 c2],boxA b1 24 [.int .i64 ((w1:Nat):Int),.int .i64 ((vh1:Nat):Int),.int .i64 m1,.slice p1 n1 c1]]) 100000 mixed (.then .ret) (by kernel_rfl)<|d_u 0 rfl rfl (by kernel_rfl) (by kernel_rfl) rfl rfl (zf 1 ty24 rfl rfl (.take (.take (.take (.take .nil)))))<|d_u 1 rfl rfl (by kernel_rfl) (by kernel_rfl) rfl rfl (zf 0 ty24 rfl rfl (.take (.take (.take (.take .nil)))))<|d_u 2 rfl rfl (by kernel_rfl) (by kernel_rfl) rfl rfl (zf 0 ty24 rfl rfl (.take (.take (.take (.take .nil)))))<|zL 3 (by kernel_rfl) (zH rfl rfl rfl rfl (.c rfl .n) ce62 (zpc (w:=w2) (h:=vh2) (m:=m2) (p:=p2) (n:=n2) (cap:=c2) (l:=l2) (hn:=by assumption) (hw:=by assumption) (hh:=by assumption) (hwh:=by assumption) (hb:=by assumption) (hg:=by assumption)) (.c (j:=1) rfl .n) ?_)
 rintro ⟨p33,c34⟩ -
 dsimp only [List.append_eq,List.nil_append,List.cons_append]
 refine d_pv 4 rfl rfl (by kernel_rfl) (by kernel_rfl) rfl rfl (zK zr103 rfl Tryz.underlying103 (.c sz24 (.c sz24 (.c sz73 (.c sz73 (.c sz3 (.c sz3 .n)))))) (.c rfl (.c rfl (.c rfl .n))) (.c rfl rfl rfl (.take (.take (.take (.take .nil)))) (.c rfl rfl rfl (.skip (.skip (.skip (.skip (.take (.take (.take (.take .nil)))))))) (.c rfl rfl rfl (.skip (.skip (.skip (.skip (.skip (.skip (.skip (.skip (.skip (.take .nil)))))))))) .n))))<|zL 5 (by kernel_rfl) (zbd rfl rfl rfl rfl (zQ rfl rfl) (fun b5 _=> ?_))
 refine d_pv 6 rfl rfl (by kernel_rfl) (by kernel_rfl) rfl rfl (zd rfl)<|zba (by kernel_rfl)<|ze<|zi<|zc<|r_pv rfl rfl (za rfl)<|r_u rfl rfl (zf 1 ty24 rfl rfl (.take (.take (.take (.take .nil)))))<|zy rfl rfl (.c rfl .n) ce63 (zkd (w:=w2) (h:=vh2) (m:=m2) (p:=p2) (n:=n2) (cap:=c2) (l:=l2) (hn:=by assumption) (hw:=by assumption) (hh:=by assumption) (hwh:=by assumption) (hb:=by assumption) (hg:=by assumption) (hok:=by assumption)) (.c (j:=2) rfl .n) ?_
 rintro ⟨p36,c37⟩ -
 dsimp only [List.append_eq,List.nil_append,List.cons_append]
 refine r_pv rfl rfl (za rfl)<|r_pv rfl rfl (zr rfl rfl)<|r_pv rfl rfl (zr rfl rfl)<|r_pv rfl rfl (zia rfl)<|r_pv rfl rfl (zg Tryz.underlying103 rfl sz73 rfl rfl)<|zn 0 rfl rfl rfl rfl rfl sz73 rfl (.skip (.skip (.skip (.skip (.skip (.skip (.skip (.skip (.take .nil))))))))) .z<|zj<|ze<|zi<|zc<|r_pv rfl rfl (zd rfl)<|zj<|ze<|zi<|zi<|zc<|r_pv rfl rfl (zg Tryz.underlying24 rfl sz22 rfl rfl)<|r_u rfl rfl (zh 2 ty22 rfl rfl rfl)<|r_pv rfl rfl (zM Tryz.underlying22 rfl)<|r_pv rfl rfl (za rfl)<|zj<|ze<|zA<|zka (X:=Nat) (fun x:Nat=>x≤n1) (fun x=>[(6,.int .i64 (Cr.sumN (Cr.sq l1) x)),(26,.int .i64 ((x:Nat):Int)),(25,.int .i64 ((n1:Nat):Int)),(24,.slice p1 n1 c1),(5,.pointer (some ⟨b5,0,none⟩)),(4,.pointer none),(2,.pointer (some ⟨b1,0,none⟩))]) (fun x=>[boxA b5 103 [.int .i64 ((w1:Nat):Int),.int .i64 ((vh1:Nat):Int),.int .i64 m1,.slice p1 n1 c1,.int .i64 ((w2:Nat):Int),.int .i64 ((vh2:Nat):Int),.int .i64 m2,.slice p2 n2 c2,.slice p36 (vh2+1) c37,.slice p33 (vh2+1) c34,.int .i64 (Cr.sumN (Cr.px l1) x),.int .i64 0],boxA b2 24 [.int .i64 ((w2:Nat):Int),.int .i64 ((vh2:Nat):Int),.int .i64 m2,.slice p2 n2 c2],boxA b1 24 [.int .i64 ((w1:Nat):Int),.int .i64 ((vh1:Nat):Int),.int .i64 m1,.slice p1 n1 c1]]) (fun x=>[slF (rS (rI .i64)) p36 c37 (Cr.tab (Cr.px l2) w2 (vh2+1)),slF (rS (rI .i64)) p33 c34 (Cr.tab (Cr.sq l2) w2 (vh2+1)),slF (rI .i64) p1 c1 l1,slF (rI .i64) p2 c2 l2]) (fun x:Nat=>n1 - x) 0 (show 0≤n1 from by exact Nat.zero_le _) ((.e rfl (by rfl) (.e rfl (by first|rfl|(congr 1;omega)|simp_all) (.of rfl))):SubM _ _) (ho:=((.e (i:=0) rfl (by rfl) (.of [0,0] rfl)):PickO _ _ _)) ((.of [0,1,2,3] rfl):SelR _ _ _) ?_
 rintro i hI
 replace hI:i≤n1:=hI
 try dsimp only
 refine zi<|zc<|r_pv rfl rfl (zda rfl rfl)<|zj<|ze<|zi<|zG rfl (fun h8=> ?_) (fun h8=> ?_)
 ·
  have hs1:=Cr.px_sum (l:=l1) hg1 hb1 (show i≤n1 by omega)
  have hs2:=Cr.sq_sum (l:=l1) hg1 hb1 (show i≤n1 by omega)
  have hpx:=hg1 i (by omega)
  have hps:=Cr.sq_b hpx
  refine zB<|ze<|zi<|zA<|zi<|zc<|zU (x0:=(l1.getD i 0)) 2 i rfl Tryz.underlying22 sz3 rfl rfl rfl (by first|rfl|assumption|omega) rfl rfl (gD (d:=0) (by omega)) (fun b9 o10 hok11=> ?_)
  replace hok11:=zR.1 hok11
  refine r_u rfl rfl (zk (j:=0) 0 ty3 rfl rfl rfl rfl)<|r_pv rfl rfl (zd rfl)<|zj<|ze<|zi<|zc<|r_pv rfl rfl (za rfl)<|r_pv rfl rfl (zia rfl)<|r_pv rfl rfl (zg Tryz.underlying103 rfl sz3 rfl rfl)<|r_u rfl rfl (zh 0 ty3 rfl rfl rfl)<|r_pv rfl rfl (za rfl)<|r_pv rfl rfl (zx (z:=((Cr.sumN (Cr.px l1) i)+(l1.getD i 0))) rfl rfl (w64 (by omega)))<|r_pv rfl rfl (zia rfl)<|r_pv rfl rfl (zg Tryz.underlying103 rfl sz3 rfl rfl)<|zn 0 rfl rfl rfl rfl rfl sz3 rfl (.skip (.skip (.skip (.skip (.skip (.skip (.skip (.skip (.skip (.skip (.take .nil))))))))))) .z<|zj<|ze<|zc<|r_pv rfl rfl (za rfl)<|r_pv rfl rfl (za rfl)<|r_pv rfl rfl (za rfl)<|r_pv rfl rfl (zpa (z:=((l1.getD i 0)*(l1.getD i 0))) rfl rfl (w64 (by omega)))<|r_pv rfl rfl (zx (z:=((Cr.sumN (Cr.sq l1) i)+((l1.getD i 0)*(l1.getD i 0)))) rfl rfl (w64 (by omega)))<|r_pv rfl rfl (zd rfl)<|zj<|zT<|ze<|zc<|r_pv rfl rfl (zx (z:=(((i+1):Nat):Int)) rfl rfl (w64 (by omega)))<|r_pv rfl rfl (za rfl)<|zj<|zha (i+1) (show (i+1)≤n1 from by omega) (by show n1 - (i+1)<n1 - i;omega) ((.e rfl (by rfl) (.of rfl)):SubM _ _) (ho:=((.e (i:=0) rfl (by rfl) (.of [0,0] rfl)):PickO _ _ _)) ((.of [1,2,3,4] rfl):SelR _ _ _)
 ·
  refine zja<|zl<|zl<|zu<|ze<|zi ?_
  have e12:(Cr.sumN (Cr.px l1) i)=(Cr.sumN (Cr.px l1) n1):=by rw [show i=n1 by omega]
  rw [e12]
  have e13:(Cr.sumN (Cr.sq l1) i)=(Cr.sumN (Cr.sq l1) n1):=by rw [show i=n1 by omega]
  rw [e13]
  have hs1:=Cr.px_sum (l:=l1) hg1 hb1 (show n1≤n1 by omega)
  have hs2:=Cr.sq_sum (l:=l1) hg1 hb1 (show n1≤n1 by omega)
  have hq1:=Bl.mul_b (x:=((n1:Nat):Int)) (y:=(Cr.sumN (Cr.sq l1) n1)) (m:=4096) (n:=17591649177600) (by omega) hs2
  have hq2:=Bl.mul_b hs1 hs1
  refine zea (OW:=[boxA b5 103 [.int .i64 ((w1:Nat):Int),.int .i64 ((vh1:Nat):Int),.int .i64 m1,.slice p1 n1 c1,.int .i64 ((w2:Nat):Int),.int .i64 ((vh2:Nat):Int),.int .i64 m2,.slice p2 n2 c2,.slice p36 (vh2+1) c37,.slice p33 (vh2+1) c34,.int .i64 (Cr.sumN (Cr.px l1) n1),.int .i64 0]]) (O:=[boxA b2 24 [.int .i64 ((w2:Nat):Int),.int .i64 ((vh2:Nat):Int),.int .i64 m2,.slice p2 n2 c2],boxA b1 24 [.int .i64 ((w1:Nat):Int),.int .i64 ((vh1:Nat):Int),.int .i64 m1,.slice p1 n1 c1]]) 18 mixed (.then .ret) (by kernel_rfl)<|d_pv 0 rfl rfl (by kernel_rfl) (by kernel_rfl) rfl rfl (za rfl)<|d_pv 1 rfl rfl (by kernel_rfl) (by kernel_rfl) rfl rfl (zg Tryz.underlying24 rfl sz22 rfl rfl)<|d_uw 2 rfl rfl (by kernel_rfl) (by kernel_rfl) (by kernel_rfl) rfl rfl (zh 2 ty22 rfl rfl rfl)<|d_pv 3 rfl rfl (by kernel_rfl) (by kernel_rfl) rfl rfl (zM Tryz.underlying22 rfl)<|d_pv 4 rfl rfl (by kernel_rfl) (by kernel_rfl) rfl rfl (za rfl)<|d_pv 5 rfl rfl (by kernel_rfl) (by kernel_rfl) rfl rfl (zpa (z:=(((n1:Nat):Int)*(Cr.sumN (Cr.sq l1) n1))) rfl rfl (w64 (by omega)))<|d_pv 6 rfl rfl (by kernel_rfl) (by kernel_rfl) rfl rfl (za rfl)<|d_pv 7 rfl rfl (by kernel_rfl) (by kernel_rfl) rfl rfl (zia rfl)<|d_pv 8 rfl rfl (by kernel_rfl) (by kernel_rfl) rfl rfl (zg Tryz.underlying103 rfl sz3 rfl rfl)<|d_uw 9 rfl rfl (by kernel_rfl) (by kernel_rfl) (by kernel_rfl) rfl rfl (zh 0 ty3 rfl rfl rfl)<|d_pv 10 rfl rfl (by kernel_rfl) (by kernel_rfl) rfl rfl (za rfl)<|d_pv 11 rfl rfl (by kernel_rfl) (by kernel_rfl) rfl rfl (zia rfl)<|d_pv 12 rfl rfl (by kernel_rfl) (by kernel_rfl) rfl rfl (zg Tryz.underlying103 rfl sz3 rfl rfl)<|d_uw 13 rfl rfl (by kernel_rfl) (by kernel_rfl) (by kernel_rfl) rfl rfl (zh 0 ty3 rfl rfl rfl)<|d_pv 14 rfl rfl (by kernel_rfl) (by kernel_rfl) rfl rfl (zpa (z:=((Cr.sumN (Cr.px l1) n1)*(Cr.sumN (Cr.px l1) n1))) rfl rfl (w64 (by omega)))<|d_pv 15 rfl rfl (by kernel_rfl) (by kernel_rfl) rfl rfl (zaa (z:=((((n1:Nat):Int)*(Cr.sumN (Cr.sq l1) n1)) - ((Cr.sumN (Cr.px l1) n1)*(Cr.sumN (Cr.px l1) n1)))) rfl rfl (w64 (by omega)))<|d_pv 16 rfl rfl (by kernel_rfl) (by kernel_rfl) rfl rfl (zia rfl)<|d_pv 17 rfl rfl (by kernel_rfl) (by kernel_rfl) rfl rfl (zg Tryz.underlying103 rfl sz3 rfl rfl)<|zL 18 (by kernel_rfl) (zD (by kernel_rfl) rfl rfl rfl rfl rfl sz3 rfl (.skip (.skip (.skip (.skip (.skip (.skip (.skip (.skip (.skip (.skip (.skip (.take .nil)))))))))))) ?_)
  refine zba (by kernel_rfl)<|ze<|zi<|zc<|r_pv rfl rfl (za rfl)<|r_pv rfl rfl (zd rfl)<|zj<|ze<|zI<|zcd 0 rfl .z ?_
  exact zE Tryz.results35 (b5,p36,c37,p33,c34) trivial (zo rfl) rfl (ho:=(.n:PickO _ _ _)) ((.of [0,1,2] rfl):SelR _ _ _)
theorem zMe {w1:Nat} {vh1:Nat} {m1:Int} {p1:Option Addr} {n1:Nat} {c1:Nat} {w2:Nat} {vh2:Nat} {m2:Int} {p2:Option Addr} {n2:Nat} {c2:Nat} {bm:Nat} {ps:Option Addr} {cs:Nat} {pq:Option Addr} {cq:Nat} {sm:Int} {sp:Int} {ex:Int} {ey:Int} (hw1:1≤w1∧w1≤64) (hh1:1≤vh1∧vh1≤64) (hw2:1≤w2∧w2≤64) (hh2:1≤vh2∧vh2≤64):Con Tryz.prog 36 [.pointer (some ⟨bm,0,none⟩),.int .i64 ex,.int .i64 ey] [] [atF bm 0 [.int .i64 ((w1:Nat):Int),.int .i64 ((vh1:Nat):Int),.int .i64 m1,.slice p1 n1 c1,.int .i64 ((w2:Nat):Int),.int .i64 ((vh2:Nat):Int),.int .i64 m2,.slice p2 n2 c2,.slice ps (vh2+1) cs,.slice pq (vh2+1) cq,.int .i64 sm,.int .i64 sp]] (Y:=Unit) (fun y=>True) (fun y=> .bool (decide (0≤ex∧0≤ey∧ex≤((w2:Nat):Int) - ((w1:Nat):Int)∧ey≤((vh2:Nat):Int) - ((vh1:Nat):Int)))) (fun y=>[]) (fun y=>[]):=by
 refine zq Tryz.func36 rfl rfl rfl (fun c=> ?_)
 show RunC _ _ _ _ _ [(0,.pointer (some ⟨bm,0,none⟩)),(1,.int .i64 ex),(2,.int .i64 ey)] [] [atF bm 0 [.int .i64 ((w1:Nat):Int),.int .i64 ((vh1:Nat):Int),.int .i64 m1,.slice p1 n1 c1,.int .i64 ((w2:Nat):Int),.int .i64 ((vh2:Nat):Int),.int .i64 m2,.slice p2 n2 c2,.slice ps (vh2+1) cs,.slice pq (vh2+1) cq,.int .i64 sm,.int .i64 sp]]
 refine zi<|zc<|r_pv rfl rfl (zd rfl)<|zj<|ze<|zGa (X:=Unit) (fun x=>True) (fun x=>[(6,.bool (decide (0≤ex∧0≤ey∧ex≤((w2:Nat):Int) - ((w1:Nat):Int)∧ey≤((vh2:Nat):Int) - ((vh1:Nat):Int))))]) (fun x=>[]) (fun x=>[atF bm 0 [.int .i64 ((w1:Nat):Int),.int .i64 ((vh1:Nat):Int),.int .i64 m1,.slice p1 n1 c1,.int .i64 ((w2:Nat):Int),.int .i64 ((vh2:Nat):Int),.int .i64 m2,.slice p2 n2 c2,.slice ps (vh2+1) cs,.slice pq (vh2+1) cq,.int .i64 sm,.int .i64 sp]]) ?_ ?_
 ·
  refine zea (OW:=[]) (O:=[]) 100000 mixed (.then .ret) (by kernel_rfl)<|d_pv 0 rfl rfl (by kernel_rfl) (by kernel_rfl) rfl rfl (za rfl)<|d_pv 1 rfl rfl (by kernel_rfl) (by kernel_rfl) rfl rfl (zMa rfl rfl)<|zOb 2 rfl rfl (by kernel_rfl) (by kernel_rfl) rfl rfl (za rfl) (fun ha0=> ?_) (fun ha0=> ?_)
  ·
   refine d_pv 3 rfl rfl (by kernel_rfl) (by kernel_rfl) rfl rfl (za rfl)<|d_pv 4 rfl rfl (by kernel_rfl) (by kernel_rfl) rfl rfl (zMa rfl rfl)<|d_pv 5 rfl rfl (by kernel_rfl) (by kernel_rfl) rfl rfl (zm rfl rfl)<|zOb 6 rfl rfl (by kernel_rfl) (by kernel_rfl) rfl rfl (za rfl) (fun ha1=> ?_) (fun ha1=> ?_)
   ·
    refine d_pv 7 rfl rfl (by kernel_rfl) (by kernel_rfl) rfl rfl (za rfl)<|d_pv 8 rfl rfl (by kernel_rfl) (by kernel_rfl) rfl rfl (za rfl)<|d_pv 9 rfl rfl (by kernel_rfl) (by kernel_rfl) rfl rfl (zia rfl)<|d_pv 10 rfl rfl (by kernel_rfl) (by kernel_rfl) rfl rfl (zg Tryz.underlying103 rfl sz24 rfl rfl)<|d_pv 11 rfl rfl (by kernel_rfl) (by kernel_rfl) rfl rfl (zg Tryz.underlying24 rfl sz3 rfl rfl)<|d_u 12 rfl rfl (by kernel_rfl) (by kernel_rfl) rfl rfl (zk (j:=4) 0 ty3 rfl rfl rfl rfl)<|d_pv 13 rfl rfl (by kernel_rfl) (by kernel_rfl) rfl rfl (za rfl)<|d_pv 14 rfl rfl (by kernel_rfl) (by kernel_rfl) rfl rfl (zia rfl)<|d_pv 15 rfl rfl (by kernel_rfl) (by kernel_rfl) rfl rfl (zg Tryz.underlying103 rfl sz24 rfl rfl)<|d_pv 16 rfl rfl (by kernel_rfl) (by kernel_rfl) rfl rfl (zg Tryz.underlying24 rfl sz3 rfl rfl)<|d_u 17 rfl rfl (by kernel_rfl) (by kernel_rfl) rfl rfl (zk (j:=0) 0 ty3 rfl rfl rfl rfl)<|d_pv 18 rfl rfl (by kernel_rfl) (by kernel_rfl) rfl rfl (zaa (z:=(((w2:Nat):Int) - ((w1:Nat):Int))) rfl rfl (w64 (by omega)))<|d_pv 19 rfl rfl (by kernel_rfl) (by kernel_rfl) rfl rfl (zdb rfl rfl)<|d_pv 20 rfl rfl (by kernel_rfl) (by kernel_rfl) rfl rfl (zm rfl rfl)<|zOb 21 rfl rfl (by kernel_rfl) (by kernel_rfl) rfl rfl (za rfl) (fun ha2=> ?_) (fun ha2=> ?_)
    ·
     refine d_pv 22 rfl rfl (by kernel_rfl) (by kernel_rfl) rfl rfl (za rfl)<|d_pv 23 rfl rfl (by kernel_rfl) (by kernel_rfl) rfl rfl (za rfl)<|d_pv 24 rfl rfl (by kernel_rfl) (by kernel_rfl) rfl rfl (zia rfl)<|d_pv 25 rfl rfl (by kernel_rfl) (by kernel_rfl) rfl rfl (zg Tryz.underlying103 rfl sz24 rfl rfl)<|d_pv 26 rfl rfl (by kernel_rfl) (by kernel_rfl) rfl rfl (zg Tryz.underlying24 rfl sz3 rfl rfl)<|d_u 27 rfl rfl (by kernel_rfl) (by kernel_rfl) rfl rfl (zk (j:=5) 0 ty3 rfl rfl rfl rfl)<|d_pv 28 rfl rfl (by kernel_rfl) (by kernel_rfl) rfl rfl (za rfl)<|d_pv 29 rfl rfl (by kernel_rfl) (by kernel_rfl) rfl rfl (zia rfl)<|d_pv 30 rfl rfl (by kernel_rfl) (by kernel_rfl) rfl rfl (zg Tryz.underlying103 rfl sz24 rfl rfl)<|d_pv 31 rfl rfl (by kernel_rfl) (by kernel_rfl) rfl rfl (zg Tryz.underlying24 rfl sz3 rfl rfl)<|d_u 32 rfl rfl (by kernel_rfl) (by kernel_rfl) rfl rfl (zk (j:=1) 0 ty3 rfl rfl rfl rfl)<|d_pv 33 rfl rfl (by kernel_rfl) (by kernel_rfl) rfl rfl (zaa (z:=(((vh2:Nat):Int) - ((vh1:Nat):Int))) rfl rfl (w64 (by omega)))<|d_pv 34 rfl rfl (by kernel_rfl) (by kernel_rfl) rfl rfl (zdb rfl rfl)<|d_pv 35 rfl rfl (by kernel_rfl) (by kernel_rfl) rfl rfl (zm rfl rfl)<|d_pv 36 rfl rfl (by kernel_rfl) (by kernel_rfl) rfl rfl (zd rfl)<|zba (by kernel_rfl) ?_
     exact zca () (show True from by first|trivial|omega|simp_all) ((.e rfl (congrArg Value.bool (by exact decide_eq_decide.2 (by constructor <;> intro k <;> omega))) .n):SubM _ _) (ho:=(.n:PickO _ _ _)) ((.c (j:=0) rfl .n):SelR _ _ _)
    ·
     refine zS 22 rfl rfl (by kernel_rfl) (by kernel_rfl) rfl rfl<|zS 23 rfl rfl (by kernel_rfl) (by kernel_rfl) rfl rfl<|zS 24 rfl rfl (by kernel_rfl) (by kernel_rfl) rfl rfl<|zS 25 rfl rfl (by kernel_rfl) (by kernel_rfl) rfl rfl<|zS 26 rfl rfl (by kernel_rfl) (by kernel_rfl) rfl rfl<|zS 27 rfl rfl (by kernel_rfl) (by kernel_rfl) rfl rfl<|zS 28 rfl rfl (by kernel_rfl) (by kernel_rfl) rfl rfl<|zS 29 rfl rfl (by kernel_rfl) (by kernel_rfl) rfl rfl<|zS 30 rfl rfl (by kernel_rfl) (by kernel_rfl) rfl rfl<|zS 31 rfl rfl (by kernel_rfl) (by kernel_rfl) rfl rfl<|zS 32 rfl rfl (by kernel_rfl) (by kernel_rfl) rfl rfl<|zS 33 rfl rfl (by kernel_rfl) (by kernel_rfl) rfl rfl<|zS 34 rfl rfl (by kernel_rfl) (by kernel_rfl) rfl rfl<|d_pv 35 rfl rfl (by kernel_rfl) (by kernel_rfl) rfl rfl (zm rfl rfl)<|d_pv 36 rfl rfl (by kernel_rfl) (by kernel_rfl) rfl rfl (zd rfl)<|zba (by kernel_rfl) ?_
     exact zca () (show True from by first|trivial|omega|simp_all) ((.e rfl (congrArg Value.bool (by exact Eq.symm (decide_eq_false (by omega)))) .n):SubM _ _) (ho:=(.n:PickO _ _ _)) ((.c (j:=0) rfl .n):SelR _ _ _)
   ·
    refine zS 7 rfl rfl (by kernel_rfl) (by kernel_rfl) rfl rfl<|zS 8 rfl rfl (by kernel_rfl) (by kernel_rfl) rfl rfl<|zS 9 rfl rfl (by kernel_rfl) (by kernel_rfl) rfl rfl<|zS 10 rfl rfl (by kernel_rfl) (by kernel_rfl) rfl rfl<|zS 11 rfl rfl (by kernel_rfl) (by kernel_rfl) rfl rfl<|zS 12 rfl rfl (by kernel_rfl) (by kernel_rfl) rfl rfl<|zS 13 rfl rfl (by kernel_rfl) (by kernel_rfl) rfl rfl<|zS 14 rfl rfl (by kernel_rfl) (by kernel_rfl) rfl rfl<|zS 15 rfl rfl (by kernel_rfl) (by kernel_rfl) rfl rfl<|zS 16 rfl rfl (by kernel_rfl) (by kernel_rfl) rfl rfl<|zS 17 rfl rfl (by kernel_rfl) (by kernel_rfl) rfl rfl<|zS 18 rfl rfl (by kernel_rfl) (by kernel_rfl) rfl rfl<|zS 19 rfl rfl (by kernel_rfl) (by kernel_rfl) rfl rfl<|d_pv 20 rfl rfl (by kernel_rfl) (by kernel_rfl) rfl rfl (zm rfl rfl)<|d_pv 21 rfl rfl (by kernel_rfl) (by kernel_rfl) rfl rfl (za rfl)<|zS 22 rfl rfl (by kernel_rfl) (by kernel_rfl) rfl rfl<|zS 23 rfl rfl (by kernel_rfl) (by kernel_rfl) rfl rfl<|zS 24 rfl rfl (by kernel_rfl) (by kernel_rfl) rfl rfl<|zS 25 rfl rfl (by kernel_rfl) (by kernel_rfl) rfl rfl<|zS 26 rfl rfl (by kernel_rfl) (by kernel_rfl) rfl rfl<|zS 27 rfl rfl (by kernel_rfl) (by kernel_rfl) rfl rfl<|zS 28 rfl rfl (by kernel_rfl) (by kernel_rfl) rfl rfl<|zS 29 rfl rfl (by kernel_rfl) (by kernel_rfl) rfl rfl<|zS 30 rfl rfl (by kernel_rfl) (by kernel_rfl) rfl rfl<|zS 31 rfl rfl (by kernel_rfl) (by kernel_rfl) rfl rfl<|zS 32 rfl rfl (by kernel_rfl) (by kernel_rfl) rfl rfl<|zS 33 rfl rfl (by kernel_rfl) (by kernel_rfl) rfl rfl<|zS 34 rfl rfl (by kernel_rfl) (by kernel_rfl) rfl rfl<|d_pv 35 rfl rfl (by kernel_rfl) (by kernel_rfl) rfl rfl (zm rfl rfl)<|d_pv 36 rfl rfl (by kernel_rfl) (by kernel_rfl) rfl rfl (zd rfl)<|zba (by kernel_rfl) ?_
    exact zca () (show True from by first|trivial|omega|simp_all) ((.e rfl (congrArg Value.bool (by exact Eq.symm (decide_eq_false (by omega)))) .n):SubM _ _) (ho:=(.n:PickO _ _ _)) ((.c (j:=0) rfl .n):SelR _ _ _)
  ·
   refine zS 3 rfl rfl (by kernel_rfl) (by kernel_rfl) rfl rfl<|zS 4 rfl rfl (by kernel_rfl) (by kernel_rfl) rfl rfl<|d_pv 5 rfl rfl (by kernel_rfl) (by kernel_rfl) rfl rfl (zm rfl rfl)<|d_pv 6 rfl rfl (by kernel_rfl) (by kernel_rfl) rfl rfl (za rfl)<|zS 7 rfl rfl (by kernel_rfl) (by kernel_rfl) rfl rfl<|zS 8 rfl rfl (by kernel_rfl) (by kernel_rfl) rfl rfl<|zS 9 rfl rfl (by kernel_rfl) (by kernel_rfl) rfl rfl<|zS 10 rfl rfl (by kernel_rfl) (by kernel_rfl) rfl rfl<|zS 11 rfl rfl (by kernel_rfl) (by kernel_rfl) rfl rfl<|zS 12 rfl rfl (by kernel_rfl) (by kernel_rfl) rfl rfl<|zS 13 rfl rfl (by kernel_rfl) (by kernel_rfl) rfl rfl<|zS 14 rfl rfl (by kernel_rfl) (by kernel_rfl) rfl rfl<|zS 15 rfl rfl (by kernel_rfl) (by kernel_rfl) rfl rfl<|zS 16 rfl rfl (by kernel_rfl) (by kernel_rfl) rfl rfl<|zS 17 rfl rfl (by kernel_rfl) (by kernel_rfl) rfl rfl<|zS 18 rfl rfl (by kernel_rfl) (by kernel_rfl) rfl rfl<|zS 19 rfl rfl (by kernel_rfl) (by kernel_rfl) rfl rfl<|d_pv 20 rfl rfl (by kernel_rfl) (by kernel_rfl) rfl rfl (zm rfl rfl)<|d_pv 21 rfl rfl (by kernel_rfl) (by kernel_rfl) rfl rfl (za rfl)<|zS 22 rfl rfl (by kernel_rfl) (by kernel_rfl) rfl rfl<|zS 23 rfl rfl (by kernel_rfl) (by kernel_rfl) rfl rfl<|zS 24 rfl rfl (by kernel_rfl) (by kernel_rfl) rfl rfl<|zS 25 rfl rfl (by kernel_rfl) (by kernel_rfl) rfl rfl<|zS 26 rfl rfl (by kernel_rfl) (by kernel_rfl) rfl rfl<|zS 27 rfl rfl (by kernel_rfl) (by kernel_rfl) rfl rfl<|zS 28 rfl rfl (by kernel_rfl) (by kernel_rfl) rfl rfl<|zS 29 rfl rfl (by kernel_rfl) (by kernel_rfl) rfl rfl<|zS 30 rfl rfl (by kernel_rfl) (by kernel_rfl) rfl rfl<|zS 31 rfl rfl (by kernel_rfl) (by kernel_rfl) rfl rfl<|zS 32 rfl rfl (by kernel_rfl) (by kernel_rfl) rfl rfl<|zS 33 rfl rfl (by kernel_rfl) (by kernel_rfl) rfl rfl<|zS 34 rfl rfl (by kernel_rfl) (by kernel_rfl) rfl rfl<|d_pv 35 rfl rfl (by kernel_rfl) (by kernel_rfl) rfl rfl (zm rfl rfl)<|d_pv 36 rfl rfl (by kernel_rfl) (by kernel_rfl) rfl rfl (zd rfl)<|zba (by kernel_rfl) ?_
   exact zca () (show True from by first|trivial|omega|simp_all) ((.e rfl (congrArg Value.bool (by exact Eq.symm (decide_eq_false (by omega)))) .n):SubM _ _) (ho:=(.n:PickO _ _ _)) ((.c (j:=0) rfl .n):SelR _ _ _)
 ·
  rintro ⟨⟩ -
  try dsimp only
  refine zI ?_
  exact zE Tryz.results36 () trivial (zo rfl) rfl (ho:=(.n:PickO _ _ _)) (.n:SelR _ _ _)
theorem zDc {w1:Nat} {vh1:Nat} {m1:Int} {p1:Option Addr} {n1:Nat} {c1:Nat} {w2:Nat} {vh2:Nat} {m2:Int} {p2:Option Addr} {n2:Nat} {c2:Nat} {bm:Nat} {ps:Option Addr} {cs:Nat} {pq:Option Addr} {cq:Nat} {sm:Int} {sp:Int} {pt:Option Addr} {ct:Nat} {vv:Nat→Int} {xx:Nat} {yy:Nat} (hw1:1≤w1∧w1≤64) (hh1:1≤vh1∧vh1≤64) (hw2:1≤w2∧w2≤64) (hh2:1≤vh2∧vh2≤64) (hx:xx+w1≤w2) (hy:yy+vh1≤vh2) (hT:∀j i,j≤vh2→i≤w2→0≤Cr.T2 vv w2 j i∧Cr.T2 vv w2 j i≤17591649177600):Con Tryz.prog 64 [.pointer (some ⟨bm,0,none⟩),.slice pt (vh2+1) ct,.int .i64 ((xx:Nat):Int),.int .i64 ((yy:Nat):Int)] [] [atF bm 0 [.int .i64 ((w1:Nat):Int),.int .i64 ((vh1:Nat):Int),.int .i64 m1,.slice p1 n1 c1,.int .i64 ((w2:Nat):Int),.int .i64 ((vh2:Nat):Int),.int .i64 m2,.slice p2 n2 c2,.slice ps (vh2+1) cs,.slice pq (vh2+1) cq,.int .i64 sm,.int .i64 sp],slF (rS (rI .i64)) pt ct (Cr.tab vv w2 (vh2+1))] (Y:=Unit) (fun y=>True) (fun y=> .int .i64 (Cr.box vv w2 yy xx vh1 w1)) (fun y=>[]) (fun y=>[]):=by
 refine zq Tryz.func64 rfl rfl rfl (fun c=> ?_)
 show RunC _ _ _ _ _ [(0,.pointer (some ⟨bm,0,none⟩)),(1,.slice pt (vh2+1) ct),(2,.int .i64 ((xx:Nat):Int)),(3,.int .i64 ((yy:Nat):Int))] [] [atF bm 0 [.int .i64 ((w1:Nat):Int),.int .i64 ((vh1:Nat):Int),.int .i64 m1,.slice p1 n1 c1,.int .i64 ((w2:Nat):Int),.int .i64 ((vh2:Nat):Int),.int .i64 m2,.slice p2 n2 c2,.slice ps (vh2+1) cs,.slice pq (vh2+1) cq,.int .i64 sm,.int .i64 sp],slF (rS (rI .i64)) pt ct (Cr.tab vv w2 (vh2+1))]
 refine zY 1 rfl (fun hL1=> ?_)
 have hl9:=Cr.tab_len vv w2 (vh2+1)
 have g1:=Cr.tab_get (v:=vv) (w:=w2) (show yy+vh1<vh2+1 by omega)
 have g2:=Cr.tab_get (v:=vv) (w:=w2) (show yy<vh2+1 by omega)
 have r1:=Cr.tabRow_len vv w2 (yy+vh1)
 have r2:=Cr.tabRow_len vv w2 yy
 have hb9:=Cr.T2_box vv w2 yy xx vh1 w1
 have k0:=Cr.tabRow_get (v:=vv) (w:=w2) (y:=yy+vh1) (show xx+w1≤w2 by omega)
 have k1:=Cr.tabRow_get (v:=vv) (w:=w2) (y:=yy) (show xx+w1≤w2 by omega)
 have k2:=Cr.tabRow_get (v:=vv) (w:=w2) (y:=yy+vh1) (show xx≤w2 by omega)
 have k3:=Cr.tabRow_get (v:=vv) (w:=w2) (y:=yy) (show xx≤w2 by omega)
 have t0:=hT (yy+vh1) (xx+w1) (by omega) (by omega)
 have t1:=hT yy (xx+w1) (by omega) (by omega)
 have t2:=hT (yy+vh1) xx (by omega) (by omega)
 have t3:=hT yy xx (by omega) (by omega)
 rw [← g1] at k0 k2 r1
 rw [← g2] at k1 k3 r2
 refine zi<|zc<|r_pv rfl rfl (zd rfl)<|zj<|ze<|zi<|zea (OW:=[]) (O:=[]) 100000 mixed (.then .ret) (by kernel_rfl)<|d_pv 0 rfl rfl (by kernel_rfl) (by kernel_rfl) rfl rfl (za rfl)<|d_pv 1 rfl rfl (by kernel_rfl) (by kernel_rfl) rfl rfl (za rfl)<|d_pv 2 rfl rfl (by kernel_rfl) (by kernel_rfl) rfl rfl (zia rfl)<|d_pv 3 rfl rfl (by kernel_rfl) (by kernel_rfl) rfl rfl (zg Tryz.underlying103 rfl sz24 rfl rfl)<|d_pv 4 rfl rfl (by kernel_rfl) (by kernel_rfl) rfl rfl (zg Tryz.underlying24 rfl sz3 rfl rfl)<|d_u 5 rfl rfl (by kernel_rfl) (by kernel_rfl) rfl rfl (zk (j:=0) 0 ty3 rfl rfl rfl rfl)<|d_pv 6 rfl rfl (by kernel_rfl) (by kernel_rfl) rfl rfl (zx (z:=(((xx+w1):Nat):Int)) rfl rfl (w64 (by omega)))<|d_pv 7 rfl rfl (by kernel_rfl) (by kernel_rfl) rfl rfl (za rfl)<|d_pv 8 rfl rfl (by kernel_rfl) (by kernel_rfl) rfl rfl (za rfl)<|d_pv 9 rfl rfl (by kernel_rfl) (by kernel_rfl) rfl rfl (zia rfl)<|d_pv 10 rfl rfl (by kernel_rfl) (by kernel_rfl) rfl rfl (zg Tryz.underlying103 rfl sz24 rfl rfl)<|d_pv 11 rfl rfl (by kernel_rfl) (by kernel_rfl) rfl rfl (zg Tryz.underlying24 rfl sz3 rfl rfl)<|d_u 12 rfl rfl (by kernel_rfl) (by kernel_rfl) rfl rfl (zk (j:=1) 0 ty3 rfl rfl rfl rfl)<|d_pv 13 rfl rfl (by kernel_rfl) (by kernel_rfl) rfl rfl (zx (z:=(((yy+vh1):Nat):Int)) rfl rfl (w64 (by omega)))<|d_pv 14 rfl rfl (by kernel_rfl) (by kernel_rfl) rfl rfl (zd rfl)<|d_pv 15 rfl rfl (by kernel_rfl) (by kernel_rfl) rfl rfl (zd rfl)<|zba (by kernel_rfl)<|ze<|zi<|zea (OW:=[]) (O:=[]) 100000 mixed (.then .ret) (by kernel_rfl)<|d_pv 0 rfl rfl (by kernel_rfl) (by kernel_rfl) rfl rfl (za rfl)<|d_pv 1 rfl rfl (by kernel_rfl) (by kernel_rfl) rfl rfl (za rfl)<|d_vl 2 rfl rfl (by kernel_rfl) (by kernel_rfl) rfl rfl (zqb (x0:=((Cr.tab vv w2 (vh2+1)).getD (yy+vh1) [])) 1 (yy+vh1) rfl Tryz.underlying73 sz22 rfl (by first|rfl|assumption|(simp only [Cr.tab_len];done)|omega) rfl rfl (gD (d:=[]) (by omega))) ?_
 rintro ⟨b1,o2,p3,c4⟩ -
 dsimp only [List.append_eq,List.nil_append,List.cons_append]
 refine d_u 3 rfl rfl (by kernel_rfl) (by kernel_rfl) rfl rfl (zk (j:=0) 0 ty22 rfl rfl rfl rfl)<|d_pv 4 rfl rfl (by kernel_rfl) (by kernel_rfl) rfl rfl (za rfl)<|zga (x0:=(((Cr.tab vv w2 (vh2+1)).getD (yy+vh1) []).getD (xx+w1) 0)) 5 rfl rfl (by kernel_rfl) (by kernel_rfl) 1 (xx+w1) rfl Tryz.underlying22 sz3 rfl rfl rfl (by first|rfl|assumption|(simp only [Cr.tab_len];done)|omega) rfl rfl (gD (d:=0) (by omega)) (fun b5 o6 hok7=> ?_)
 replace hok7:=zR.1 hok7
 refine d_u 6 rfl rfl (by kernel_rfl) (by kernel_rfl) rfl rfl (zk (j:=0) 0 ty3 rfl rfl rfl rfl)<|d_pv 7 rfl rfl (by kernel_rfl) (by kernel_rfl) rfl rfl (za rfl)<|d_pv 8 rfl rfl (by kernel_rfl) (by kernel_rfl) rfl rfl (za rfl)<|d_vl 9 rfl rfl (by kernel_rfl) (by kernel_rfl) rfl rfl (zqb (x0:=((Cr.tab vv w2 (vh2+1)).getD yy [])) 4 yy rfl Tryz.underlying73 sz22 rfl (by first|rfl|assumption|(simp only [Cr.tab_len];done)|omega) rfl rfl (gD (d:=[]) (by omega))) ?_
 rintro ⟨b8,o9,p10,c11⟩ -
 dsimp only [List.append_eq,List.nil_append,List.cons_append]
 refine d_u 10 rfl rfl (by kernel_rfl) (by kernel_rfl) rfl rfl (zk (j:=0) 0 ty22 rfl rfl rfl rfl)<|d_pv 11 rfl rfl (by kernel_rfl) (by kernel_rfl) rfl rfl (za rfl)<|zga (x0:=(((Cr.tab vv w2 (vh2+1)).getD yy []).getD (xx+w1) 0)) 12 rfl rfl (by kernel_rfl) (by kernel_rfl) 1 (xx+w1) rfl Tryz.underlying22 sz3 rfl rfl rfl (by first|rfl|assumption|(simp only [Cr.tab_len];done)|omega) rfl rfl (gD (d:=0) (by omega)) (fun b12 o13 hok14=> ?_)
 replace hok14:=zR.1 hok14
 refine d_u 13 rfl rfl (by kernel_rfl) (by kernel_rfl) rfl rfl (zk (j:=0) 0 ty3 rfl rfl rfl rfl)<|d_pv 14 rfl rfl (by kernel_rfl) (by kernel_rfl) rfl rfl (zaa (z:=((((Cr.tab vv w2 (vh2+1)).getD (yy+vh1) []).getD (xx+w1) 0) - (((Cr.tab vv w2 (vh2+1)).getD yy []).getD (xx+w1) 0))) rfl rfl (w64 (by omega)))<|d_pv 15 rfl rfl (by kernel_rfl) (by kernel_rfl) rfl rfl (za rfl)<|d_pv 16 rfl rfl (by kernel_rfl) (by kernel_rfl) rfl rfl (za rfl)<|d_vl 17 rfl rfl (by kernel_rfl) (by kernel_rfl) rfl rfl (zqb (x0:=((Cr.tab vv w2 (vh2+1)).getD (yy+vh1) [])) 7 (yy+vh1) rfl Tryz.underlying73 sz22 rfl (by first|rfl|assumption|(simp only [Cr.tab_len];done)|omega) rfl rfl (gD (d:=[]) (by omega))) ?_
 rintro ⟨b15,o16,p17,c18⟩ -
 dsimp only [List.append_eq,List.nil_append,List.cons_append]
 refine d_u 18 rfl rfl (by kernel_rfl) (by kernel_rfl) rfl rfl (zk (j:=0) 0 ty22 rfl rfl rfl rfl)<|d_pv 19 rfl rfl (by kernel_rfl) (by kernel_rfl) rfl rfl (za rfl)<|zga (x0:=(((Cr.tab vv w2 (vh2+1)).getD (yy+vh1) []).getD xx 0)) 20 rfl rfl (by kernel_rfl) (by kernel_rfl) 1 xx rfl Tryz.underlying22 sz3 rfl rfl rfl (by first|rfl|assumption|(simp only [Cr.tab_len];done)|omega) rfl rfl (gD (d:=0) (by omega)) (fun b19 o20 hok21=> ?_)
 replace hok21:=zR.1 hok21
 refine d_u 21 rfl rfl (by kernel_rfl) (by kernel_rfl) rfl rfl (zk (j:=0) 0 ty3 rfl rfl rfl rfl)<|d_pv 22 rfl rfl (by kernel_rfl) (by kernel_rfl) rfl rfl (zaa (z:=(((((Cr.tab vv w2 (vh2+1)).getD (yy+vh1) []).getD (xx+w1) 0) - (((Cr.tab vv w2 (vh2+1)).getD yy []).getD (xx+w1) 0)) - (((Cr.tab vv w2 (vh2+1)).getD (yy+vh1) []).getD xx 0))) rfl rfl (w64 (by omega)))<|d_pv 23 rfl rfl (by kernel_rfl) (by kernel_rfl) rfl rfl (za rfl)<|d_pv 24 rfl rfl (by kernel_rfl) (by kernel_rfl) rfl rfl (za rfl)<|d_vl 25 rfl rfl (by kernel_rfl) (by kernel_rfl) rfl rfl (zqb (x0:=((Cr.tab vv w2 (vh2+1)).getD yy [])) 10 yy rfl Tryz.underlying73 sz22 rfl (by first|rfl|assumption|(simp only [Cr.tab_len];done)|omega) rfl rfl (gD (d:=[]) (by omega))) ?_
 rintro ⟨b22,o23,p24,c25⟩ -
 dsimp only [List.append_eq,List.nil_append,List.cons_append]
 refine d_u 26 rfl rfl (by kernel_rfl) (by kernel_rfl) rfl rfl (zk (j:=0) 0 ty22 rfl rfl rfl rfl)<|d_pv 27 rfl rfl (by kernel_rfl) (by kernel_rfl) rfl rfl (za rfl)<|zga (x0:=(((Cr.tab vv w2 (vh2+1)).getD yy []).getD xx 0)) 28 rfl rfl (by kernel_rfl) (by kernel_rfl) 1 xx rfl Tryz.underlying22 sz3 rfl rfl rfl (by first|rfl|assumption|(simp only [Cr.tab_len];done)|omega) rfl rfl (gD (d:=0) (by omega)) (fun b26 o27 hok28=> ?_)
 replace hok28:=zR.1 hok28
 refine d_u 29 rfl rfl (by kernel_rfl) (by kernel_rfl) rfl rfl (zk (j:=0) 0 ty3 rfl rfl rfl rfl)<|d_pv 30 rfl rfl (by kernel_rfl) (by kernel_rfl) rfl rfl (zx (z:=((((((Cr.tab vv w2 (vh2+1)).getD (yy+vh1) []).getD (xx+w1) 0) - (((Cr.tab vv w2 (vh2+1)).getD yy []).getD (xx+w1) 0)) - (((Cr.tab vv w2 (vh2+1)).getD (yy+vh1) []).getD xx 0))+(((Cr.tab vv w2 (vh2+1)).getD yy []).getD xx 0))) rfl rfl (w64 (by omega)))<|d_pv 31 rfl rfl (by kernel_rfl) (by kernel_rfl) rfl rfl (zd rfl)<|zba (by kernel_rfl)<|ze<|zI ?_
 exact zE Tryz.results64 () trivial (zo rfl) (congrArg (Value.int .i64) (by rw [← hb9,k0,k1,k2,k3])) (ho:=(.n:PickO _ _ _)) (.n:SelR _ _ _)
end Go.Proofs.YtkamccndgblheaaGreat.Sp
namespace Go.Proofs.YtkamccndgblheaaGreat.Sp
open Go
set_option linter.unusedVariables false
set_option maxRecDepth 100000
set_option maxHeartbeats 1000000
theorem zrb {p:Option Addr} {n:Nat} {cap:Nat} {l:List Int} (hn:l.length=n):Con Tryz.prog 124 [.slice p n cap] [] [slF (rI .u32) p cap l] (Y:=Unit) (fun y=>True) (fun y=> .slice p ((Big.trimL l).length) cap) (fun y=>[]) (fun y=>[slF (rI .u32) p cap (Big.trimL l)]):=by
 refine zq Tryz.func124 rfl rfl rfl (fun c=> ?_)
 show RunC _ _ _ _ _ [(0,.slice p n cap)] [] [slF (rI .u32) p cap l]
 refine zY 0 rfl (fun hL0=> ?_)
 refine zi<|zc<|r_pv rfl rfl (zd rfl)<|zj<|ze<|zi<|zA<|zka (X:=Nat) (fun x:Nat=>x≤l.length∧Big.trimL (l.take x)=Big.trimL l) (fun x=>[(0,.slice p x cap),(2,.slice none 0 0)]) (fun x=>[]) (fun x=>[slF (rI .u32) p cap (l.take x),slF (rI .u32) p cap l]) (fun x:Nat=>x) n (show n≤l.length∧Big.trimL (l.take n)=Big.trimL l from by exact ⟨by omega,by rw [List.take_of_length_le (by omega)]⟩) ((.c rfl (.c rfl .n)):SubM _ _) (ho:=(.n:PickO _ _ _)) ((.e (j:=0) rfl (by rw [List.take_of_length_le (by omega)]) (.c (j:=0) rfl .n)):SelR _ _ _) ?_
 rintro k hI
 replace hI:k≤l.length∧Big.trimL (l.take k)=Big.trimL l:=hI
 try dsimp only
 obtain ⟨hk,hT⟩:=hI
 have hlt:(l.take k).length=k:=by rw [List.length_take];omega
 refine zi<|zGa (X:=Unit) (fun x=>True) (fun x=>[(14,.bool (decide (0<k∧l.getD (k - 1) 0=0))),(0,.slice p k cap),(2,.slice none 0 0)]) (fun x=>[]) (fun x=>[slF (rI .u32) p cap (l.take k),slF (rI .u32) p cap l]) ?_ ?_
 ·
  refine zc<|r_pv rfl rfl (za rfl)<|r_pv rfl rfl (zM Tryz.underlying28 rfl)<|r_pv rfl rfl (zoa rfl rfl)<|zP rfl rfl (za rfl) (fun h1=> ?_) (fun h1=> ?_)
  ·
   refine r_pv rfl rfl (za rfl)<|r_pv rfl rfl (za rfl)<|r_pv rfl rfl (zM Tryz.underlying28 rfl)<|r_pv rfl rfl (zaa (z:=(((k:Nat):Int) - 1)) rfl rfl (w64 (by omega)))<|zU (x0:=((l.take k).getD ((((k:Nat):Int) - 1).toNat) 0)) 0 ((((k:Nat):Int) - 1).toNat) rfl Tryz.underlying28 sz111 rfl rfl rfl (by first|rfl|assumption|(simp_all;done)|omega) rfl (by omega) (gD (d:=0) (by omega)) (fun b2 o3 hok4=> ?_)
   replace hok4:=zv.1 hok4
   refine r_u rfl rfl (zk (j:=0) 0 ty111 rfl rfl rfl rfl)<|r_pv rfl rfl (zva rfl rfl)<|r_pv rfl rfl (zm rfl rfl)<|zj ?_
   exact zca () (show True from by first|trivial|omega|simp_all) ((.e rfl (congrArg Value.bool (by rw [Big.getD_take l (by omega)];have h1:0<k:=(by omega);have h2:((k:Int) - 1).toNat=k - 1:=(by omega);simp [h1,h2])) (.c rfl (.c rfl .n))):SubM _ _) (ho:=(.n:PickO _ _ _)) ((.of [1,2] rfl):SelR _ _ _)
  ·
   refine zb rfl rfl<|zb rfl rfl<|zb rfl rfl<|zb rfl rfl<|zb rfl rfl<|zb rfl rfl<|zb rfl rfl<|r_pv rfl rfl (zm rfl rfl)<|zj ?_
   exact zca () (show True from by first|trivial|omega|simp_all) ((.e rfl (congrArg Value.bool (by have h1:¬0<k:=(by omega);simp [h1])) (.c rfl (.c rfl .n))):SubM _ _) (ho:=(.n:PickO _ _ _)) ((.of [0,1] rfl):SelR _ _ _)
 ·
  rintro ⟨⟩ -
  try dsimp only
  refine zG rfl (fun hc=> ?_) (fun hc=> ?_)
  ·
   refine zB<|ze<|zA<|zc<|r_pv rfl rfl (za rfl)<|r_pv rfl rfl (za rfl)<|r_pv rfl rfl (zM Tryz.underlying28 rfl)<|r_pv rfl rfl (zaa (z:=(((k - 1):Nat):Int)) rfl rfl (w64 (by omega)))<|r_pv rfl rfl (zBb (hi:=(k - 1)) Tryz.underlying28 sz111 rfl (.s rfl) (.inr ⟨_,rfl⟩) (by omega))<|zkc (zfc 0 rfl (k - 1) (by omega)) (fun _ _=> ?_)
   refine r_pv rfl rfl (zd rfl)<|zj<|zT<|zha (k - 1) (show (k - 1)≤l.length∧Big.trimL (l.take (k - 1))=Big.trimL l from by exact ⟨by omega,by rw [← hT,Big.trim_go l hc.1 hk hc.2]⟩) (by show k - 1<k;omega) ((.e rfl (by first|rfl|(congr 1;omega)|simp_all) (.c rfl .n)):SubM _ _) (ho:=(.n:PickO _ _ _)) ((.e (j:=0) rfl (by rw [List.take_take];congr 2;omega) (.c (j:=2) rfl .n)):SelR _ _ _)
  ·
   refine zja<|zl<|zl<|zu<|ze<|zi<|zc<|r_pv rfl rfl (za rfl)<|r_pv rfl rfl (zd rfl)<|zj<|ze<|zI ?_
   have hfin:Big.trimL l=l.take k:=by rw [← hT];exact Big.trim_stop l hk hc
   exact zE Tryz.results124 () trivial (zo rfl) (by rw [hfin,hlt]) (ho:=(.n:PickO _ _ _)) ((.e (j:=0) rfl (by rw [hfin]) .n):SelR _ _ _)
theorem zce {p:Option Addr} {n:Nat} {cap:Nat} {l:List Int} {i:Nat} (hn:l.length=n) (hi:i≤4611686018427387904):Con Tryz.prog 131 [.slice p n cap,.int .i64 ((i:Nat):Int)] [] [slF (rI .u32) p cap l] (Y:=Unit) (fun y=>True) (fun y=> .int .u32 (l.getD i 0)) (fun y=>[]) (fun y=>[]):=by
 refine zq Tryz.func131 rfl rfl rfl (fun c=> ?_)
 show RunC _ _ _ _ _ [(0,.slice p n cap),(1,.int .i64 ((i:Nat):Int))] [] [slF (rI .u32) p cap l]
 refine zY 0 rfl (fun hL0=> ?_)
 refine zi<|zc<|r_pv rfl rfl (zd rfl)<|zj<|ze<|zi<|zi<|zc<|r_pv rfl rfl (za rfl)<|r_pv rfl rfl (za rfl)<|r_pv rfl rfl (zM Tryz.underlying28 rfl)<|r_pv rfl rfl (zda rfl rfl)<|zj<|ze<|zG rfl (fun h1=> ?_) (fun h1=> ?_)
 ·
  refine zi<|zc<|r_pv rfl rfl (za rfl)<|r_pv rfl rfl (za rfl)<|zU (x0:=(l.getD i 0)) 0 i rfl Tryz.underlying28 sz111 rfl rfl rfl (by first|rfl|assumption|(simp_all;done)|omega) rfl rfl (gD (d:=0) (by omega)) (fun b2 o3 hok4=> ?_)
  replace hok4:=zv.1 hok4
  refine r_u rfl rfl (zk (j:=0) 0 ty111 rfl rfl rfl rfl)<|r_pv rfl rfl (zd rfl)<|zj<|ze<|zI<|zp ?_
  exact zE Tryz.results131 () trivial (zo rfl) rfl (ho:=(.n:PickO _ _ _)) (.n:SelR _ _ _)
 ·
  refine zB<|ze<|zi<|zc<|r_pv rfl rfl (zd rfl)<|zj<|ze<|zI ?_
  exact zE Tryz.results131 () trivial (zo rfl) (by rw [show l.getD i 0=0 by simp [List.getD,List.getElem?_eq_none (show l.length≤i by omega)]]) (ho:=(.n:PickO _ _ _)) (.n:SelR _ _ _)
theorem znf {p1:Option Addr} {n1:Nat} {c1:Nat} {l1:List Int} {p2:Option Addr} {n2:Nat} {c2:Nat} {l2:List Int} (hn1:l1.length=n1) (hn2:l2.length=n2) (hb1:n1≤1099511627776) (hb2:n2≤1099511627776) (ho1:Big.okL l1) (ho2:Big.okL l2):Con Tryz.prog 122 [.slice p1 n1 c1,.slice p2 n2 c2] [] [slF (rI .u32) p1 c1 l1,slF (rI .u32) p2 c2 l2] (Y:=(Option Addr)×Nat) (fun y=>True) (fun y=> .slice (y.1) ((Big.digs (Big.valL l1+Big.valL l2).toNat).length) (y.2)) (fun y=>[]) (fun y=>[slF (rI .u32) (y.1) (y.2) (Big.digs (Big.valL l1+Big.valL l2).toNat)]):=by
 refine zq Tryz.func122 rfl rfl rfl (fun c=> ?_)
 show RunC _ _ _ _ _ [(0,.slice p1 n1 c1),(1,.slice p2 n2 c2)] [] [slF (rI .u32) p1 c1 l1,slF (rI .u32) p2 c2 l2]
 refine zY 0 rfl (fun hL0=> ?_)
 refine zY 1 rfl (fun hL1=> ?_)
 refine zi<|zc<|r_pv rfl rfl (zd rfl)<|zj<|ze<|zi<|zc<|r_pv rfl rfl (za rfl)<|r_pv rfl rfl (zM Tryz.underlying28 rfl)<|r_pv rfl rfl (za rfl)<|r_pv rfl rfl (zM Tryz.underlying28 rfl)<|r_pv rfl rfl (v:= .int .i64 (((max n1 n2):Nat):Int)) (by rw [show ((((max n1 n2):Nat):Int):Int)=max ((n1:Nat):Int) ((n2:Nat):Int) by omega];exact zxe rfl rfl)<|r_pv rfl rfl (zx (z:=((((max n1 n2)+1):Nat):Int)) rfl rfl (w64 (by omega)))<|zza rfl rfl (zIa (r:=rI .u32) (k:=((max n1 n2)+1)) (x0:=0) (γ0:=()) Tryz.underlying28 inf111 rfl rfl rfl rfl (by omega) (by omega) rfl (fun _ _=>by exact zv.2 (by decide)) (by decide)) (fun b1 _=> ?_)
 refine r_pv rfl rfl (zd rfl)<|zj<|ze<|zi<|zc<|r_pv rfl rfl (zd rfl)<|zj<|ze<|zi<|zi<|zc<|r_pv rfl rfl (za rfl)<|r_pv rfl rfl (zM Tryz.underlying28 rfl)<|r_pv rfl rfl (za rfl)<|zj<|ze<|zA<|zka (X:=Nat×(List Int)×Int) (fun x:Nat×(List Int)×Int=>x.1≤max n1 n2+1∧x.2.1.length=x.1∧0≤x.2.2∧x.2.2≤1∧Big.okL x.2.1∧Big.valL x.2.1+Big.pw x.1*x.2.2=Big.valL (l1.take x.1)+Big.valL (l2.take x.1)) (fun x=>[(6,.int .u32 (x.2.2)),(18,.int .i64 ((x.1:Nat):Int)),(17,.int .i64 ((((max n1 n2)+1):Nat):Int)),(5,.slice (some ⟨b1,0,none⟩) ((max n1 n2)+1) ((max n1 n2)+1)),(4,.slice none 0 0),(0,.slice p1 n1 c1),(1,.slice p2 n2 c2)]) (fun x=>[rowA 111 (rI .u32) (some ⟨b1,0,none⟩) ((max n1 n2)+1) (x.2.1++List.replicate (max n1 n2+1 - x.1) 0)]) (fun x=>[slF (rI .u32) p1 c1 l1,slF (rI .u32) p2 c2 l2]) (fun x:Nat×(List Int)×Int=>max n1 n2+1 - x.1) (0,[],0) (show 0≤max n1 n2+1∧([]).length=0∧0≤0∧0≤1∧Big.okL ([])∧Big.valL ([])+Big.pw 0*0=Big.valL (l1.take 0)+Big.valL (l2.take 0) from by exact ⟨by omega,rfl,by decide,by decide,Big.okL_nil,by simp [Big.valL]⟩) ((.c rfl (.e rfl (by first|rfl|(congr 1;omega)|simp_all) (.of rfl))):SubM _ _) (ho:=((.e (i:=0) rfl (by simp) .n):PickO _ _ _)) ((.of [0,1] rfl):SelR _ _ _) ?_
 rintro ⟨i,os,cy⟩ hI
 replace hI:i≤max n1 n2+1∧os.length=i∧0≤cy∧cy≤1∧Big.okL os∧Big.valL os+Big.pw i*cy=Big.valL (l1.take i)+Big.valL (l2.take i):=hI
 try dsimp only
 obtain ⟨hi,hol,hc0,hc1,hok,hv⟩:=hI
 have hg1:=Big.okL_getD ho1 i
 have hg2:=Big.okL_getD ho2 i
 refine zi<|zc<|r_pv rfl rfl (zda rfl rfl)<|zj<|ze<|zi<|zG rfl (fun h2=> ?_) (fun h2=> ?_)
 ·
  refine zB<|ze<|zi<|zA<|zi<|zc<|r_pv rfl rfl (za rfl)<|r_pv rfl rfl (zd rfl)<|zj<|ze<|zi<|zc<|r_pv rfl rfl (za rfl)<|r_pv rfl rfl (za rfl)<|zN rfl rfl (.c rfl (.c rfl .n)) ce131 (zce (p:=p1) (n:=n1) (cap:=c1) (l:=l1) (i:=i) (hn:=by assumption) (hi:=by first|rfl|assumption|omega|(simp;done)|(simp;omega)|(simp_all;done))) (.c (j:=0) rfl .n)<|r_pv rfl rfl (za rfl)<|r_pv rfl rfl (za rfl)<|zN rfl rfl (.c rfl (.c rfl .n)) ce131 (zce (p:=p2) (n:=n2) (cap:=c2) (l:=l2) (i:=i) (hn:=by assumption) (hi:=by first|rfl|assumption|omega|(simp;done)|(simp;omega)|(simp_all;done))) (.c (j:=1) rfl .n)<|r_pv rfl rfl (zx (z:=(l1.getD i 0+l2.getD i 0)) rfl rfl (wu32 (by omega)))<|r_pv rfl rfl (za rfl)<|r_pv rfl rfl (zx (z:=((l1.getD i 0+l2.getD i 0)+cy)) rfl rfl (wu32 (by omega)))<|r_pv rfl rfl (zd rfl)<|zj<|ze<|zi<|zc<|r_pv rfl rfl (zd rfl)<|zj<|ze<|zi<|zi<|zc<|r_pv rfl rfl (za rfl)<|r_pv rfl rfl (zMa rfl rfl)<|zj<|ze<|zG rfl (fun hc=> ?_) (fun hc=> ?_)
  ·
   refine zc<|r_pv rfl rfl (za rfl)<|r_pv rfl rfl (zaa (z:=(((l1.getD i 0+l2.getD i 0)+cy) - 1000000000)) rfl rfl (wu32 (by omega)))<|r_pv rfl rfl (zd rfl)<|r_pv rfl rfl (zd rfl)<|zj<|ze<|zc<|r_pv rfl rfl (za rfl)<|r_pv rfl rfl (za rfl)<|r_pv rfl rfl (za rfl)<|r_pv rfl rfl (zX (j:=i) Tryz.underlying28 sz111 rfl rfl rfl (by omega))<|zDa 0 rfl rfl rfl (zW (j:=i) (x0:=(((l1.getD i 0+l2.getD i 0)+cy) - 1000000000)) (γ0:=()) rfl rfl (by first|omega|(rw [List.length_map];omega)|(simp only [List.length_set];omega)|(simp;done)|(simp;omega)) rfl rfl sz111 (fun _ _=>by exact zv.2 (by omega))) (fun _=> .z) (fun _ _=> ?_)
   refine zj<|zT<|ze<|zc<|r_pv rfl rfl (zx (z:=(((i+1):Nat):Int)) rfl rfl (w64 (by omega)))<|r_pv rfl rfl (za rfl)<|zj<|zha ((i+1),os++[l1.getD i 0+l2.getD i 0+cy - 1000000000],1) (show (i+1)≤max n1 n2+1∧(os++[l1.getD i 0+l2.getD i 0+cy - 1000000000]).length=(i+1)∧0≤1∧1≤1∧Big.okL (os++[l1.getD i 0+l2.getD i 0+cy - 1000000000])∧Big.valL (os++[l1.getD i 0+l2.getD i 0+cy - 1000000000])+Big.pw (i+1)*1=Big.valL (l1.take (i+1))+Big.valL (l2.take (i+1)) from by exact ⟨by omega,by simp [hol],by decide,by decide,Big.okL_snoc hok (by omega) (by omega),Big.plus_step hol hv (by omega)⟩) (by show max n1 n2+1 - (i+1)<max n1 n2+1 - i;omega) ((.of rfl):SubM _ _) (ho:=((.e (i:=0) rfl (by rw [Big.set_pad hol (by omega)]) .n):PickO _ _ _)) ((.of [0,1] rfl):SelR _ _ _)
  ·
   refine zB<|ze<|zc<|r_pv rfl rfl (za rfl)<|r_pv rfl rfl (za rfl)<|r_pv rfl rfl (za rfl)<|r_pv rfl rfl (zX (j:=i) Tryz.underlying28 sz111 rfl rfl rfl (by omega))<|zDa 0 rfl rfl rfl (zW (j:=i) (x0:=((l1.getD i 0+l2.getD i 0)+cy)) (γ0:=()) rfl rfl (by first|omega|(rw [List.length_map];omega)|(simp only [List.length_set];omega)|(simp;done)|(simp;omega)) rfl rfl sz111 (fun _ _=>by exact zv.2 (by omega))) (fun _=> .z) (fun _ _=> ?_)
   refine zj<|zT<|ze<|zc<|r_pv rfl rfl (zx (z:=(((i+1):Nat):Int)) rfl rfl (w64 (by omega)))<|r_pv rfl rfl (za rfl)<|zj<|zha ((i+1),os++[l1.getD i 0+l2.getD i 0+cy],0) (show (i+1)≤max n1 n2+1∧(os++[l1.getD i 0+l2.getD i 0+cy]).length=(i+1)∧0≤0∧0≤1∧Big.okL (os++[l1.getD i 0+l2.getD i 0+cy])∧Big.valL (os++[l1.getD i 0+l2.getD i 0+cy])+Big.pw (i+1)*0=Big.valL (l1.take (i+1))+Big.valL (l2.take (i+1)) from by exact ⟨by omega,by simp [hol],by decide,by decide,Big.okL_snoc hok (by omega) (by omega),Big.plus_step hol hv (by omega)⟩) (by show max n1 n2+1 - (i+1)<max n1 n2+1 - i;omega) ((.of rfl):SubM _ _) (ho:=((.e (i:=0) rfl (by rw [Big.set_pad hol (by omega)]) .n):PickO _ _ _)) ((.of [0,1] rfl):SelR _ _ _)
 ·
  have e3:os++List.replicate (max n1 n2+1 - i) 0=os:=by rw [show max n1 n2+1 - i=0 by omega];simp
  rw [e3]
  have hfin:=Big.plus_fin ho1 ho2 hok hc0 hol (by omega) hv
  have htr:Big.trimL os=Big.digs (Big.valL l1+Big.valL l2).toNat:=by rw [Big.digs_valL hok,hfin]
  refine zja<|zl<|zl<|zu<|ze<|zi<|zc<|r_pv rfl rfl (za rfl)<|zna 0 rfl .z<|zy rfl rfl (.c rfl .n) ce124 (zrb (p:=some ⟨b1,0,none⟩) (n:=((max n1 n2)+1)) (cap:=((max n1 n2)+1)) (l:=os) (hn:=by first|rfl|assumption|omega|(simp;done)|(simp;omega)|(simp_all;done))) (.c (j:=0) rfl .n) ?_
  rintro ⟨⟩ -
  dsimp only [List.append_eq,List.nil_append,List.cons_append]
  refine r_pv rfl rfl (zd rfl)<|zj<|ze<|zI ?_
  exact zE Tryz.results122 ((some ⟨b1,0,none⟩),((max n1 n2)+1)) trivial (zo rfl) (by rw [htr]) (ho:=(.n:PickO _ _ _)) ((.e (j:=0) rfl (by rw [htr]) .n):SelR _ _ _)
theorem zNe {a:Nat} {b:Nat} {p1:Option Addr} {c1:Nat} {p2:Option Addr} {c2:Nat} (hb1:(Big.digs (a)).length≤1099511627776) (hb2:(Big.digs (b)).length≤1099511627776):Con Tryz.prog 122 [.slice (p1) ((Big.digs (a)).length) (c1),.slice (p2) ((Big.digs (b)).length) (c2)] [] [slF (rI .u32) (p1) (c1) (Big.digs (a)),slF (rI .u32) (p2) (c2) (Big.digs (b))] (Y:=(Option Addr)×(Nat)) (fun y=>True) (fun y=> .slice (y.1) ((Big.digs (a+b)).length) (y.2)) (fun y=>[]) (fun y=>[slF (rI .u32) (y.1) (y.2) (Big.digs (a+b))]):=by
  have h:= @znf p1 (Big.digs a).length c1 (Big.digs a) p2 (Big.digs b).length c2 (Big.digs b) rfl rfl hb1 hb2 (Big.digs_ok a) (Big.digs_ok b)
  rw [Big.valL_digs,Big.valL_digs,show ((a:Int)+(b:Int)).toNat=a+b by omega] at h
  exact h
theorem zQb {x:Int}:Con Tryz.prog 126 [.int .i64 x] [] [] (Y:=Unit) (fun y=>True) (fun y=> .bool false) (fun y=>[]) (fun y=>[]):=by
 refine zq Tryz.func126 rfl rfl rfl (fun c=> ?_)
 show RunC _ _ _ _ _ [(0,.int .i64 x)] [] []
 refine zi<|zc<|r_pv rfl rfl (zd rfl)<|zj<|ze<|zi<|zc<|r_pv rfl rfl (za rfl)<|r_pv rfl rfl (za rfl)<|r_pv rfl rfl (zKa rfl rfl)<|r_pv rfl rfl (zd rfl)<|zj<|ze<|zI ?_
 exact zE Tryz.results126 () trivial (zo rfl) (by simp) (ho:=(.n:PickO _ _ _)) (.n:SelR _ _ _)
theorem zRb {x:Int}:Con Tryz.prog 133 [.int .u32 x] [] [] (Y:=Unit) (fun y=>True) (fun y=> .bool false) (fun y=>[]) (fun y=>[]):=by
 refine zq Tryz.func133 rfl rfl rfl (fun c=> ?_)
 show RunC _ _ _ _ _ [(0,.int .u32 x)] [] []
 refine zi<|zc<|r_pv rfl rfl (zd rfl)<|zj<|ze<|zi<|zc<|r_pv rfl rfl (za rfl)<|r_pv rfl rfl (za rfl)<|r_pv rfl rfl (zKa rfl rfl)<|r_pv rfl rfl (zd rfl)<|zj<|ze<|zI ?_
 exact zE Tryz.results133 () trivial (zo rfl) (by simp) (ho:=(.n:PickO _ _ _)) (.n:SelR _ _ _)
theorem zqc {u:Int} {v:Int}:Con Tryz.prog 108 [.int .i64 u,.int .i64 v] [] [] (Y:=Unit) (fun y=>True) (fun y=> .int .i64 (Big.cmp u v)) (fun y=>[]) (fun y=>[]):=by
 refine zq Tryz.func108 rfl rfl rfl (fun c=> ?_)
 show RunC _ _ _ _ _ [(0,.int .i64 u),(1,.int .i64 v)] [] []
 refine zi<|zc<|r_pv rfl rfl (zd rfl)<|zj<|ze<|zi<|zc<|r_pv rfl rfl (za rfl)<|zN rfl rfl (.c rfl .n) ce126 (zQb (x:=u)) (.n)<|r_pv rfl rfl (zd rfl)<|zj<|ze<|zi<|zc<|r_pv rfl rfl (za rfl)<|zN rfl rfl (.c rfl .n) ce126 (zQb (x:=v)) (.n)<|r_pv rfl rfl (zd rfl)<|zj<|ze<|zi<|zi<|zc<|r_pv rfl rfl (za rfl)<|zj<|ze<|zZa rfl rfl<|zB<|ze<|zi<|zi<|zc<|r_pv rfl rfl (za rfl)<|zj<|ze<|zZa rfl rfl<|zB<|ze<|zi<|zi<|zc<|r_pv rfl rfl (za rfl)<|r_pv rfl rfl (za rfl)<|r_pv rfl rfl (zda rfl rfl)<|zj<|ze<|zG rfl (fun h1=> ?_) (fun h1=> ?_)
 ·
  refine zi<|zc<|r_pv rfl rfl (zd rfl)<|zj<|ze<|zI<|zp ?_
  exact zE Tryz.results108 () trivial (zo rfl) (by rw [Big.cmp_lt (by omega)]) (ho:=(.n:PickO _ _ _)) (.n:SelR _ _ _)
 ·
  refine zB<|ze<|zi<|zi<|zc<|r_pv rfl rfl (za rfl)<|r_pv rfl rfl (za rfl)<|r_pv rfl rfl (zoa rfl rfl)<|zj<|ze<|zG rfl (fun h2=> ?_) (fun h2=> ?_)
  ·
   refine zi<|zc<|r_pv rfl rfl (zd rfl)<|zj<|ze<|zI<|zp ?_
   exact zE Tryz.results108 () trivial (zo rfl) (by rw [Big.cmp_gt (by omega)]) (ho:=(.n:PickO _ _ _)) (.n:SelR _ _ _)
  ·
   refine zB<|ze<|zi<|zc<|r_pv rfl rfl (zd rfl)<|zj<|ze<|zI ?_
   exact zE Tryz.results108 () trivial (zo rfl) (by rw [show Big.cmp u v=0 by simp [Big.cmp];omega]) (ho:=(.n:PickO _ _ _)) (.n:SelR _ _ _)
theorem zKd {u:Int} {v:Int}:Con Tryz.prog 128 [.int .u32 u,.int .u32 v] [] [] (Y:=Unit) (fun y=>True) (fun y=> .int .i64 (Big.cmp u v)) (fun y=>[]) (fun y=>[]):=by
 refine zq Tryz.func128 rfl rfl rfl (fun c=> ?_)
 show RunC _ _ _ _ _ [(0,.int .u32 u),(1,.int .u32 v)] [] []
 refine zi<|zc<|r_pv rfl rfl (zd rfl)<|zj<|ze<|zi<|zc<|r_pv rfl rfl (za rfl)<|zN rfl rfl (.c rfl .n) ce133 (zRb (x:=u)) (.n)<|r_pv rfl rfl (zd rfl)<|zj<|ze<|zi<|zc<|r_pv rfl rfl (za rfl)<|zN rfl rfl (.c rfl .n) ce133 (zRb (x:=v)) (.n)<|r_pv rfl rfl (zd rfl)<|zj<|ze<|zi<|zi<|zc<|r_pv rfl rfl (za rfl)<|zj<|ze<|zZa rfl rfl<|zB<|ze<|zi<|zi<|zc<|r_pv rfl rfl (za rfl)<|zj<|ze<|zZa rfl rfl<|zB<|ze<|zi<|zi<|zc<|r_pv rfl rfl (za rfl)<|r_pv rfl rfl (za rfl)<|r_pv rfl rfl (zda rfl rfl)<|zj<|ze<|zG rfl (fun h1=> ?_) (fun h1=> ?_)
 ·
  refine zi<|zc<|r_pv rfl rfl (zd rfl)<|zj<|ze<|zI<|zp ?_
  exact zE Tryz.results128 () trivial (zo rfl) (by rw [Big.cmp_lt (by omega)]) (ho:=(.n:PickO _ _ _)) (.n:SelR _ _ _)
 ·
  refine zB<|ze<|zi<|zi<|zc<|r_pv rfl rfl (za rfl)<|r_pv rfl rfl (za rfl)<|r_pv rfl rfl (zoa rfl rfl)<|zj<|ze<|zG rfl (fun h2=> ?_) (fun h2=> ?_)
  ·
   refine zi<|zc<|r_pv rfl rfl (zd rfl)<|zj<|ze<|zI<|zp ?_
   exact zE Tryz.results128 () trivial (zo rfl) (by rw [Big.cmp_gt (by omega)]) (ho:=(.n:PickO _ _ _)) (.n:SelR _ _ _)
  ·
   refine zB<|ze<|zi<|zc<|r_pv rfl rfl (zd rfl)<|zj<|ze<|zI ?_
   exact zE Tryz.results128 () trivial (zo rfl) (by rw [show Big.cmp u v=0 by simp [Big.cmp];omega]) (ho:=(.n:PickO _ _ _)) (.n:SelR _ _ _)
theorem back_u32 {b:Nat} {p:Option Addr} {n cap:Nat} {l:List Int} (hn:l.length=n):Back Tryz.prog 132 [.pointer (some ⟨b,0,none⟩)] [atF b 0 [.slice p n cap],slF (rI .u32) p cap l] n (fun k=>[.int .i64 ((k:Nat):Int),.int .u32 (l.getD k 0)]):=by
  refine back_intro Tryz.func132 rfl rfl rfl (fun l0 c X Y φ ψ OO RR OS RS H x0 hx0=> ?_)
  show RunC _ _ _ _ _ [(0,.func (.yield l0) #[] #[]),(1,.pointer (some ⟨b,0,none⟩))] (OO x0) (atF b 0 [.slice p n cap] :: slF (rI .u32) p cap l :: RR x0)
  refine zY 1 rfl (fun hL=> ?_)
  refine zi<|zc<|r_u rfl rfl (zk (j:=0) 0 ty28 rfl rfl rfl rfl)<|r_pv rfl rfl (zM Tryz.underlying28 rfl)<|r_pv rfl rfl (zaa (z:=(((n:Nat):Int) - 1)) rfl rfl (w64 (by omega)))<|r_pv rfl rfl (zd rfl)<|zj<|ze<|zA<|zve (X:=X×Nat) (fun z=>φ z.1 z.2∧z.2≤n) (fun z=>[(3,.int .i64 (((z.2:Nat):Int) - 1)),(1,.pointer (some ⟨b,0,none⟩)),(0,.func (.yield l0) #[] #[])]) (fun z=>OO z.1) (fun z=>atF b 0 [.slice p n cap] :: slF (rI .u32) p cap l :: RR z.1) (fun z=>z.2) (x0,n) ⟨hx0,Nat.le_refl _⟩ (.c rfl (.c rfl (.c rfl .n)):SubM _ _) (fun w m=>m) ?_
  rintro ⟨x,k⟩ ⟨hx,hk⟩
  dsimp only at hx hk
  try dsimp only
  refine zi<|zi<|zc<|r_pv rfl rfl (za rfl)<|r_pv rfl rfl (zMa rfl rfl)<|zj<|ze<|zG rfl (fun h=> ?_) (fun h=> ?_)
  · refine zB ?_
    refine ze ?_
    obtain ⟨j,rfl⟩:∃j,k=j+1:=⟨k - 1,by omega⟩
    rw [show (((j+1:Nat):Int) - 1)=(j:Int) by omega]
    refine zi<|zA<|zi<|zc<|r_pv rfl rfl (za rfl)<|r_pv rfl rfl (za rfl)<|r_u rfl rfl (zk (j:=0) 0 ty28 rfl rfl rfl rfl)<|r_pv rfl rfl (za rfl)<|zU (x0:=l.getD j 0) 1 j rfl Tryz.underlying28 sz111 rfl rfl rfl hn rfl rfl (gD (d:=0) (by omega)) (fun b2 o3 hok=> ?_)
    refine r_u rfl rfl (zk (j:=0) 0 ty111 rfl rfl rfl rfl)<|zHf (X:=X) (Y:=Y) (φ:=fun x'=>φ x' j) (ψ:=ψ) (OO:=OO) (RR:=fun x'=>[atF b 0 [.slice p n cap],slF (rI .u32) p cap l]++RR x') (OS:=OS) (RS:=RS) (vs:=[.int .i64 ((j:Nat):Int),.int .u32 (l.getD j 0)]) rfl rfl rfl (.c rfl (.c rfl .n)) (fun w m=>H x j w (by omega) hx (m.weaken fun h g s r a=>⟨h,g,s,r.2,Hp.le_refl _,Hp.le_refl _,a,fun _ _ e=> .inl e⟩)) (fun x' hx'=> ?_) (fun y hy=> ?_)
    · refine r_pv rfl rfl (zjb rfl) ?_
      refine zj<|ze<|zZa rfl rfl<|zB<|zT<|ze<|zc<|r_pv rfl rfl (za rfl)<|r_pv rfl rfl (zaa (z:=((j:Int) - 1)) rfl rfl (w64 (by omega)))<|r_pv rfl rfl (zd rfl)<|zj ?_
      exact zGf (x',j) ⟨hx',by show j≤n;omega⟩ (by show j<j+1;omega) (.c rfl (.c rfl (.c rfl .n)):SubM _ _) (fun w m=>m)
    · refine r_pv rfl rfl (zjb rfl) ?_
      refine zj<|ze<|zjf rfl rfl<|zI<|zZ<|zp<|zp<|zZ ?_
      exact zDd rfl y hy (fun w m=>m)
  · have hk0 : k = 0 := by omega
    subst hk0
    refine zja<|zl<|zl<|zu<|p_endI ?_
    exact zCd rfl x hx (fun w m=>m)
theorem zDb {p:Option Addr} {n:Nat} {cap:Nat}:Con Tryz.prog 127 [.slice p n cap] [] [] (Y:=Nat) (fun y=>True) (fun y=> .func (.func 132) #[] #[.pointer (some ⟨y,0,none⟩)]) (fun y=>[]) (fun y=>[atF y 0 [.slice p n cap]]):=by
 refine zq Tryz.func127 rfl rfl rfl (fun c=> ?_)
 show RunC _ _ _ _ _ [(0,.slice p n cap)] [] []
 refine zi<|zc<|zJ rfl rfl (zQ rfl rfl) (fun b1=> ?_)
 refine r_pv rfl rfl (zd rfl)<|zj<|ze<|zi<|zc<|r_pv rfl rfl (zob .n (.c rfl .n))<|r_pv rfl rfl (zd rfl)<|zj<|ze<|zI<|zcd 0 rfl .z ?_
 exact zE Tryz.results127 b1 trivial (zo rfl) rfl (ho:=(.n:PickO _ _ _)) ((.c (j:=0) rfl .n):SelR _ _ _)
theorem zrc {a:Nat} {b:Nat} {p1:Option Addr} {c1:Nat} {p2:Option Addr} {c2:Nat}:Con Tryz.prog 109 [.slice p1 ((Big.digs a).length) c1,.slice p2 ((Big.digs b).length) c2] [] [slF (rI .u32) p1 c1 (Big.digs a),slF (rI .u32) p2 c2 (Big.digs b)] (Y:=Unit) (fun y=>True) (fun y=> .int .i64 (Big.cmp (a:Int) (b:Int))) (fun y=>[]) (fun y=>[]):=by
 refine zVb Tryz.func109 rfl rfl rfl (fun c=> ?_)
 show RunC _ _ _ _ _ [(0,.slice p1 ((Big.digs a).length) c1),(1,.slice p2 ((Big.digs b).length) c2)] [] [slF (rI .u32) p1 c1 (Big.digs a),slF (rI .u32) p2 c2 (Big.digs b)]
 refine zY 0 rfl (fun hL0=> ?_)
 refine zY 1 rfl (fun hL1=> ?_)
 refine zi<|zc<|zJ rfl rfl (zQ rfl rfl) (fun b1=> ?_)
 refine zJ rfl rfl (zw zr3 rfl) (fun b2=> ?_)
 refine zj<|ze<|zi<|zi<|zc<|r_pv rfl rfl (za rfl)<|r_pv rfl rfl (zM Tryz.underlying28 rfl)<|r_u rfl rfl (zh 1 ty28 rfl rfl rfl)<|r_pv rfl rfl (zM Tryz.underlying28 rfl)<|r_pv rfl rfl (zKa rfl rfl)<|zj<|ze<|zG rfl (fun hlen=> ?_) (fun hlen=> ?_)
 ·
  refine zi<|zc<|r_pv rfl rfl (za rfl)<|r_pv rfl rfl (zM Tryz.underlying28 rfl)<|r_u rfl rfl (zh 1 ty28 rfl rfl rfl)<|r_pv rfl rfl (zM Tryz.underlying28 rfl)<|zN rfl rfl (.c rfl (.c rfl .n)) ce108 (zqc (u:=(((Big.digs a).length:Nat):Int)) (v:=(((Big.digs b).length:Nat):Int))) (.n)<|zn 0 rfl rfl rfl rfl rfl sz3 rfl (.take .nil) .z<|zj<|ze<|zI<|zp<|zye ?_
  exact zE Tryz.results109 () trivial (zpb 0 ty3 rfl rfl rfl) (by rw [Big.cmp_len (by omega)]) (ho:=(.n:PickO _ _ _)) (.n:SelR _ _ _)
 ·
  replace hlen:(Big.digs a).length=(Big.digs b).length:=by omega
  refine zB<|ze<|zi<|zi<|zc<|r_pv rfl rfl (za rfl)<|zy rfl rfl (.c rfl .n) ce127 (zDb (p:=p1) (n:=(Big.digs a).length) (cap:=c1)) (.n) ?_
  rintro b3 -
  dsimp only [List.append_eq,List.nil_append,List.cons_append]
  refine zj<|ze<|zA<|zGd (fa:=[atF b3 0 [.slice p1 ((Big.digs a).length) c1],slF (rI .u32) p1 c1 (Big.digs a)]) (N:=((Big.digs a).length)) (encs:=fun k=>[.int .i64 ((k:Nat):Int),.int .u32 ((Big.digs a).getD k 0)]) rfl ce132 (back_u32 (by first|rfl|assumption|(simp_all;done)|omega)) (fun _=>rfl) rfl (X:=Unit) (Y:=Unit) (fun x k=>k≤(Big.digs a).length∧(Big.digs a).drop k=(Big.digs b).drop k) (fun y=>True) (fun x=>[boxA b2 3 [.int .i64 0],boxA b1 28 [.slice p2 ((Big.digs b).length) c2]]) (fun x=>[slF (rI .u32) p2 c2 (Big.digs b)]) (fun y=>[boxA b2 3 [.int .i64 (Big.cmp (a:Int) (b:Int))],boxA b1 28 [.slice p2 ((Big.digs b).length) c2]]) (fun y=>[atF b3 0 [.slice p1 ((Big.digs a).length) c1],slF (rI .u32) p1 c1 (Big.digs a),slF (rI .u32) p2 c2 (Big.digs b)]) (fun k=>[(6,.int .u32 ((Big.digs a).getD k 0)),(5,.int .i64 ((k:Nat):Int)),(20,.int .u32 ((Big.digs a).getD k 0)),(19,.int .i64 ((k:Nat):Int)),(18,.func (.func 132) #[] #[.pointer (some ⟨b3,0,none⟩)]),(17,.slice p1 ((Big.digs a).length) c1),(11,.bool (decide ((((Big.digs a).length:Nat):Int)≠(((Big.digs b).length:Nat):Int)))),(10,.int .i64 (((Big.digs b).length:Nat):Int)),(9,.slice p2 ((Big.digs b).length) c2),(8,.int .i64 (((Big.digs a).length:Nat):Int)),(7,.slice p1 ((Big.digs a).length) c1),(4,.pointer (some ⟨b2,0,none⟩)),(3,.pointer (some ⟨b1,0,none⟩)),(0,.slice p1 ((Big.digs a).length) c1),(1,.slice p2 ((Big.digs b).length) c2)]) () (show ((Big.digs a).length)≤(Big.digs a).length∧(Big.digs a).drop ((Big.digs a).length)=(Big.digs b).drop ((Big.digs a).length) from by exact ⟨Nat.le_refl _,by rw [List.drop_length,hlen,List.drop_length]⟩) (ho:=((.of [0,0] rfl):PickO _ _ _)) ((.of [0,1,2] rfl):SelR _ _ _) ?_ ?_ ?_ ?_
  ·
   intro l k O' R' Q' hP
   refine zi<|zc<|r_pv rfl rfl (zd rfl)<|zj<|ze<|zc<|r_pv rfl rfl (zd rfl)<|zj ?_
   exact hP
  ·
   rintro l4 D5 o6 o7 ⟨⟩ k hkN hI
   replace hI:(k+1)≤(Big.digs a).length∧(Big.digs a).drop (k+1)=(Big.digs b).drop (k+1):=hI
   try dsimp only
   have hg1:=Big.okL_getD (Big.digs_ok a) k
   have hg2:=Big.okL_getD (Big.digs_ok b) k
   refine zA<|zi<|zc<|r_pv rfl rfl (za rfl)<|r_u rfl rfl (zh 3 ty28 rfl rfl rfl)<|r_pv rfl rfl (za rfl)<|zU (x0:=((Big.digs b).getD k 0)) 2 k rfl Tryz.underlying28 sz111 rfl rfl rfl (by first|rfl|assumption|(simp_all;done)|omega) rfl rfl (gD (d:=0) (by omega)) (fun b8 o9 hok10=> ?_)
   replace hok10:=zv.1 hok10
   refine r_u rfl rfl (zk (j:=0) 0 ty111 rfl rfl rfl rfl)<|r_pv rfl rfl (zKa rfl rfl)<|zj<|ze<|zG rfl (fun hne=> ?_) (fun hne=> ?_)
   ·
    refine zi<|zc<|r_pv rfl rfl (za rfl)<|r_u rfl rfl (zh 3 ty28 rfl rfl rfl)<|r_pv rfl rfl (za rfl)<|zU (x0:=((Big.digs b).getD k 0)) 3 k rfl Tryz.underlying28 sz111 rfl rfl rfl (by first|rfl|assumption|(simp_all;done)|omega) rfl rfl (gD (d:=0) (by omega)) (fun b11 o12 hok13=> ?_)
    replace hok13:=zv.1 hok13
    refine r_u rfl rfl (zk (j:=0) 0 ty111 rfl rfl rfl rfl)<|zN rfl rfl (.c rfl (.c rfl .n)) ce128 (zKd (u:=((Big.digs a).getD k 0)) (v:=((Big.digs b).getD k 0))) (.n)<|zn 2 rfl rfl rfl rfl rfl sz3 rfl (.take .nil) (.s (.s .z))<|zj<|ze<|zI<|zZ ?_
    exact zFd () (show True from by first|trivial|omega) (ho:=((.c (i:=0) rfl (.c (i:=0) rfl (.e (i:=0) rfl (by rw [Big.cmp_at hlen (by omega) hI.2 hne]) (.c (i:=0) rfl .n)))):PickO _ _ _)) ((.of [2,3,4] rfl):SelR _ _ _)
   ·
    refine zB<|zT ?_
    exact zEd () (show k≤(Big.digs a).length∧(Big.digs a).drop k=(Big.digs b).drop k from by exact ⟨by omega,Big.drop_more (by omega) (by omega) hI.2 (Decidable.not_not.1 hne)⟩) (ho:=((.of [0,0,0,0] rfl):PickO _ _ _)) ((.of [1,2,3] rfl):SelR _ _ _)
  ·
   rintro D14 ⟨⟩ hI
   replace hI:0≤(Big.digs a).length∧(Big.digs a).drop 0=(Big.digs b).drop 0:=hI
   try dsimp only
   have heq:(Big.digs a)=(Big.digs b):=by simpa using hI.2
   have hab:=Big.cmp_eq heq
   refine zT<|ze<|zi<|zc<|zn 1 rfl rfl rfl rfl rfl sz3 rfl (.take .nil) (.s .z)<|zj<|ze<|zI<|zae 0 rfl rfl ?_
   exact zE Tryz.results109 () trivial (zpb 0 ty3 rfl rfl rfl) (by rw [hab];simp [Big.cmp]) (ho:=(.n:PickO _ _ _)) (.n:SelR _ _ _)
  ·
   rintro D15 ⟨⟩ hS
   replace hS:True:=hS
   try dsimp only
   refine zZ<|zp<|zae 0 rfl rfl ?_
   exact zE Tryz.results109 () trivial (zpb 0 ty3 rfl rfl rfl) rfl (ho:=(.n:PickO _ _ _)) (.n:SelR _ _ _)
theorem zoe {g:Int}:Con Tryz.prog 107 [.int .u32 g] [] [] (Y:=Unit) (fun y=>True) (fun y=> .bool (decide (1000000000≤g))) (fun y=>[]) (fun y=>[]):=by
 refine zq Tryz.func107 rfl rfl rfl (fun c=> ?_)
 show RunC _ _ _ _ _ [(0,.int .u32 g)] [] []
 refine zi<|zc<|r_pv rfl rfl (zd rfl)<|zj<|ze<|zi<|zc<|r_pv rfl rfl (za rfl)<|r_pv rfl rfl (zMa rfl rfl)<|r_pv rfl rfl (zd rfl)<|zj<|ze<|zI ?_
 exact zE Tryz.results107 () trivial (zo rfl) rfl (ho:=(.n:PickO _ _ _)) (.n:SelR _ _ _)
theorem zzc {p:Option Addr} {n:Nat} {cap:Nat} {l:List Int} (hn:l.length=n):Con Tryz.prog 125 [.slice p n cap,.func (.func 107) #[] #[]] [] [slF (rI .u32) p cap l] (Y:=Int) (fun y=>(0≤y↔∃g∈l,1000000000≤g)) (fun y=> .int .i64 y) (fun y=>[]) (fun y=>[]):=by
 refine zq Tryz.func125 rfl rfl rfl (fun c=> ?_)
 show RunC _ _ _ _ _ [(0,.slice p n cap),(1,.func (.func 107) #[] #[])] [] [slF (rI .u32) p cap l]
 refine zY 0 rfl (fun hL0=> ?_)
 refine zi<|zc<|r_pv rfl rfl (zd rfl)<|zj<|ze<|zi<|zi<|zc<|r_pv rfl rfl (za rfl)<|r_pv rfl rfl (zM Tryz.underlying28 rfl)<|r_pv rfl rfl (za rfl)<|zj<|ze<|zA<|zka (X:=Nat) (fun x:Nat=>x≤n∧∀j,j<x→l.getD j 0<1000000000) (fun x=>[(8,.int .i64 ((x:Nat):Int)),(7,.int .i64 ((n:Nat):Int)),(0,.slice p n cap),(1,.func (.func 107) #[] #[])]) (fun x=>[]) (fun x=>[slF (rI .u32) p cap l]) (fun x:Nat=>n - x) 0 (show 0≤n∧∀j,j<0→l.getD j 0<1000000000 from by exact ⟨by omega,fun j h=>by omega⟩) ((.e rfl (by first|rfl|(congr 1;omega)|simp_all) (.of rfl)):SubM _ _) (ho:=(.n:PickO _ _ _)) ((.c (j:=0) rfl .n):SelR _ _ _) ?_
 rintro i hI
 replace hI:i≤n∧∀j,j<i→l.getD j 0<1000000000:=hI
 try dsimp only
 obtain ⟨hi,hall⟩:=hI
 refine zi<|zc<|r_pv rfl rfl (zda rfl rfl)<|zj<|ze<|zi<|zG rfl (fun h1=> ?_) (fun h1=> ?_)
 ·
  refine zB<|ze<|zi<|zA<|zi<|zc<|r_pv rfl rfl (za rfl)<|r_pv rfl rfl (zd rfl)<|zj<|ze<|zi<|zc<|r_pv rfl rfl (za rfl)<|r_pv rfl rfl (za rfl)<|r_pv rfl rfl (za rfl)<|zU (x0:=(l.getD i 0)) 0 i rfl Tryz.underlying28 sz111 rfl rfl rfl (by first|rfl|assumption|(simp_all;done)|omega) rfl rfl (gD (d:=0) (by omega)) (fun b2 o3 hok4=> ?_)
  replace hok4:=zv.1 hok4
  refine r_u rfl rfl (zk (j:=0) 0 ty111 rfl rfl rfl rfl)<|zZc (first:=[]) (cap:=[]) rfl rfl rfl (.c rfl .n) ce107 (zoe (g:=(l.getD i 0))) (.n) ?_
  rintro ⟨⟩ -
  dsimp only [List.append_eq,List.nil_append,List.cons_append]
  refine zj<|ze<|zG rfl (fun hb=> ?_) (fun hb=> ?_)
  ·
   refine zi<|zc<|r_pv rfl rfl (za rfl)<|r_pv rfl rfl (zd rfl)<|zj<|ze<|zI<|zZ<|zp<|zp<|zZ<|zp ?_
   exact zE Tryz.results125 ((i:Nat):Int) (⟨fun _=>⟨l.getD i 0,Big.getD_mem (by omega),hb⟩,fun _=>by omega⟩) (zo rfl) rfl (ho:=(.n:PickO _ _ _)) (.n:SelR _ _ _)
  ·
   refine zB<|zT<|ze<|zc<|r_pv rfl rfl (zx (z:=(((i+1):Nat):Int)) rfl rfl (w64 (by omega)))<|r_pv rfl rfl (za rfl)<|zj<|zha (i+1) (show (i+1)≤n∧∀j,j<(i+1)→l.getD j 0<1000000000 from by refine ⟨by omega,fun j hj=> ?_⟩;by_cases e:j=i;subst e;omega;exact hall j (by omega)) (by show n - (i+1)<n - i;omega) ((.of rfl):SubM _ _) (ho:=(.n:PickO _ _ _)) ((.c (j:=1) rfl .n):SelR _ _ _)
 ·
  refine zja<|zl<|zl<|zu<|ze<|zi<|zc<|r_pv rfl rfl (zd rfl)<|zj<|ze<|zI ?_
  exact zE Tryz.results125 (-1) (⟨fun h=>by omega,fun ⟨g,hg,hb⟩=>by obtain ⟨j,hj,e⟩:=Big.mem_getD hg;have:=hall j (by omega);omega⟩) (zo rfl) rfl (ho:=(.n:PickO _ _ _)) (.n:SelR _ _ _)
theorem zXb {p:Option Addr} {n:Nat} {cap:Nat} {l:List Int} (hn:l.length=n):Con Tryz.prog 106 [.slice p n cap,.func (.func 107) #[] #[]] [] [slF (rI .u32) p cap l] (Y:=Unit) (fun y=>True) (fun y=> .bool (decide (∃g∈l,1000000000≤g))) (fun y=>[]) (fun y=>[]):=by
 refine zq Tryz.func106 rfl rfl rfl (fun c=> ?_)
 show RunC _ _ _ _ _ [(0,.slice p n cap),(1,.func (.func 107) #[] #[])] [] [slF (rI .u32) p cap l]
 refine zY 0 rfl (fun hL0=> ?_)
 refine zi<|zc<|r_pv rfl rfl (zd rfl)<|zj<|ze<|zi<|zc<|r_pv rfl rfl (za rfl)<|r_pv rfl rfl (za rfl)<|zy rfl rfl (.c rfl (.c rfl .n)) ce125 (zzc (p:=p) (n:=n) (cap:=cap) (l:=l) (hn:=by assumption)) (.c (j:=0) rfl .n) ?_
 rintro r1 hr
 dsimp only [List.append_eq,List.nil_append,List.cons_append]
 replace hr:(0≤r1↔∃g∈l,1000000000≤g):=hr
 refine r_pv rfl rfl (zMa rfl rfl)<|r_pv rfl rfl (zd rfl)<|zj<|ze<|zI ?_
 exact zE Tryz.results106 () trivial (zo rfl) (congrArg Value.bool (decide_eq_decide.2 hr.symm)) (ho:=(.n:PickO _ _ _)) (.n:SelR _ _ _)
theorem zsc {s:Bool} {p:Option Addr} {n:Nat} {cap:Nat} {l:List Int} (hn:l.length=n):Con Tryz.prog 81 [.agg #[.bool s,.slice p n cap]] [] [slF (rI .u32) p cap l] (Y:=Unit) (fun y=>True) (fun y=> .bool (decide (Big.canon s l))) (fun y=>[]) (fun y=>[]):=by
 refine zq Tryz.func81 rfl rfl rfl (fun c=> ?_)
 show RunC _ _ _ _ _ [(0,.agg #[.bool s,.slice p n cap])] [] [slF (rI .u32) p cap l]
 refine zY 0 rfl (fun hL0=> ?_)
 refine zi<|zc<|zJ rfl rfl (zQ rfl rfl) (fun b1=> ?_)
 refine r_pv rfl rfl (zd rfl)<|zj<|ze<|zi<|zc<|r_pv rfl rfl (zg Tryz.underlying30 rfl sz28 rfl rfl)<|r_u rfl rfl (zh 0 ty28 rfl rfl rfl)<|r_pv rfl rfl (zM Tryz.underlying28 rfl)<|r_pv rfl rfl (zd rfl)<|zj<|ze<|zi<|zi<|zc<|r_pv rfl rfl (za rfl)<|r_pv rfl rfl (zva rfl rfl)<|zj<|ze<|zG rfl (fun h0=> ?_) (fun h0=> ?_)
 ·
  refine zi<|zc<|r_pv rfl rfl (zg Tryz.underlying30 rfl sz4 rfl rfl)<|r_u rfl rfl (zh 0 ty4 rfl rfl rfl)<|r_pv rfl rfl (zjb rfl)<|r_pv rfl rfl (zd rfl)<|zj<|ze<|zI<|zp ?_
  exact zE Tryz.results81 () trivial (zo rfl) (congrArg Value.bool (by have:l.length=0:=(by omega);cases s <;> simp [Big.canon,this])) (ho:=(.n:PickO _ _ _)) (.n:SelR _ _ _)
 ·
  refine zB<|ze<|zGa (X:=Unit) (fun x=>True) (fun x=>[(2,.bool (decide (((l.getD ((((n:Nat):Int) - 1).toNat) 0)≠0)∧(¬(∃g∈l,1000000000≤g)))))]) (fun x=>[boxA b1 30 [.bool s,.slice p n cap]]) (fun x=>[slF (rI .u32) p cap l]) ?_ ?_
  ·
   refine zc<|r_pv rfl rfl (zg Tryz.underlying30 rfl sz28 rfl rfl)<|r_u rfl rfl (zh 0 ty28 rfl rfl rfl)<|r_pv rfl rfl (za rfl)<|r_pv rfl rfl (zaa (z:=(((n:Nat):Int) - 1)) rfl rfl (w64 (by omega)))<|zU (x0:=(l.getD ((((n:Nat):Int) - 1).toNat) 0)) 0 ((((n:Nat):Int) - 1).toNat) rfl Tryz.underlying28 sz111 rfl rfl rfl (by first|rfl|assumption|(simp_all;done)|omega) rfl (by omega) (gD (d:=0) (by omega)) (fun b2 o3 hok4=> ?_)
   replace hok4:=zv.1 hok4
   refine r_u rfl rfl (zk (j:=0) 0 ty111 rfl rfl rfl rfl)<|r_pv rfl rfl (zKa rfl rfl)<|zP rfl rfl (za rfl) (fun h5=> ?_) (fun h5=> ?_)
   ·
    refine r_pv rfl rfl (zg Tryz.underlying30 rfl sz28 rfl rfl)<|r_u rfl rfl (zh 0 ty28 rfl rfl rfl)<|zN rfl rfl (.c rfl (.c rfl .n)) ce106 (zXb (p:=p) (n:=n) (cap:=cap) (l:=l) (hn:=by assumption)) (.c (j:=1) rfl .n)<|r_pv rfl rfl (zXa rfl)<|r_pv rfl rfl (zm rfl rfl)<|r_pv rfl rfl (zd rfl)<|zj ?_
    exact zca () (show True from by first|trivial|omega|simp_all) ((.e rfl (congrArg Value.bool (by simp_all)) .n):SubM _ _) (ho:=((.c (i:=0) rfl .n):PickO _ _ _)) ((.c (j:=1) rfl .n):SelR _ _ _)
   ·
    refine zb rfl rfl<|zb rfl rfl<|zb rfl rfl<|zb rfl rfl<|r_pv rfl rfl (zm rfl rfl)<|r_pv rfl rfl (zd rfl)<|zj ?_
    exact zca () (show True from by first|trivial|omega|simp_all) ((.e rfl (congrArg Value.bool (by simp_all)) .n):SubM _ _) (ho:=((.c (i:=0) rfl .n):PickO _ _ _)) ((.c (j:=1) rfl .n):SelR _ _ _)
  ·
   rintro ⟨⟩ -
   try dsimp only
   refine zI ?_
   exact zE Tryz.results81 () trivial (zo rfl) (congrArg Value.bool (decide_eq_decide.2 (by rw [Big.canon_more (by omega),hn];have e:((n:Int) - 1).toNat=n - 1:=(by omega);simp [e]))) (ho:=(.n:PickO _ _ _)) (.n:SelR _ _ _)
theorem zRa {s:Bool} {p:Option Addr} {n:Nat} {cap:Nat} {l:List Int} (hn:l.length=n):Con Tryz.prog 103 [.agg #[.bool s,.slice p n cap]] [] [slF (rI .u32) p cap l] (Y:=(Option Addr)×Nat) (fun y=>True) (fun y=> .slice (y.1) ((Big.digs ((Big.raw s l).natAbs)).length) (y.2)) (fun y=>[]) (fun y=>[slF (rI .u32) (y.1) (y.2) (Big.digs ((Big.raw s l).natAbs))]):=by
 refine zq Tryz.func103 rfl rfl rfl (fun c=> ?_)
 show RunC _ _ _ _ _ [(0,.agg #[.bool s,.slice p n cap])] [] [slF (rI .u32) p cap l]
 refine zY 0 rfl (fun hL0=> ?_)
 refine zNa 0 rfl (fun hE0=> ?_)
 have hnn:Big.nn l:=fun g hg=>(zv.1 (hE0 g hg)).1
 refine zi<|zc<|zJ rfl rfl (zQ rfl rfl) (fun b1=> ?_)
 refine r_pv rfl rfl (zd rfl)<|zj<|ze<|zi<|zi<|zc<|r_u rfl rfl (zf 0 ty30 rfl rfl (.take (.take .nil)))<|zN rfl rfl (.c rfl .n) ce81 (zsc (s:=s) (p:=p) (n:=n) (cap:=cap) (l:=l) (hn:=by assumption)) (.c (j:=0) rfl .n)<|r_pv rfl rfl (zXa rfl)<|zj<|ze<|zG rfl (fun hc=> ?_) (fun hc=> ?_)
 ·
  refine zi<|zc<|r_pv rfl rfl (zd rfl)<|zj<|ze<|zI<|zp ?_
  have hd:Big.digs (Big.raw s l).natAbs=[]:=by rw [Big.raw_digs hnn,if_neg hc]
  refine zdd (rI .u32) ?_
  exact zE Tryz.results103 (none,0) trivial (zo rfl) (by rw [hd];rfl) (ho:=(.n:PickO _ _ _)) ((.e (j:=0) rfl (by rw [hd]) .n):SelR _ _ _)
 ·
  refine zB<|ze<|zi<|zc<|r_pv rfl rfl (zg Tryz.underlying30 rfl sz28 rfl rfl)<|r_u rfl rfl (zh 0 ty28 rfl rfl rfl)<|r_pv rfl rfl (zd rfl)<|zj<|ze<|zI ?_
  have hd:Big.digs (Big.raw s l).natAbs=l:=by rw [Big.raw_digs hnn,if_pos (Decidable.not_not.1 hc)]
  exact zE Tryz.results103 (p,cap) trivial (zo rfl) (by rw [hd,hn]) (ho:=(.n:PickO _ _ _)) ((.e (j:=0) rfl (by rw [hd]) .n):SelR _ _ _)
theorem zsb {z:Int} {p:Option Addr} {cap:Nat}:Con Tryz.prog 103 [.agg #[.bool (decide ((z)<0)),.slice (p) ((Big.digs ((z).natAbs)).length) (cap)]] [] [slF (rI .u32) (p) (cap) (Big.digs ((z).natAbs))] (Y:=(Option Addr)×(Nat)) (fun y=>True) (fun y=> .slice (y.1) ((Big.digs ((z).natAbs)).length) (y.2)) (fun y=>[]) (fun y=>[slF (rI .u32) (y.1) (y.2) (Big.digs ((z).natAbs))]):=by
  have h:= @zRa (decide ((z)<0)) p (Big.digs (z).natAbs).length cap (Big.digs (z).natAbs) rfl
  rw [Big.raw_big] at h
  exact h
theorem zof {s:Bool} {p:Option Addr} {n:Nat} {cap:Nat} {l:List Int} (hn:l.length=n) (ho:Big.okL l):Con Tryz.prog 104 [.bool s,.slice p n cap] [] [slF (rI .u32) p cap l] (Y:=(Option Addr)×Nat) (fun y=>True) (fun y=> .agg #[.bool (decide ((Big.sg s (Big.valL l))<0)),.slice (y.1) ((Big.digs ((Big.sg s (Big.valL l)).natAbs)).length) (y.2)]) (fun y=>[]) (fun y=>[slF (rI .u32) (y.1) (y.2) (Big.digs ((Big.sg s (Big.valL l)).natAbs))]):=by
 refine zq Tryz.func104 rfl rfl rfl (fun c=> ?_)
 show RunC _ _ _ _ _ [(0,.bool s),(1,.slice p n cap)] [] [slF (rI .u32) p cap l]
 refine zY 0 rfl (fun hL0=> ?_)
 have htr:Big.trimL l=Big.digs (Big.sg s (Big.valL l)).natAbs:=by rw [Big.sg_abs (Big.valL_nonneg ho),Big.digs_valL ho]
 refine zi<|zc<|zJ rfl rfl (zw zr30 rfl) (fun b1=> ?_)
 refine zj<|ze<|zi<|zc<|r_pv rfl rfl (za rfl)<|zy rfl rfl (.c rfl .n) ce124 (zrb (p:=p) (n:=n) (cap:=cap) (l:=l) (hn:=by assumption)) (.c (j:=0) rfl .n) ?_
 rintro ⟨⟩ -
 dsimp only [List.append_eq,List.nil_append,List.cons_append]
 refine r_pv rfl rfl (zd rfl)<|zj<|ze<|zi<|zi<|zc<|r_pv rfl rfl (za rfl)<|r_pv rfl rfl (zM Tryz.underlying28 rfl)<|r_pv rfl rfl (zva rfl rfl)<|zj<|ze<|zG rfl (fun h0=> ?_) (fun h0=> ?_)
 ·
  refine zi<|zc<|r_pv rfl rfl (zK zr30 rfl Tryz.underlying30 (.c sz4 (.c sz28 .n)) .n .n)<|zn 0 rfl rfl rfl rfl rfl sz30 rfl (.take (.take .nil)) .z<|zj<|ze<|zI<|zp ?_
  have hz:Big.valL l=0:=Big.trim_zero ho (by omega)
  refine zdd (rI .u32) ?_
  exact zE Tryz.results104 (none,0) trivial (zt 0 ty30 rfl rfl (.take (.take .nil))) (by rw [hz,Big.sg_zero];rfl) (ho:=(.n:PickO _ _ _)) ((.e (j:=0) rfl (by rw [hz,Big.sg_zero];rfl) .n):SelR _ _ _)
 ·
  refine zB<|ze<|zi<|zc<|r_pv rfl rfl (za rfl)<|r_pv rfl rfl (za rfl)<|r_pv rfl rfl (zK zr30 rfl Tryz.underlying30 (.c sz4 (.c sz28 .n)) (.c rfl (.c rfl .n)) (.c rfl rfl rfl (.take .nil) (.c rfl rfl rfl (.skip (.take .nil)) .n)))<|zn 0 rfl rfl rfl rfl rfl sz30 rfl (.take (.take .nil)) .z<|zj<|ze<|zI ?_
  have hp:0<Big.valL l:=Big.valL_pos ho (fun e=>h0 (by rw [e];rfl))
  exact zE Tryz.results104 (p,cap) trivial (zt 0 ty30 rfl rfl (.take (.take .nil))) (by rw [Big.sg_pos hp,htr]) (ho:=(.n:PickO _ _ _)) ((.e (j:=0) rfl (by rw [htr]) .n):SelR _ _ _)
theorem zAa {s:Bool} {a:Nat} {p:Option Addr} {cap:Nat}:Con Tryz.prog 104 [.bool (s),.slice (p) ((Big.digs (a)).length) (cap)] [] [slF (rI .u32) (p) (cap) (Big.digs (a))] (Y:=(Option Addr)×(Nat)) (fun y=>True) (fun y=> .agg #[.bool (decide ((Big.sg s (a:Int))<0)),.slice (y.1) ((Big.digs ((Big.sg s (a:Int)).natAbs)).length) (y.2)]) (fun y=>[]) (fun y=>[slF (rI .u32) (y.1) (y.2) (Big.digs ((Big.sg s (a:Int)).natAbs))]):=by
  have h:= @zof s p (Big.digs a).length cap (Big.digs a) rfl (Big.digs_ok a)
  rw [Big.valL_digs] at h
  exact h
theorem zmb {n0:Nat} (hn0:n0<18446744073709551616):Con Tryz.prog 111 [.int .u64 ((n0:Nat):Int)] [] [] (Y:=(Option Addr)×Nat) (fun y=>True) (fun y=> .slice (y.1) ((Big.digs n0).length) (y.2)) (fun y=>[]) (fun y=>[slF (rI .u32) (y.1) (y.2) (Big.digs n0)]):=by
 refine zq Tryz.func111 rfl rfl rfl (fun c=> ?_)
 show RunC _ _ _ _ _ [(0,.int .u64 ((n0:Nat):Int))] [] []
 refine zi<|zc<|r_pv rfl rfl (zd rfl)<|zj<|ze<|zi<|zc<|r_pv rfl rfl (zd rfl)<|zj<|ze<|zi<|zA<|zZd 111 (rI .u32)<|zka (X:=Nat×(Option Addr)×Nat×(List Int)) (fun x:Nat×(Option Addr)×Nat×(List Int)=>x.1≤n0∧x.2.2.2++Big.digs x.1=Big.digs n0) (fun x=>[(3,.slice (x.2.1) (x.2.2.2.length) (x.2.2.1)),(0,.int .u64 ((x.1:Nat):Int)),(2,.slice none 0 0)]) (fun x=>[rowA 111 (rI .u32) (x.2.1) (x.2.2.1) (x.2.2.2)]) (fun x=>[]) (fun x:Nat×(Option Addr)×Nat×(List Int)=>x.1) (n0,none,0,[]) (show n0≤n0∧([])++Big.digs n0=Big.digs n0 from by exact ⟨Nat.le_refl _,rfl⟩) ((.e rfl (by first|rfl|(congr 1;omega)|simp_all) (.c rfl (.c rfl .n))):SubM _ _) (ho:=((.c (i:=0) rfl .n):PickO _ _ _)) (.n:SelR _ _ _) ?_
 rintro ⟨n,p,c,os⟩ hI
 replace hI:n≤n0∧os++Big.digs n=Big.digs n0:=hI
 try dsimp only
 obtain ⟨hnn,hos⟩:=hI
 have hlen:os.length+(Big.digs n).length≤3:=by have:=congrArg List.length hos;rw [List.length_append] at this;have:=Big.zGe hn0;omega
 refine zi<|zi<|zc<|r_pv rfl rfl (za rfl)<|r_pv rfl rfl (zoa rfl rfl)<|zj<|ze<|zG rfl (fun hc=> ?_) (fun hc=> ?_)
 ·
  refine zB<|ze<|zi<|zA<|zc<|r_pv rfl rfl (za rfl)<|r_pv rfl rfl (za rfl)<|r_pv rfl rfl (zWa (z:=(((n%1000000000):Nat):Int)) rfl rfl (by omega) (remN (by omega) (by omega)))<|r_pv rfl rfl (zC (z:=(((n%1000000000):Nat):Int)) rfl (by rw [Tryz.underlying115];rfl) Tryz.underlying111 (wu32 (by omega)))<|zza rfl rfl (zV (enc:=fun z:Int=>[.int .u32 z]) (ok:=InK .u32) (h1:=fun _=>rfl) (h2:=fun _=>rfl) (k:=1) Tryz.underlying28 inf111 rfl (by decide) (by decide) (by decide) (.c (x:=(((n%1000000000):Nat):Int)) rfl rfl (fun _ _=>by exact zv.2 (by omega)) .n)) (fun b1 _=> ?_)
  refine zna 0 rfl .z<|zDa 1 rfl rfl rfl (zxa 0 rfl Tryz.underlying28 inf111 (by decide) rfl rfl (by first|rfl|assumption|(simp_all;done)|omega) rfl (by first|rfl|assumption|(simp_all;done)|omega) (by omega) (by omega)) (fun _=>(.s .z)) ?_
  rintro ⟨p2,c3⟩ -
  dsimp only [List.append_eq,List.nil_append,List.cons_append]
  refine r_pv rfl rfl (zd rfl)<|zj<|zT<|ze<|zc<|r_pv rfl rfl (za rfl)<|r_pv rfl rfl (zVa (z:=(((n / 1000000000):Nat):Int)) rfl rfl (by omega) (by rw [quoN (z:=(((n / 1000000000):Nat):Int)) (by omega) (by omega)];exact wu64 (by omega)))<|r_pv rfl rfl (zd rfl)<|zj<|zha ((n / 1000000000),p2,c3,os++[((n%1000000000:Nat):Int)]) (show (n / 1000000000)≤n0∧(os++[((n%1000000000:Nat):Int)])++Big.digs (n / 1000000000)=Big.digs n0 from by exact ⟨by omega,Big.split_step (by omega) hos⟩) (by show n / 1000000000<n;omega) ((.e rfl (by simp) (.c rfl (.c rfl .n))):SubM _ _) (ho:=((.e (i:=1) rfl (by first|rfl|(congr 1;omega)|simp_all) .n):PickO _ _ _)) (.n:SelR _ _ _)
 ·
  refine zja<|zl<|zl<|zu<|ze<|zi<|zc<|r_pv rfl rfl (za rfl)<|r_pv rfl rfl (zd rfl)<|zj<|ze<|zI ?_
  have hz:n=0:=by omega
  subst hz
  have hd:os=Big.digs n0:=by simpa [Big.digs_zero] using hos
  refine zta 0 rfl .z ?_
  exact zE Tryz.results111 (p,c) trivial (zo rfl) (by rw [hd]) (ho:=(.n:PickO _ _ _)) ((.e (j:=0) rfl (by rw [hd]) .n):SelR _ _ _)
theorem zEf {z:Int} (hz: -9223372036854775808≤z∧z≤9223372036854775807):Con Tryz.prog 84 [.int .i64 z] [] [] (Y:=(Option Addr)×Nat) (fun y=>True) (fun y=> .agg #[.bool (decide (z<0)),.slice (y.1) ((Big.digs ((z).natAbs)).length) (y.2)]) (fun y=>[]) (fun y=>[slF (rI .u32) (y.1) (y.2) (Big.digs ((z).natAbs))]):=by
 refine zq Tryz.func84 rfl rfl rfl (fun c=> ?_)
 show RunC _ _ _ _ _ [(0,.int .i64 z)] [] []
 refine zi<|zc<|zJ rfl rfl (zw zr30 rfl) (fun b1=> ?_)
 refine zj<|ze<|zi<|zc<|r_pv rfl rfl (za rfl)<|r_pv rfl rfl (zC (z:=(z%18446744073709551616)) rfl (by rw [Tryz.underlying3];rfl) Tryz.underlying115 (wu64m (by omega)))<|r_pv rfl rfl (zd rfl)<|zj<|ze<|zi<|zi<|zc<|r_pv rfl rfl (za rfl)<|r_pv rfl rfl (zda rfl rfl)<|zj<|ze<|zG rfl (fun hs=> ?_) (fun hs=> ?_)
 ·
  refine zc<|r_pv rfl rfl (za rfl)<|r_pv rfl rfl (zBc (z:=((z.natAbs:Nat):Int)) rfl (wu64m (by omega)))<|r_pv rfl rfl (zd rfl)<|zj<|ze<|zi<|zc<|r_pv rfl rfl (za rfl)<|r_pv rfl rfl (zda rfl rfl)<|r_pv rfl rfl (za rfl)<|zy rfl rfl (.c rfl .n) ce111 (zmb (n0:=z.natAbs) (hn0:=by omega)) (.n) ?_
  rintro ⟨p22,c23⟩ -
  dsimp only [List.append_eq,List.nil_append,List.cons_append]
  refine zy rfl rfl (.c rfl (.c rfl .n)) ce104 (zAa (s:=decide (z<0)) (a:=z.natAbs) (p:=p22) (cap:=c23)) (.c (j:=0) rfl .n) ?_
  rintro ⟨p24,c25⟩ -
  dsimp only [List.append_eq,List.nil_append,List.cons_append]
  refine zn 0 rfl rfl rfl rfl rfl sz30 rfl (.take (.take .nil)) .z<|zj<|ze<|zI ?_
  have hsg:Big.sg (decide (z<0)) (z.natAbs:Int)=z:=Big.sg_big z
  exact zE Tryz.results84 (p24,c25) trivial (zt 0 ty30 rfl rfl (.take (.take .nil))) (by rw [hsg]) (ho:=(.n:PickO _ _ _)) ((.e (j:=0) rfl (by rw [hsg]) .n):SelR _ _ _)
 ·
  have e6:((z%18446744073709551616):Int)=((z.natAbs:Nat):Int):=by omega
  rw [e6]
  refine zB<|ze<|zi<|zc<|r_pv rfl rfl (za rfl)<|r_pv rfl rfl (zda rfl rfl)<|r_pv rfl rfl (za rfl)<|zy rfl rfl (.c rfl .n) ce111 (zmb (n0:=z.natAbs) (hn0:=by omega)) (.n) ?_
  rintro ⟨p27,c28⟩ -
  dsimp only [List.append_eq,List.nil_append,List.cons_append]
  refine zy rfl rfl (.c rfl (.c rfl .n)) ce104 (zAa (s:=decide (z<0)) (a:=z.natAbs) (p:=p27) (cap:=c28)) (.c (j:=0) rfl .n) ?_
  rintro ⟨p29,c210⟩ -
  dsimp only [List.append_eq,List.nil_append,List.cons_append]
  refine zn 0 rfl rfl rfl rfl rfl sz30 rfl (.take (.take .nil)) .z<|zj<|ze<|zI ?_
  have hsg:Big.sg (decide (z<0)) (z.natAbs:Int)=z:=Big.sg_big z
  exact zE Tryz.results84 (p29,c210) trivial (zt 0 ty30 rfl rfl (.take (.take .nil))) (by rw [hsg]) (ho:=(.n:PickO _ _ _)) ((.e (j:=0) rfl (by rw [hsg]) .n):SelR _ _ _)
theorem zOe {z:Int} (hz: -9223372036854775808≤z∧z≤9223372036854775807):Con Tryz.prog 84 [.int .i64 (z)] [] [] (Y:=(Wd)) (fun y=>True) (fun y=> .agg #[y.b,y.l]) (fun y=>[]) (fun y=>[zF y (z)]):=by
  exact zJb (zEf hz)
theorem zPe {a:Nat} {b:Nat} {p1:Option Addr} {c1:Nat} {p2:Option Addr} {c2:Nat} (hb1:(Big.digs a).length≤1099511627776) (hb2:(Big.digs b).length≤1099511627776) (hab:b≤a):Con Tryz.prog 123 [.slice p1 ((Big.digs a).length) c1,.slice p2 ((Big.digs b).length) c2] [] [slF (rI .u32) p1 c1 (Big.digs a),slF (rI .u32) p2 c2 (Big.digs b)] (Y:=(Option Addr)×Nat) (fun y=>True) (fun y=> .slice (y.1) ((Big.digs (a - b)).length) (y.2)) (fun y=>[]) (fun y=>[slF (rI .u32) (y.1) (y.2) (Big.digs (a - b))]):=by
 refine zq Tryz.func123 rfl rfl rfl (fun c=> ?_)
 show RunC _ _ _ _ _ [(0,.slice p1 ((Big.digs a).length) c1),(1,.slice p2 ((Big.digs b).length) c2)] [] [slF (rI .u32) p1 c1 (Big.digs a),slF (rI .u32) p2 c2 (Big.digs b)]
 refine zY 0 rfl (fun hL0=> ?_)
 refine zY 1 rfl (fun hL1=> ?_)
 refine zi<|zc<|r_pv rfl rfl (zd rfl)<|zj<|ze<|zi<|zc<|r_pv rfl rfl (za rfl)<|r_pv rfl rfl (zM Tryz.underlying28 rfl)<|zza rfl rfl (zIa (r:=rI .u32) (k:=(Big.digs a).length) (x0:=0) (γ0:=()) Tryz.underlying28 inf111 rfl rfl rfl rfl (by omega) (by omega) rfl (fun _ _=>by exact zv.2 (by decide)) (by decide)) (fun b1 _=> ?_)
 refine r_pv rfl rfl (zd rfl)<|zj<|ze<|zi<|zc<|r_pv rfl rfl (zd rfl)<|zj<|ze<|zi<|zi<|zc<|r_pv rfl rfl (za rfl)<|r_pv rfl rfl (zM Tryz.underlying28 rfl)<|r_pv rfl rfl (za rfl)<|zj<|ze<|zA<|zka (X:=Nat×(List Int)×Int) (fun x:Nat×(List Int)×Int=>x.1≤(Big.digs a).length∧x.2.1.length=x.1∧0≤x.2.2∧x.2.2≤1∧Big.okL x.2.1∧Big.valL x.2.1+Big.valL ((Big.digs b).take x.1)=Big.valL ((Big.digs a).take x.1)+Big.pw x.1*x.2.2) (fun x=>[(6,.int .u32 (x.2.2)),(14,.int .i64 ((x.1:Nat):Int)),(13,.int .i64 (((Big.digs a).length:Nat):Int)),(5,.slice (some ⟨b1,0,none⟩) ((Big.digs a).length) ((Big.digs a).length)),(4,.slice none 0 0),(0,.slice p1 ((Big.digs a).length) c1),(1,.slice p2 ((Big.digs b).length) c2)]) (fun x=>[rowA 111 (rI .u32) (some ⟨b1,0,none⟩) ((Big.digs a).length) (x.2.1++List.replicate ((Big.digs a).length - x.1) 0)]) (fun x=>[slF (rI .u32) p1 c1 (Big.digs a),slF (rI .u32) p2 c2 (Big.digs b)]) (fun x:Nat×(List Int)×Int=>(Big.digs a).length - x.1) (0,[],0) (show 0≤(Big.digs a).length∧([]).length=0∧0≤0∧0≤1∧Big.okL ([])∧Big.valL ([])+Big.valL ((Big.digs b).take 0)=Big.valL ((Big.digs a).take 0)+Big.pw 0*0 from by exact ⟨by omega,rfl,by decide,by decide,Big.okL_nil,by simp [Big.valL]⟩) ((.c rfl (.e rfl (by first|rfl|(congr 1;omega)|simp_all) (.of rfl))):SubM _ _) (ho:=((.e (i:=0) rfl (by simp) .n):PickO _ _ _)) ((.of [0,1] rfl):SelR _ _ _) ?_
 rintro ⟨i,os,bo⟩ hI
 replace hI:i≤(Big.digs a).length∧os.length=i∧0≤bo∧bo≤1∧Big.okL os∧Big.valL os+Big.valL ((Big.digs b).take i)=Big.valL ((Big.digs a).take i)+Big.pw i*bo:=hI
 try dsimp only
 obtain ⟨hi,hol,hc0,hc1,hok,hv⟩:=hI
 have hg1:=Big.okL_getD (Big.digs_ok a) i
 have hg2:=Big.okL_getD (Big.digs_ok b) i
 refine zi<|zc<|r_pv rfl rfl (zda rfl rfl)<|zj<|ze<|zi<|zG rfl (fun h2=> ?_) (fun h2=> ?_)
 ·
  refine zB<|ze<|zi<|zA<|zi<|zc<|r_pv rfl rfl (za rfl)<|r_pv rfl rfl (zd rfl)<|zj<|ze<|zi<|zc<|r_pv rfl rfl (za rfl)<|r_pv rfl rfl (za rfl)<|zN rfl rfl (.c rfl (.c rfl .n)) ce131 (zce (p:=p2) (n:=(Big.digs b).length) (cap:=c2) (l:=Big.digs b) (i:=i) (hn:=by first|rfl|assumption|omega|(simp;done)|(simp;omega)|(simp_all;done)) (hi:=by first|rfl|assumption|omega|(simp;done)|(simp;omega)|(simp_all;done))) (.c (j:=1) rfl .n)<|r_pv rfl rfl (za rfl)<|r_pv rfl rfl (zx (z:=((Big.digs b).getD i 0+bo)) rfl rfl (wu32 (by omega)))<|r_pv rfl rfl (zd rfl)<|zj<|ze<|zi<|zc<|r_pv rfl rfl (zd rfl)<|zj<|ze<|zi<|zc<|r_pv rfl rfl (za rfl)<|r_pv rfl rfl (za rfl)<|zU (x0:=((Big.digs a).getD i 0)) 0 i rfl Tryz.underlying28 sz111 rfl rfl rfl (by first|rfl|assumption|(simp;omega)) rfl rfl (gD (d:=0) (by omega)) (fun b3 o4 hok5=> ?_)
  replace hok5:=zv.1 hok5
  refine r_u rfl rfl (zk (j:=0) 0 ty111 rfl rfl rfl rfl)<|r_pv rfl rfl (za rfl)<|r_pv rfl rfl (zda rfl rfl)<|zj<|ze<|zG rfl (fun hc=> ?_) (fun hc=> ?_)
  ·
   refine zc<|r_pv rfl rfl (za rfl)<|r_pv rfl rfl (za rfl)<|r_pv rfl rfl (za rfl)<|r_pv rfl rfl (za rfl)<|zU (x0:=((Big.digs a).getD i 0)) 1 i rfl Tryz.underlying28 sz111 rfl rfl rfl (by first|rfl|assumption|(simp;omega)) rfl rfl (gD (d:=0) (by omega)) (fun b6 o7 hok8=> ?_)
   replace hok8:=zv.1 hok8
   refine r_u rfl rfl (zk (j:=0) 0 ty111 rfl rfl rfl rfl)<|r_pv rfl rfl (zx (z:=(((Big.digs a).getD i 0)+1000000000)) rfl rfl (wu32 (by omega)))<|r_pv rfl rfl (za rfl)<|r_pv rfl rfl (zaa (z:=((((Big.digs a).getD i 0)+1000000000) - ((Big.digs b).getD i 0+bo))) rfl rfl (wu32 (by omega)))<|r_pv rfl rfl (zX (j:=i) Tryz.underlying28 sz111 rfl rfl rfl (by omega))<|zDa 0 rfl rfl rfl (zW (j:=i) (x0:=((((Big.digs a).getD i 0)+1000000000) - ((Big.digs b).getD i 0+bo))) (γ0:=()) rfl rfl (by first|omega|(rw [List.length_map];omega)|(simp only [List.length_set];omega)|(simp;done)|(simp;omega)) rfl rfl sz111 (fun _ _=>by exact zv.2 (by omega))) (fun _=> .z) (fun _ _=> ?_)
   refine r_pv rfl rfl (zd rfl)<|zj<|zT<|ze<|zc<|r_pv rfl rfl (zx (z:=(((i+1):Nat):Int)) rfl rfl (w64 (by omega)))<|r_pv rfl rfl (za rfl)<|zj<|zha ((i+1),os++[(Big.digs a).getD i 0+1000000000 - ((Big.digs b).getD i 0+bo)],1) (show (i+1)≤(Big.digs a).length∧(os++[(Big.digs a).getD i 0+1000000000 - ((Big.digs b).getD i 0+bo)]).length=(i+1)∧0≤1∧1≤1∧Big.okL (os++[(Big.digs a).getD i 0+1000000000 - ((Big.digs b).getD i 0+bo)])∧Big.valL (os++[(Big.digs a).getD i 0+1000000000 - ((Big.digs b).getD i 0+bo)])+Big.valL ((Big.digs b).take (i+1))=Big.valL ((Big.digs a).take (i+1))+Big.pw (i+1)*1 from by exact ⟨by omega,by simp [hol],by decide,by decide,Big.okL_snoc hok (by omega) (by omega),Big.minus_step hol hv (by omega)⟩) (by show (Big.digs a).length - (i+1)<(Big.digs a).length - i;omega) ((.of rfl):SubM _ _) (ho:=((.e (i:=0) rfl (by rw [Big.set_pad hol (by omega)]) .n):PickO _ _ _)) ((.of [2,3] rfl):SelR _ _ _)
  ·
   refine zc<|r_pv rfl rfl (za rfl)<|r_pv rfl rfl (za rfl)<|r_pv rfl rfl (za rfl)<|r_pv rfl rfl (za rfl)<|zU (x0:=((Big.digs a).getD i 0)) 1 i rfl Tryz.underlying28 sz111 rfl rfl rfl (by first|rfl|assumption|(simp;omega)) rfl rfl (gD (d:=0) (by omega)) (fun b9 o10 hok11=> ?_)
   replace hok11:=zv.1 hok11
   refine r_u rfl rfl (zk (j:=0) 0 ty111 rfl rfl rfl rfl)<|r_pv rfl rfl (za rfl)<|r_pv rfl rfl (zaa (z:=(((Big.digs a).getD i 0) - ((Big.digs b).getD i 0+bo))) rfl rfl (wu32 (by omega)))<|r_pv rfl rfl (zX (j:=i) Tryz.underlying28 sz111 rfl rfl rfl (by omega))<|zDa 0 rfl rfl rfl (zW (j:=i) (x0:=(((Big.digs a).getD i 0) - ((Big.digs b).getD i 0+bo))) (γ0:=()) rfl rfl (by first|omega|(rw [List.length_map];omega)|(simp only [List.length_set];omega)|(simp;done)|(simp;omega)) rfl rfl sz111 (fun _ _=>by exact zv.2 (by omega))) (fun _=> .z) (fun _ _=> ?_)
   refine zj<|zT<|ze<|zc<|r_pv rfl rfl (zx (z:=(((i+1):Nat):Int)) rfl rfl (w64 (by omega)))<|r_pv rfl rfl (za rfl)<|zj<|zha ((i+1),os++[(Big.digs a).getD i 0 - ((Big.digs b).getD i 0+bo)],0) (show (i+1)≤(Big.digs a).length∧(os++[(Big.digs a).getD i 0 - ((Big.digs b).getD i 0+bo)]).length=(i+1)∧0≤0∧0≤1∧Big.okL (os++[(Big.digs a).getD i 0 - ((Big.digs b).getD i 0+bo)])∧Big.valL (os++[(Big.digs a).getD i 0 - ((Big.digs b).getD i 0+bo)])+Big.valL ((Big.digs b).take (i+1))=Big.valL ((Big.digs a).take (i+1))+Big.pw (i+1)*0 from by exact ⟨by omega,by simp [hol],by decide,by decide,Big.okL_snoc hok (by omega) (by omega),Big.minus_step hol hv (by omega)⟩) (by show (Big.digs a).length - (i+1)<(Big.digs a).length - i;omega) ((.of rfl):SubM _ _) (ho:=((.e (i:=0) rfl (by rw [Big.set_pad hol (by omega)]) .n):PickO _ _ _)) ((.of [2,3] rfl):SelR _ _ _)
 ·
  have e12:os++List.replicate ((Big.digs a).length - i) 0=os:=by rw [show (Big.digs a).length - i=0 by omega];simp
  rw [e12]
  have htr:Big.trimL os=Big.digs (a - b):=Big.minus_fin hab hok hc0 hol (by omega) hv
  refine zja<|zl<|zl<|zu<|ze<|zi<|zc<|r_pv rfl rfl (za rfl)<|zna 0 rfl .z<|zy rfl rfl (.c rfl .n) ce124 (zrb (p:=some ⟨b1,0,none⟩) (n:=(Big.digs a).length) (cap:=(Big.digs a).length) (l:=os) (hn:=by first|rfl|assumption|omega|(simp;done)|(simp;omega)|(simp_all;done))) (.c (j:=0) rfl .n) ?_
  rintro ⟨⟩ -
  dsimp only [List.append_eq,List.nil_append,List.cons_append]
  refine r_pv rfl rfl (zd rfl)<|zj<|ze<|zI ?_
  exact zE Tryz.results123 ((some ⟨b1,0,none⟩),((Big.digs a).length)) trivial (zo rfl) (by rw [htr]) (ho:=(.n:PickO _ _ _)) ((.e (j:=0) rfl (by rw [htr]) .n):SelR _ _ _)
theorem zld {a:Nat} {b:Nat} {p1:Option Addr} {c1:Nat} {p2:Option Addr} {c2:Nat} (hb1:(Big.digs a).length≤1099511627776) (hb2:(Big.digs b).length≤1099511627776):Con Tryz.prog 105 [.slice p1 ((Big.digs a).length) c1,.slice p2 ((Big.digs b).length) c2] [] [slF (rI .u32) p1 c1 (Big.digs a),slF (rI .u32) p2 c2 (Big.digs b)] (Y:=(Option Addr)×Nat) (fun y=>True) (fun y=> .slice (y.1) ((Big.digs (a*b)).length) (y.2)) (fun y=>[]) (fun y=>[slF (rI .u32) (y.1) (y.2) (Big.digs (a*b))]):=by
 refine zq Tryz.func105 rfl rfl rfl (fun c=> ?_)
 show RunC _ _ _ _ _ [(0,.slice p1 ((Big.digs a).length) c1),(1,.slice p2 ((Big.digs b).length) c2)] [] [slF (rI .u32) p1 c1 (Big.digs a),slF (rI .u32) p2 c2 (Big.digs b)]
 refine zY 0 rfl (fun hL0=> ?_)
 refine zY 1 rfl (fun hL1=> ?_)
 have hoa:=Big.digs_ok a
 have hob:=Big.digs_ok b
 refine zi<|zc<|r_pv rfl rfl (zd rfl)<|zj<|ze<|zi<|zc<|r_pv rfl rfl (za rfl)<|r_pv rfl rfl (zM Tryz.underlying28 rfl)<|r_pv rfl rfl (za rfl)<|r_pv rfl rfl (zM Tryz.underlying28 rfl)<|r_pv rfl rfl (zx (z:=(((((Big.digs a).length)+((Big.digs b).length)):Nat):Int)) rfl rfl (w64 (by omega)))<|zza rfl rfl (zIa (r:=rI .u32) (k:=(((Big.digs a).length)+((Big.digs b).length))) (x0:=0) (γ0:=()) Tryz.underlying28 inf111 rfl rfl rfl rfl (by omega) (by omega) rfl (fun _ _=>by exact zv.2 (by decide)) (by decide)) (fun b1 _=> ?_)
 refine r_pv rfl rfl (zd rfl)<|zj<|ze<|zi<|zi<|zc<|r_pv rfl rfl (za rfl)<|r_pv rfl rfl (zM Tryz.underlying28 rfl)<|r_pv rfl rfl (za rfl)<|zj<|ze<|zA<|zka (X:=Nat×(List Int)) (fun x:Nat×(List Int)=>x.1≤(Big.digs a).length∧x.2.length=(Big.digs a).length+(Big.digs b).length∧Big.okL x.2∧(∀k,x.1+(Big.digs b).length≤k→x.2.getD k 0=0)∧Big.valL x.2=Big.valL ((Big.digs a).take x.1)*Big.valL (Big.digs b)) (fun x=>[(20,.int .i64 ((x.1:Nat):Int)),(19,.int .i64 (((Big.digs a).length:Nat):Int)),(18,.slice p1 ((Big.digs a).length) c1),(5,.slice (some ⟨b1,0,none⟩) (((Big.digs a).length)+((Big.digs b).length)) (((Big.digs a).length)+((Big.digs b).length))),(4,.slice none 0 0),(1,.slice p2 ((Big.digs b).length) c2)]) (fun x=>[rowA 111 (rI .u32) (some ⟨b1,0,none⟩) (((Big.digs a).length)+((Big.digs b).length)) (x.2)]) (fun x=>[slF (rI .u32) p1 c1 (Big.digs a),slF (rI .u32) p2 c2 (Big.digs b)]) (fun x:Nat×(List Int)=>(Big.digs a).length - x.1) (0,List.replicate ((Big.digs a).length+(Big.digs b).length) 0) (show 0≤(Big.digs a).length∧(List.replicate ((Big.digs a).length+(Big.digs b).length) 0).length=(Big.digs a).length+(Big.digs b).length∧Big.okL (List.replicate ((Big.digs a).length+(Big.digs b).length) 0)∧(∀k,0+(Big.digs b).length≤k→(List.replicate ((Big.digs a).length+(Big.digs b).length) 0).getD k 0=0)∧Big.valL (List.replicate ((Big.digs a).length+(Big.digs b).length) 0)=Big.valL ((Big.digs a).take 0)*Big.valL (Big.digs b) from by exact ⟨by omega,by simp,Big.okL_zeros _,fun k _=>Big.getD_zeros _ k,by simp [Big.valL_zeros,Big.valL]⟩) ((.e rfl (by first|rfl|(congr 1;omega)|simp_all) (.of rfl)):SubM _ _) (ho:=((.e (i:=0) rfl (by first|rfl|(congr 1;omega)|simp_all) .n):PickO _ _ _)) ((.of [0,1] rfl):SelR _ _ _) ?_
 rintro ⟨i,os⟩ hI
 replace hI:i≤(Big.digs a).length∧os.length=(Big.digs a).length+(Big.digs b).length∧Big.okL os∧(∀k,i+(Big.digs b).length≤k→os.getD k 0=0)∧Big.valL os=Big.valL ((Big.digs a).take i)*Big.valL (Big.digs b):=hI
 try dsimp only
 obtain ⟨hi,hol,hok,hz,hv⟩:=hI
 have hg1:=Big.okL_getD hoa i
 refine zi<|zc<|r_pv rfl rfl (zda rfl rfl)<|zj<|ze<|zi<|zG rfl (fun h2=> ?_) (fun h2=> ?_)
 ·
  refine zB<|ze<|zi<|zA<|zi<|zc<|r_pv rfl rfl (za rfl)<|zU (x0:=((Big.digs a).getD i 0)) 0 i rfl Tryz.underlying28 sz111 rfl rfl rfl (by first|rfl|assumption|(simp;omega)|omega) rfl rfl (gD (d:=0) (by omega)) (fun b3 o4 hok5=> ?_)
  replace hok5:=zv.1 hok5
  refine r_u rfl rfl (zk (j:=0) 0 ty111 rfl rfl rfl rfl)<|r_pv rfl rfl (zd rfl)<|r_pv rfl rfl (zd rfl)<|zj<|ze<|zi<|zc<|r_pv rfl rfl (zd rfl)<|zj<|ze<|zi<|zi<|zc<|r_pv rfl rfl (za rfl)<|r_pv rfl rfl (zM Tryz.underlying28 rfl)<|r_pv rfl rfl (za rfl)<|zj<|ze<|zA<|zka (X:=Nat×(List Int)×Int) (fun x:Nat×(List Int)×Int=>x.1≤(Big.digs b).length∧x.2.1.length=(Big.digs a).length+(Big.digs b).length∧Big.okL x.2.1∧0≤x.2.2∧x.2.2<1000000000∧(∀k,i+(Big.digs b).length≤k→x.2.1.getD k 0=0)∧Big.valL x.2.1+Big.pw (i+x.1)*x.2.2=Big.valL ((Big.digs a).take i)*Big.valL (Big.digs b)+Big.pw i*(Big.digs a).getD i 0*Big.valL ((Big.digs b).take x.1)) (fun x=>[(8,.int .u64 (x.2.2)),(27,.int .i64 ((x.1:Nat):Int)),(26,.int .i64 (((Big.digs b).length:Nat):Int)),(25,.slice p2 ((Big.digs b).length) c2),(7,.int .u32 ((Big.digs a).getD i 0)),(6,.int .i64 ((i:Nat):Int)),(20,.int .i64 ((i:Nat):Int)),(19,.int .i64 (((Big.digs a).length:Nat):Int)),(18,.slice p1 ((Big.digs a).length) c1),(5,.slice (some ⟨b1,0,none⟩) (((Big.digs a).length)+((Big.digs b).length)) (((Big.digs a).length)+((Big.digs b).length))),(4,.slice none 0 0),(1,.slice p2 ((Big.digs b).length) c2)]) (fun x=>[rowA 111 (rI .u32) (some ⟨b1,0,none⟩) (((Big.digs a).length)+((Big.digs b).length)) (x.2.1)]) (fun x=>[atF b3 o4 [.int .u32 ((Big.digs a).getD i 0)],slF (rI .u32) p1 c1 (Big.digs a),slF (rI .u32) p2 c2 (Big.digs b)]) (fun x:Nat×(List Int)×Int=>(Big.digs b).length - x.1) (0,os,0) (show 0≤(Big.digs b).length∧os.length=(Big.digs a).length+(Big.digs b).length∧Big.okL os∧0≤0∧0<1000000000∧(∀k,i+(Big.digs b).length≤k→os.getD k 0=0)∧Big.valL os+Big.pw (i+0)*0=Big.valL ((Big.digs a).take i)*Big.valL (Big.digs b)+Big.pw i*(Big.digs a).getD i 0*Big.valL ((Big.digs b).take 0) from by exact ⟨by omega,hol,hok,by decide,by decide,hz,by rw [hv];simp [Big.valL]⟩) ((.c rfl (.e rfl (by first|rfl|(congr 1;omega)|simp_all) (.of rfl))):SubM _ _) (ho:=((.c (i:=0) rfl .n):PickO _ _ _)) ((.of [0,1,2] rfl):SelR _ _ _) ?_
  rintro ⟨j,os2,cy⟩ hJ
  replace hJ:j≤(Big.digs b).length∧os2.length=(Big.digs a).length+(Big.digs b).length∧Big.okL os2∧0≤cy∧cy<1000000000∧(∀k,i+(Big.digs b).length≤k→os2.getD k 0=0)∧Big.valL os2+Big.pw (i+j)*cy=Big.valL ((Big.digs a).take i)*Big.valL (Big.digs b)+Big.pw i*(Big.digs a).getD i 0*Big.valL ((Big.digs b).take j):=hJ
  try dsimp only
  obtain ⟨hj,hol2,hok2,hcy0,hcy1,hz2,hv2⟩:=hJ
  have hg2:=Big.okL_getD hob j
  have hg3:=Big.okL_getD hok2 (i+j)
  have hpq:=Big.mul_lim hg1 hg2
  refine zi<|zc<|r_pv rfl rfl (zda rfl rfl)<|zj<|ze<|zi<|zG rfl (fun h6=> ?_) (fun h6=> ?_)
  ·
   refine zB<|ze<|zi<|zA<|zi<|zc<|r_pv rfl rfl (za rfl)<|zU (x0:=((Big.digs b).getD j 0)) 2 j rfl Tryz.underlying28 sz111 rfl rfl rfl (by first|rfl|assumption|(simp;omega)|omega) rfl rfl (gD (d:=0) (by omega)) (fun b7 o8 hok9=> ?_)
   replace hok9:=zv.1 hok9
   refine r_u rfl rfl (zk (j:=0) 0 ty111 rfl rfl rfl rfl)<|r_pv rfl rfl (zd rfl)<|r_pv rfl rfl (zd rfl)<|zj<|ze<|zi<|zc<|r_pv rfl rfl (za rfl)<|r_pv rfl rfl (za rfl)<|r_pv rfl rfl (za rfl)<|r_pv rfl rfl (zx (z:=(((i+j):Nat):Int)) rfl rfl (w64 (by omega)))<|r_pv rfl rfl (zX (j:=(i+j)) Tryz.underlying28 sz111 rfl rfl rfl (by omega))<|r_vl rfl rfl (zfa 0 (i+j) rfl ty111 rfl rfl (gD (d:=0) (by omega)) rfl) (fun _ hok10=> ?_)
   replace hok10:=zv.1 hok10
   refine r_pv rfl rfl (zC (z:=(os2.getD (i+j) 0)) rfl (by rw [Tryz.underlying111];rfl) Tryz.underlying115 (wu64 (by omega)))<|r_pv rfl rfl (za rfl)<|r_pv rfl rfl (zC (z:=((Big.digs a).getD i 0)) rfl (by rw [Tryz.underlying111];rfl) Tryz.underlying115 (wu64 (by omega)))<|r_pv rfl rfl (za rfl)<|r_pv rfl rfl (zC (z:=((Big.digs b).getD j 0)) rfl (by rw [Tryz.underlying111];rfl) Tryz.underlying115 (wu64 (by omega)))<|r_pv rfl rfl (zpa (z:=(((Big.digs a).getD i 0)*((Big.digs b).getD j 0))) rfl rfl (wu64 (by omega)))<|r_pv rfl rfl (zx (z:=((os2.getD (i+j) 0)+(((Big.digs a).getD i 0)*((Big.digs b).getD j 0)))) rfl rfl (wu64 (by omega)))<|r_pv rfl rfl (za rfl)<|r_pv rfl rfl (zx (z:=(((os2.getD (i+j) 0)+(((Big.digs a).getD i 0)*((Big.digs b).getD j 0)))+cy)) rfl rfl (wu64 (by omega)))<|r_pv rfl rfl (zd rfl)<|zj<|ze<|zc<|r_pv rfl rfl (za rfl)<|r_pv rfl rfl (za rfl)<|r_pv rfl rfl (za rfl)<|r_pv rfl rfl (zx (z:=(((i+j):Nat):Int)) rfl rfl (w64 (by omega)))<|r_pv rfl rfl (za rfl)<|r_pv rfl rfl (zWa (z:=((((os2.getD (i+j) 0)+(((Big.digs a).getD i 0)*((Big.digs b).getD j 0)))+cy)%1000000000)) rfl rfl (by omega) (remN (by omega) (by omega)))<|r_pv rfl rfl (zC (z:=((((os2.getD (i+j) 0)+(((Big.digs a).getD i 0)*((Big.digs b).getD j 0)))+cy)%1000000000)) rfl (by rw [Tryz.underlying115];rfl) Tryz.underlying111 (wu32 (by omega)))<|r_pv rfl rfl (za rfl)<|r_pv rfl rfl (zVa (z:=((((os2.getD (i+j) 0)+(((Big.digs a).getD i 0)*((Big.digs b).getD j 0)))+cy) / 1000000000)) rfl rfl (by omega) (by rw [quoN (z:=((((os2.getD (i+j) 0)+(((Big.digs a).getD i 0)*((Big.digs b).getD j 0)))+cy) / 1000000000)) (by omega) (by omega)];exact wu64 (by omega)))<|r_pv rfl rfl (zX (j:=(i+j)) Tryz.underlying28 sz111 rfl rfl rfl (by omega))<|zDa 0 rfl rfl rfl (zW (j:=(i+j)) (x0:=((((os2.getD (i+j) 0)+(((Big.digs a).getD i 0)*((Big.digs b).getD j 0)))+cy)%1000000000)) (γ0:=()) rfl rfl (by first|omega|(rw [List.length_map];omega)|(simp only [List.length_set];omega)|(simp;done)|(simp;omega)) rfl rfl sz111 (fun _ _=>by exact zv.2 (by omega))) (fun _=> .z) (fun _ _=> ?_)
   refine r_pv rfl rfl (zd rfl)<|zj<|zT<|ze<|zc<|r_pv rfl rfl (zx (z:=(((j+1):Nat):Int)) rfl rfl (w64 (by omega)))<|r_pv rfl rfl (za rfl)<|zj<|zha ((j+1),os2.set (i+j) ((os2.getD (i+j) 0+(Big.digs a).getD i 0*(Big.digs b).getD j 0+cy)%1000000000),(os2.getD (i+j) 0+(Big.digs a).getD i 0*(Big.digs b).getD j 0+cy) / 1000000000) (show (j+1)≤(Big.digs b).length∧(os2.set (i+j) ((os2.getD (i+j) 0+(Big.digs a).getD i 0*(Big.digs b).getD j 0+cy)%1000000000)).length=(Big.digs a).length+(Big.digs b).length∧Big.okL (os2.set (i+j) ((os2.getD (i+j) 0+(Big.digs a).getD i 0*(Big.digs b).getD j 0+cy)%1000000000))∧0≤((os2.getD (i+j) 0+(Big.digs a).getD i 0*(Big.digs b).getD j 0+cy) / 1000000000)∧((os2.getD (i+j) 0+(Big.digs a).getD i 0*(Big.digs b).getD j 0+cy) / 1000000000)<1000000000∧(∀k,i+(Big.digs b).length≤k→(os2.set (i+j) ((os2.getD (i+j) 0+(Big.digs a).getD i 0*(Big.digs b).getD j 0+cy)%1000000000)).getD k 0=0)∧Big.valL (os2.set (i+j) ((os2.getD (i+j) 0+(Big.digs a).getD i 0*(Big.digs b).getD j 0+cy)%1000000000))+Big.pw (i+(j+1))*((os2.getD (i+j) 0+(Big.digs a).getD i 0*(Big.digs b).getD j 0+cy) / 1000000000)=Big.valL ((Big.digs a).take i)*Big.valL (Big.digs b)+Big.pw i*(Big.digs a).getD i 0*Big.valL ((Big.digs b).take (j+1)) from by exact ⟨by omega,by simpa using hol2,Big.okL_set hok2 (by omega) (by omega),by omega,by omega,fun k hk=>by rw [Big.getD_set_ne (by omega)];exact hz2 k (by omega),Big.mul_step hv2 (by omega) (by omega)⟩) (by show (Big.digs b).length - (j+1)<(Big.digs b).length - j;omega) ((.e rfl (by first|rfl|(congr 1;omega)|simp_all) (.of rfl)):SubM _ _) (ho:=((.e (i:=0) rfl (by first|rfl|(congr 1;omega)|simp_all) .n):PickO _ _ _)) ((.of [1,2,3] rfl):SelR _ _ _)
  ·
   have hjb:j=(Big.digs b).length:=by omega
   subst hjb
   have hv3:=hv2
   refine zja<|zl<|zl<|zu<|ze<|zc<|r_pv rfl rfl (za rfl)<|r_pv rfl rfl (za rfl)<|r_pv rfl rfl (za rfl)<|r_pv rfl rfl (zM Tryz.underlying28 rfl)<|r_pv rfl rfl (zx (z:=(((i+((Big.digs b).length)):Nat):Int)) rfl rfl (w64 (by omega)))<|r_pv rfl rfl (za rfl)<|r_pv rfl rfl (zC (z:=cy) rfl (by rw [Tryz.underlying115];rfl) Tryz.underlying111 (wu32 (by omega)))<|r_pv rfl rfl (zX (j:=(i+((Big.digs b).length))) Tryz.underlying28 sz111 rfl rfl rfl (by omega))<|zDa 0 rfl rfl rfl (zW (j:=(i+((Big.digs b).length))) (x0:=cy) (γ0:=()) rfl rfl (by first|omega|(rw [List.length_map];omega)|(simp only [List.length_set];omega)|(simp;done)|(simp;omega)) rfl rfl sz111 (fun _ _=>by exact zv.2 (by omega))) (fun _=> .z) (fun _ _=> ?_)
   refine zj<|zT<|ze<|zc<|r_pv rfl rfl (zx (z:=(((i+1):Nat):Int)) rfl rfl (w64 (by omega)))<|r_pv rfl rfl (za rfl)<|zj<|zha ((i+1),os2.set (i+(Big.digs b).length) cy) (show (i+1)≤(Big.digs a).length∧(os2.set (i+(Big.digs b).length) cy).length=(Big.digs a).length+(Big.digs b).length∧Big.okL (os2.set (i+(Big.digs b).length) cy)∧(∀k,(i+1)+(Big.digs b).length≤k→(os2.set (i+(Big.digs b).length) cy).getD k 0=0)∧Big.valL (os2.set (i+(Big.digs b).length) cy)=Big.valL ((Big.digs a).take (i+1))*Big.valL (Big.digs b) from by exact ⟨by omega,by simpa using hol2,Big.okL_set hok2 (by omega) (by omega),fun k hk=>by rw [Big.getD_set_ne (by omega)];exact hz2 k (by omega),Big.mul_round hv3 (by omega) (hz2 _ (Nat.le_refl _))⟩) (by show (Big.digs a).length - (i+1)<(Big.digs a).length - i;omega) ((.of rfl):SubM _ _) (ho:=((.e (i:=0) rfl (by first|rfl|(congr 1;omega)|simp_all) .n):PickO _ _ _)) ((.of [1,2] rfl):SelR _ _ _)
 ·
  have hia:i=(Big.digs a).length:=by omega
  have hfin:Big.trimL os=Big.digs (a*b):=Big.trimL_of hok (by rw [hv,hia,List.take_length,Big.valL_digs,Big.valL_digs,Int.natCast_mul])
  refine zja<|zl<|zl<|zu<|ze<|zi<|zc<|r_pv rfl rfl (za rfl)<|zna 0 rfl .z<|zy rfl rfl (.c rfl .n) ce124 (zrb (p:=some ⟨b1,0,none⟩) (n:=(((Big.digs a).length)+((Big.digs b).length))) (cap:=(((Big.digs a).length)+((Big.digs b).length))) (l:=os) (hn:=by first|rfl|assumption|omega|(simp;done)|(simp;omega)|(simp_all;done))) (.c (j:=0) rfl .n) ?_
  rintro ⟨⟩ -
  dsimp only [List.append_eq,List.nil_append,List.cons_append]
  refine r_pv rfl rfl (zd rfl)<|zj<|ze<|zI ?_
  exact zE Tryz.results105 ((some ⟨b1,0,none⟩),(((Big.digs a).length)+((Big.digs b).length))) trivial (zo rfl) (by rw [hfin]) (ho:=(.n:PickO _ _ _)) ((.e (j:=0) rfl (by rw [hfin]) .n):SelR _ _ _)
theorem zde {s:Bool} {p:Option Addr} {n:Nat} {cap:Nat} {l:List Int} (hn:l.length=n):Con Tryz.prog 79 [.agg #[.bool s,.slice p n cap]] [] [slF (rI .u32) p cap l] (Y:=Unit) (fun y=>True) (fun y=> .int .i64 ((Big.raw s l).sign)) (fun y=>[]) (fun y=>[]):=by
 refine zq Tryz.func79 rfl rfl rfl (fun c=> ?_)
 show RunC _ _ _ _ _ [(0,.agg #[.bool s,.slice p n cap])] [] [slF (rI .u32) p cap l]
 refine zY 0 rfl (fun hL0=> ?_)
 refine zNa 0 rfl (fun hE0=> ?_)
 have hnn:Big.nn l:=fun g hg=>(zv.1 (hE0 g hg)).1
 refine zi<|zc<|zJ rfl rfl (zQ rfl rfl) (fun b1=> ?_)
 refine r_pv rfl rfl (zd rfl)<|zj<|ze<|zi<|zA<|zi<|zc<|r_u rfl rfl (zf 0 ty30 rfl rfl (.take (.take .nil)))<|zy rfl rfl (.c rfl .n) ce103 (zRa (s:=s) (p:=p) (n:=n) (cap:=cap) (l:=l) (hn:=by assumption)) (.c (j:=0) rfl .n) ?_
 rintro ⟨p22,c23⟩ -
 dsimp only [List.append_eq,List.nil_append,List.cons_append]
 refine r_pv rfl rfl (zM Tryz.underlying28 rfl)<|r_pv rfl rfl (zva rfl rfl)<|r_pv rfl rfl (zd rfl)<|zj<|ze<|zG rfl (fun h0=> ?_) (fun h0=> ?_)
 ·
  refine zi<|zc<|r_pv rfl rfl (zd rfl)<|zj<|ze<|zI<|zZ<|zp ?_
  exact zE Tryz.results79 () trivial (zo rfl) (by rw [show Big.raw s l=0 by have:=Big.len_digs_nil.1 (show (Big.digs (Big.raw s l).natAbs).length=0 by omega);omega];rfl) (ho:=(.n:PickO _ _ _)) (.n:SelR _ _ _)
 ·
  refine zi<|zc<|r_pv rfl rfl (zg Tryz.underlying30 rfl sz4 rfl rfl)<|r_u rfl rfl (zh 0 ty4 rfl rfl rfl)<|r_pv rfl rfl (zd rfl)<|zj<|ze<|zyb rfl (fun hs=> ?_) (fun hs=> ?_)
  ·
   refine zi<|zc<|r_pv rfl rfl (zd rfl)<|zj<|ze<|zI<|zZ<|zp ?_
   exact zE Tryz.results79 () trivial (zo rfl) (by rw [Big.sign_neg hnn hs (by intro e;rw [e] at h0;exact h0 rfl)]) (ho:=(.n:PickO _ _ _)) (.n:SelR _ _ _)
  ·
   refine zB<|zT<|ze<|zi<|zc<|r_pv rfl rfl (zd rfl)<|zj<|ze<|zI ?_
   exact zE Tryz.results79 () trivial (zo rfl) (by rw [Big.sign_pos hnn hs (by intro e;rw [e] at h0;exact h0 rfl)]) (ho:=(.n:PickO _ _ _)) (.n:SelR _ _ _)
theorem ztc {z:Int} {p:Option Addr} {cap:Nat}:Con Tryz.prog 79 [.agg #[.bool (decide ((z)<0)),.slice (p) ((Big.digs ((z).natAbs)).length) (cap)]] [] [slF (rI .u32) (p) (cap) (Big.digs ((z).natAbs))] (Y:=Unit) (fun y=>True) (fun y=> .int .i64 ((z).sign)) (fun y=>[]) (fun y=>[]):=by
  have h:= @zde (decide ((z)<0)) p (Big.digs (z).natAbs).length cap (Big.digs (z).natAbs) rfl
  rw [Big.raw_big] at h
  exact h
theorem zmd {w1:Wd} {x1:Int}:Con Tryz.prog 79 [.agg #[w1.b,w1.l]] [] [zF w1 (x1)] (Y:=Unit) (fun y=>True) (fun y=> .int .i64 ((x1).sign)) (fun y=>[]) (fun y=>[]):=by
  exact zid (fun p c=>ztc)
theorem zOf {s:Bool} {p1:Option Addr} {n1:Nat} {c1:Nat} {l1:List Int} {t:Bool} {p2:Option Addr} {n2:Nat} {c2:Nat} {l2:List Int} (hn1:l1.length=n1) (hn2:l2.length=n2) (hb1:Big.ln (Big.raw s l1)≤1099511627776) (hb2:Big.ln (Big.raw t l2)≤1099511627776):Con Tryz.prog 77 [.agg #[.bool s,.slice p1 n1 c1],.agg #[.bool t,.slice p2 n2 c2]] [] [slF (rI .u32) p1 c1 l1,slF (rI .u32) p2 c2 l2] (Y:=(Option Addr)×Nat) (fun y=>True) (fun y=> .agg #[.bool (decide ((Big.raw s l1*Big.raw t l2)<0)),.slice (y.1) ((Big.digs ((Big.raw s l1*Big.raw t l2).natAbs)).length) (y.2)]) (fun y=>[]) (fun y=>[slF (rI .u32) (y.1) (y.2) (Big.digs ((Big.raw s l1*Big.raw t l2).natAbs))]):=by
 refine zq Tryz.func77 rfl rfl rfl (fun c=> ?_)
 show RunC _ _ _ _ _ [(0,.agg #[.bool s,.slice p1 n1 c1]),(1,.agg #[.bool t,.slice p2 n2 c2])] [] [slF (rI .u32) p1 c1 l1,slF (rI .u32) p2 c2 l2]
 refine zY 0 rfl (fun hL0=> ?_)
 refine zNa 0 rfl (fun hE0=> ?_)
 refine zY 1 rfl (fun hL1=> ?_)
 refine zNa 1 rfl (fun hE1=> ?_)
 have hnn1:Big.nn l1:=fun g hg=>(zv.1 (hE0 g hg)).1
 have hnn2:Big.nn l2:=fun g hg=>(zv.1 (hE1 g hg)).1
 refine zi<|zc<|zJ rfl rfl (zQ rfl rfl) (fun b1=> ?_)
 refine zJ rfl rfl (zQ rfl rfl) (fun b2=> ?_)
 refine zJ rfl rfl (zw zr30 rfl) (fun b3=> ?_)
 refine zj<|ze<|zi<|zea (OW:=[boxA b3 30 [.bool false,.slice none 0 0]]) (O:=[boxA b2 30 [.bool t,.slice p2 n2 c2],boxA b1 30 [.bool s,.slice p1 n1 c1]]) 11 mixed (.then .ret) (by kernel_rfl)<|d_pv 0 rfl rfl (by kernel_rfl) (by kernel_rfl) rfl rfl (zg Tryz.underlying30 rfl sz4 rfl rfl)<|d_uw 1 rfl rfl (by kernel_rfl) (by kernel_rfl) (by kernel_rfl) rfl rfl (zh 2 ty4 rfl rfl rfl)<|d_pv 2 rfl rfl (by kernel_rfl) (by kernel_rfl) rfl rfl (zg Tryz.underlying30 rfl sz4 rfl rfl)<|d_uw 3 rfl rfl (by kernel_rfl) (by kernel_rfl) (by kernel_rfl) rfl rfl (zh 1 ty4 rfl rfl rfl)<|d_pv 4 rfl rfl (by kernel_rfl) (by kernel_rfl) rfl rfl (zFa Tryz.underlying4 rfl rfl)<|d_uw 5 rfl rfl (by kernel_rfl) (by kernel_rfl) (by kernel_rfl) rfl rfl (zf 2 ty30 rfl rfl (.take (.take .nil)))<|d_uw 7 rfl rfl (by kernel_rfl) (by kernel_rfl) (by kernel_rfl) rfl rfl (zf 1 ty30 rfl rfl (.take (.take .nil)))<|zL 6 (by kernel_rfl) (zH rfl rfl rfl rfl (.c rfl .n) ce103 (zRa (s:=s) (p:=p1) (n:=n1) (cap:=c1) (l:=l1) (hn:=by assumption)) (.c (j:=0) rfl .n) ?_)
 rintro ⟨p24,c25⟩ -
 dsimp only [List.append_eq,List.nil_append,List.cons_append]
 refine zL 8 (by kernel_rfl) (zH rfl rfl rfl rfl (.c rfl .n) ce103 (zRa (s:=t) (p:=p2) (n:=n2) (cap:=c2) (l:=l2) (hn:=by assumption)) (.c (j:=2) rfl .n) ?_)
 rintro ⟨p26,c27⟩ -
 dsimp only [List.append_eq,List.nil_append,List.cons_append]
 refine zL 9 (by kernel_rfl) (zH rfl rfl rfl rfl (.c rfl (.c rfl .n)) ce105 (zld (a:=(Big.raw s l1).natAbs) (b:=(Big.raw t l2).natAbs) (p1:=p24) (c1:=c25) (p2:=p26) (c2:=c27) (hb1:=by first|rfl|assumption|omega|(simp;done)|(simp;omega)|(simp_all;done)) (hb2:=by first|rfl|assumption|omega|(simp;done)|(simp;omega)|(simp_all;done))) (.c (j:=1) rfl (.c (j:=0) rfl .n)) ?_)
 rintro ⟨p38,c39⟩ -
 dsimp only [List.append_eq,List.nil_append,List.cons_append]
 refine zL 10 (by kernel_rfl) (zH rfl rfl rfl rfl (.c rfl (.c rfl .n)) ce104 (zAa (s:=decide (s≠t)) (a:=((Big.raw s l1).natAbs)*((Big.raw t l2).natAbs)) (p:=p38) (cap:=c39)) (.c (j:=0) rfl .n) ?_)
 rintro ⟨p210,c211⟩ -
 dsimp only [List.append_eq,List.nil_append,List.cons_append]
 refine zL 11 (by kernel_rfl) (zD (by kernel_rfl) rfl rfl rfl rfl rfl sz30 rfl (.take (.take .nil)) ?_)
 refine zba (by kernel_rfl)<|ze<|zI ?_
 have hz:Big.sg (decide (s≠t)) (((Big.raw s l1).natAbs*(Big.raw t l2).natAbs:Nat):Int)=Big.raw s l1*Big.raw t l2:=by rw [Big.sg_mul,Big.sg_raw hnn1,Big.sg_raw hnn2]
 exact zE Tryz.results77 (p210,c211) trivial (zt 0 ty30 rfl rfl (.take (.take .nil))) (by rw [hz]) (ho:=(.n:PickO _ _ _)) ((.e (j:=0) rfl (by rw [hz]) .n):SelR _ _ _)
theorem zpf {x1:Int} {x2:Int} {p1:Option Addr} {c1:Nat} {p2:Option Addr} {c2:Nat} (hb1:Big.ln x1≤1099511627776) (hb2:Big.ln x2≤1099511627776):Con Tryz.prog 77 [.agg #[.bool (decide ((x1)<0)),.slice (p1) ((Big.digs ((x1).natAbs)).length) (c1)],.agg #[.bool (decide ((x2)<0)),.slice (p2) ((Big.digs ((x2).natAbs)).length) (c2)]] [] [slF (rI .u32) (p1) (c1) (Big.digs ((x1).natAbs)),slF (rI .u32) (p2) (c2) (Big.digs ((x2).natAbs))] (Y:=(Option Addr)×(Nat)) (fun y=>True) (fun y=> .agg #[.bool (decide ((x1*x2)<0)),.slice (y.1) ((Big.digs ((x1*x2).natAbs)).length) (y.2)]) (fun y=>[]) (fun y=>[slF (rI .u32) (y.1) (y.2) (Big.digs ((x1*x2).natAbs))]):=by
  have h:= @zOf (decide ((x1)<0)) p1 (Big.digs (x1).natAbs).length c1 (Big.digs (x1).natAbs) (decide ((x2)<0)) p2 (Big.digs (x2).natAbs).length c2 (Big.digs (x2).natAbs) rfl rfl (by rw [Big.raw_big];exact hb1) (by rw [Big.raw_big];exact hb2)
  rw [Big.raw_big,Big.raw_big] at h
  exact h
theorem zGb {w1:Wd} {w2:Wd} {x1:Int} {x2:Int} (hb1:Big.ln x1≤1099511627776) (hb2:Big.ln x2≤1099511627776):Con Tryz.prog 77 [.agg #[w1.b,w1.l],.agg #[w2.b,w2.l]] [] [zF w1 (x1),zF w2 (x2)] (Y:=(Wd)) (fun y=>True) (fun y=> .agg #[y.b,y.l]) (fun y=>[]) (fun y=>[zF y (x1*x2)]):=by
  exact zJb (zcc (fun p1 c1 p2 c2=>zpf hb1 hb2))
end Go.Proofs.YtkamccndgblheaaGreat.Sp
