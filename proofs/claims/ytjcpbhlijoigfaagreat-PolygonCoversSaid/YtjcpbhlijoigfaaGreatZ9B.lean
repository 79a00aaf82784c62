/- Lemmas on the walk and plain lemmas that the claim of this folder uses; each states its own conditions. Lines were printed by a program of ours. -/
import Derived.Test.YtjcpbhlijoigfaaGreatZ9A
set_option linter.unusedVariables false
set_option linter.unusedSimpArgs false
set_option linter.unusedSectionVars false
open Go.Proofs.Tryz renaming underlying30 → ya, underlying22 → yb, underlying98 → yc, underlying96 → yd, prog → ye, results15 → yg, results17 → yh, results76 → yi
open Go.Proofs.YtjcpbhlijoigfaaGreat.Big renaming digs → yf
namespace Go.Proofs.YtjcpbhlijoigfaaGreat.Big
theorem getD_set_ne {l:List Int} {k j:Nat} (h:j≠k) (d:Int):(l.set k d).getD j 0=l.getD j 0:=by
  simp [List.getD,List.getElem?_set_ne (Ne.symm h)]
theorem valL_set:∀{l:List Int} {k:Nat} (d:Int),k<l.length→valL (l.set k d)=valL l+pw k*(d - l.getD k 0)
  |[],_,_,h=>by simp at h
  |x :: l,0,d,_=>by simp [valL,pw_zero];omega
  |x :: l,k+1,d,h=>by
    have:=valL_set (l:=l) (k:=k) d (by simpa using h)
    simp only [List.set_cons_succ,valL,this,pw_succ,List.getD_cons_succ]
    rw [Int.mul_add,Int.mul_assoc];omega
theorem okL_set {l:List Int} (h:okL l) {k:Nat} {d:Int} (h0:0≤d) (h1:d<1000000000):okL (l.set k d):=fun x hx=>by
  rcases List.mem_or_eq_of_mem_set hx with hx|rfl
  · exact h x hx
  · exact ⟨h0,h1⟩
theorem okL_zeros (n:Nat):okL (List.replicate n 0):=fun d hd=>by
  have:=(List.mem_replicate.1 hd).2;subst this;omega
theorem getD_zeros (n k:Nat):(List.replicate n (0:Int)).getD k 0=0:=by
  simp [List.getD,List.getElem?_replicate];split <;> rfl
theorem digs_low:∀{k:Nat} {n:Nat},k<(digs n).length→pw k≤(n:Int):=by
  intro k
  induction k with
  | zero => intro n h; rw [pw_zero]; have : n ≠ 0 := fun e => by subst e; simp [digs_zero] at h
            omega
  |succ k ih=>
    intro n h
    have hn:n≠0:=fun e=>by subst e;simp [digs_zero] at h
    rw [digs_pos hn,List.length_cons] at h
    have:=ih (n:=n / 1000000000) (by omega)
    rw [pw_succ];omega
theorem digs_lt (n:Nat):(n:Int)<pw (digs n).length:=by
  have:=valL_lt (digs_ok n);rwa [valL_digs] at this
def ln (z:Int):Nat:=(digs z.natAbs).length
theorem zkg {z:Int} {k:Nat} (h1: - pw k<z) (h2:z<pw k):ln z≤k:=digs_len (by omega)
theorem zgf (z:Int): - pw (ln z)<z∧z<pw (ln z):=by have:=digs_lt z.natAbs;unfold ln;omega
theorem pw_add (i j:Nat):pw (i+j)=pw i*pw j:=by unfold pw;rw [Int.pow_add]
theorem zPc (x y:Int):ln (x+y)≤max (ln x) (ln y)+1:=by
  have h1:=zgf x;have h2:=zgf y
  have m1:=pw_mono (show ln x≤max (ln x) (ln y) by omega)
  have m2:=pw_mono (show ln y≤max (ln x) (ln y) by omega)
  have p:=pw_pos (max (ln x) (ln y))
  exact zkg (by rw [pw_succ];omega) (by rw [pw_succ];omega)
theorem zR (x:Int):ln (-x)=ln x:=by unfold ln;rw [Int.natAbs_neg]
theorem ln_sub (x y:Int):ln (x - y)≤max (ln x) (ln y)+1:=by
  have:=zPc x (-y);rw [zR] at this;rwa [Int.sub_eq_add_neg]
theorem zLa (x y:Int):ln (x*y)≤ln x+ln y:=by
  have h1:=zgf x;have h2:=zgf y
  have e:(x*y).natAbs=x.natAbs*y.natAbs:=Int.natAbs_mul x y
  have a1:(x.natAbs:Int)<pw (ln x):=by omega
  have a2:(y.natAbs:Int)<pw (ln y):=by omega
  have:((x*y).natAbs:Int)<pw (ln x+ln y):=by
    rw [e,pw_add,Int.natCast_mul]
    have p2:=pw_pos (ln y)
    have b1:(x.natAbs:Int)*y.natAbs≤x.natAbs*pw (ln y):=Int.mul_le_mul_of_nonneg_left (by omega) (by omega)
    have b2:(x.natAbs:Int)*pw (ln y)<pw (ln x)*pw (ln y):=Int.mul_lt_mul_of_pos_right a1 p2
    omega
  exact digs_len this
theorem zlg {z:Int} (h1: -9223372036854775808≤z) (h2:z≤9223372036854775807):ln z≤3:=by
  have:pw 3=1000000000000000000000000000:=by decide
  exact zkg (by omega) (by omega)
theorem zZd {x y:Int} (h:x.natAbs≤y.natAbs):ln x≤ln y:=by
  have:=zgf y
  exact zkg (by omega) (by omega)
def canon (s:Bool) (l:List Int):Prop:=if l.length=0 then s=false else l.getD (l.length - 1) 0≠0∧∀g∈l,g<1000000000
instance (s:Bool) (l:List Int):Decidable (canon s l):=by unfold canon;infer_instance
def raw (s:Bool) (l:List Int):Int:=if canon s l then (if s then - valL l else valL l) else 0
def nn (l:List Int):Prop:=∀g∈l,0≤g
theorem trimL_canon {s:Bool} {l:List Int} (h:canon s l):trimL l=l:=by
  unfold canon at h
  split at h
  · rename_i h0; have : l = [] := List.length_eq_zero_iff.1 h0
    subst this;rfl
  · have := trim_stop l (k := l.length) (Nat.le_refl _) (fun x => h.1 x.2)
    simpa using this
theorem canon_ok {s:Bool} {l:List Int} (h:canon s l) (hn:nn l):okL l:=fun d hd=>by
  unfold canon at h
  split at h
  · rename_i h0; have : l = [] := List.length_eq_zero_iff.1 h0
    subst this;cases hd
  · exact ⟨hn d hd,h.2 d hd⟩
theorem raw_digs {s:Bool} {l:List Int} (hn:nn l):digs (raw s l).natAbs=if canon s l then l else []:=by
  unfold raw
  by_cases h:canon s l
  · simp only [h, if_true]
    have hok:=canon_ok h hn
    have h0:=valL_nonneg hok
    have e:=digs_valL hok
    rw [trimL_canon h] at e
    have:(if s=true then - valL l else valL l).natAbs=(valL l).toNat:=by split <;> omega
    rw [this,←e]
  · simp [h,digs_zero]
theorem valL_pos:∀{l:List Int},okL l→trimL l≠[]→0<valL l:=by
  intro l h ht
  have e:=digs_valL h
  have h0:=valL_nonneg h
  by_cases hz:valL l=0
  · rw [hz] at e;exact absurd (e.trans digs_zero) ht
  · omega
def sg (s:Bool) (n:Int):Int:=if s then -n else n
theorem sg_raw {s:Bool} {l:List Int} (hn:nn l):sg s ((raw s l).natAbs:Int)=raw s l:=by
  unfold sg raw
  by_cases h:canon s l
  · have := valL_nonneg (canon_ok h hn)
    simp only [h,if_true]
    cases s
    · simp;omega
    · simp;omega
  · simp [h]
theorem canon_digs (z:Int):canon (decide (z<0)) (digs z.natAbs):=by
  unfold canon
  split
  · rename_i h; have := digs_nil.1 (List.length_eq_zero_iff.1 h)
    simp;omega
  · rename_i h
    refine ⟨fun e=> ?_,fun g hg=>(digs_ok _ g hg).2⟩
    have t:=trimL_digs z.natAbs
    have hl:0<(digs z.natAbs).length:=by omega
    have hs:=take_split (digs z.natAbs) hl (Nat.le_refl _)
    rw [List.take_length,e] at hs
    have h2:=trimL_append_zero ((digs z.natAbs).take ((digs z.natAbs).length - 1))
    rw [← hs,t] at h2
    have hlen:∀k:List Int,(trimL k).length≤k.length:=by
      intro k
      induction k with
      |nil=>simp [trimL]
      |cons x k ih=>
        simp only [trimL]
        split
        · split <;> simp
        · rename_i y t hy;rw [hy] at ih;simp at ih ⊢;omega
    have:=hlen ((digs z.natAbs).take ((digs z.natAbs).length - 1))
    rw [← h2,List.length_take] at this
    omega
theorem raw_big (z:Int):raw (decide (z<0)) (digs z.natAbs)=z:=by
  unfold raw
  rw [if_pos (canon_digs z),valL_digs]
  split <;> (rename_i h;simp at h;omega)
theorem sg_pos {s:Bool} {n:Int} (h:0<n):decide (sg s n<0)=s:=by
  unfold sg;cases s <;> simp <;> omega
theorem sg_abs {s:Bool} {n:Int} (h:0≤n):(sg s n).natAbs=n.toNat:=by
  unfold sg;cases s <;> simp <;> omega
theorem sg_zero (s:Bool):sg s 0=0:=by unfold sg;cases s <;> rfl
theorem sg_big (z:Int):sg (decide (z<0)) (z.natAbs:Int)=z:=by unfold sg;split <;> (rename_i h;simp at h;omega)
theorem sg_not (s:Bool) (n:Int):sg (!s) n= - sg s n:=by unfold sg;cases s <;> simp
theorem minus_step {os A B:List Int} {i:Nat} {bo d c:Int} (hl:os.length=i) (hv:valL os+valL (B.take i)=valL (A.take i)+pw i*bo) (hs:A.getD i 0+1000000000*c=d+B.getD i 0+bo):
    valL (os++[d])+valL (B.take (i+1))=valL (A.take (i+1))+pw (i+1)*c:=by
  rw [valL_snoc,hl,valL_take_succ,valL_take_succ,pw_succ]
  have h1:pw i*(A.getD i 0+1000000000*c)=pw i*(d+B.getD i 0+bo):=by rw [hs]
  rw [Int.mul_add,Int.mul_add,Int.mul_add] at h1
  have h2:pw i*(1000000000*c)=1000000000*pw i*c:=by rw [← Int.mul_assoc,Int.mul_comm (pw i)]
  omega
theorem minus_fin {os:List Int} {a b i:Nat} {bo:Int} (hab:b≤a) (ho:okL os) (hb0:0≤bo) (hl:os.length=i) (ha:(digs a).length≤i) (hv:valL os+valL ((digs b).take i)=valL ((digs a).take i)+pw i*bo):
    trimL os=digs (a - b):=by
  have hbl:(digs b).length≤i:=by
    refine digs_len ?_
    have:=digs_lt a
    have:=pw_mono ha
    omega
  rw [List.take_of_length_le ha,List.take_of_length_le hbl,valL_digs,valL_digs] at hv
  have h1:=valL_lt ho
  rw [hl] at h1
  have h3:=valL_nonneg ho
  have hp:=pw_pos i
  have:bo=0:=by
    by_cases hz:bo=0
    · exact hz
    · exfalso
      have:pw i*1≤pw i*bo:=Int.mul_le_mul_of_nonneg_left (by omega) (by omega)
      omega
  subst this
  exact trimL_of ho (by omega)
theorem mul_step {os A B:List Int} {i j:Nat} {p cy d c:Int} (hv:valL os+pw (i+j)*cy=valL (A.take i)*valL B+pw i*p*valL (B.take j)) (hj:i+j<os.length)
    (hs:os.getD (i+j) 0+p*B.getD j 0+cy=d+1000000000*c):
    valL (os.set (i+j) d)+pw (i+(j+1))*c=valL (A.take i)*valL B+pw i*p*valL (B.take (j+1)):=by
  rw [valL_set d hj,valL_take_succ,←Nat.add_assoc,pw_succ,Int.mul_add]
  have e1:pw i*p*(pw j*B.getD j 0)=pw (i+j)*(p*B.getD j 0):=by rw [pw_add];ac_rfl
  have h1:pw (i+j)*(os.getD (i+j) 0+p*B.getD j 0+cy)=pw (i+j)*(d+1000000000*c):=by rw [hs]
  rw [Int.mul_add,Int.mul_add,Int.mul_add] at h1
  have h2:pw (i+j)*(1000000000*c)=1000000000*pw (i+j)*c:=by rw [← Int.mul_assoc,Int.mul_comm (pw (i+j))]
  rw [e1,Int.mul_sub]
  omega
theorem mul_round {os A B:List Int} {i:Nat} {cy:Int} (hv:valL os+pw (i+B.length)*cy=valL (A.take i)*valL B+pw i*A.getD i 0*valL (B.take B.length)) (hj:i+B.length<os.length) (h0:os.getD (i+B.length) 0=0):
    valL (os.set (i+B.length) cy)=valL (A.take (i+1))*valL B:=by
  rw [valL_set cy hj,h0,valL_take_succ,Int.add_mul]
  rw [List.take_length] at hv
  have:cy - 0=cy:=by omega
  rw [this];exact hv
def cmp (x y:Int):Int:=if x<y then -1 else if y<x then 1 else 0
theorem cmp_lt {x y:Int} (h:x<y):cmp x y= -1:=by simp [cmp,h]
theorem cmp_gt {x y:Int} (h:y<x):cmp x y=1:=by simp [cmp,h];omega
theorem cmp_len {a b:Nat} (h:(digs a).length≠(digs b).length):cmp ((digs a).length:Int) ((digs b).length:Int)=cmp (a:Int) (b:Int):=by
  have key:∀a b:Nat,(digs a).length<(digs b).length→(a:Int)<b:=fun a b h=>by
    have h1:=digs_lt a
    have h2:=digs_low (k:=(digs b).length - 1) (n:=b) (by omega)
    have h3:=pw_mono (show (digs a).length≤(digs b).length - 1 by omega)
    omega
  rcases Nat.lt_or_ge (digs a).length (digs b).length with h1|h1
  · rw [cmp_lt (by omega),cmp_lt (key a b h1)]
  · rw [cmp_gt (by omega),cmp_gt (key b a (by omega))]
theorem valL_split (l:List Int) {k:Nat} (h:k<l.length):valL l=valL (l.take k)+pw k*l.getD k 0+pw (k+1)*valL (l.drop (k+1)):=by
  have e:l=l.take k++(l.getD k 0 :: l.drop (k+1)):=by
    have:l.getD k 0=l[k]:=by simp [List.getD,h]
    rw [this,List.getElem_cons_drop,List.take_append_drop]
  conv=>lhs;rw [e]
  rw [valL_append,valL,List.length_take,Nat.min_eq_left (by omega),pw_succ,Int.mul_add]
  have:pw k*(1000000000*valL (l.drop (k+1)))=1000000000*pw k*valL (l.drop (k+1)):=by rw [← Int.mul_assoc,Int.mul_comm (pw k)]
  omega
theorem val_at {l m:List Int} (hl:okL l) (hm:okL m) {k:Nat} (h1:k<l.length) (h2:k<m.length) (hd:l.drop (k+1)=m.drop (k+1)) (hlt:l.getD k 0<m.getD k 0):valL l<valL m:=by
  rw [valL_split l h1,valL_split m h2,hd]
  have a1:=valL_lt (okL_take hl k)
  have a2:=valL_nonneg (okL_take hm k)
  have a3:pw (l.take k).length=pw k:=by rw [List.length_take,Nat.min_eq_left (by omega)]
  rw [a3] at a1
  have:pw k*(l.getD k 0+1)≤pw k*m.getD k 0:=Int.mul_le_mul_of_nonneg_left (by omega) (by have:=pw_pos k;omega)
  rw [Int.mul_add] at this
  omega
theorem cmp_at {a b k:Nat} (hl:(digs a).length=(digs b).length) (h1:k<(digs a).length) (hd:(digs a).drop (k+1)=(digs b).drop (k+1)) (hne:(digs a).getD k 0≠(digs b).getD k 0):
    cmp ((digs a).getD k 0) ((digs b).getD k 0)=cmp (a:Int) (b:Int):=by
  rcases Int.lt_or_gt_of_ne hne with h|h
  · have := val_at (digs_ok a) (digs_ok b) h1 (by omega) hd h
    rw [valL_digs,valL_digs] at this
    rw [cmp_lt h,cmp_lt this]
  · have := val_at (digs_ok b) (digs_ok a) (by omega) h1 hd.symm h
    rw [valL_digs,valL_digs] at this
    rw [cmp_gt h,cmp_gt this]
theorem drop_more {l m:List Int} {k:Nat} (h1:k<l.length) (h2:k<m.length) (hd:l.drop (k+1)=m.drop (k+1)) (he:l.getD k 0=m.getD k 0):l.drop k=m.drop k:=by
  rw [List.drop_eq_getElem_cons h1,List.drop_eq_getElem_cons h2,hd]
  congr 1
  simpa [List.getD,h1,h2] using he
theorem cmp_eq {a b:Nat} (h:(digs a)=(digs b)):(a:Int)=b:=by
  have:=congrArg valL h;rwa [valL_digs,valL_digs] at this
theorem cmp_ge {x y:Int}:0≤cmp x y↔y≤x:=by
  unfold cmp;split
  · simp;omega
  · split <;> simp <;> omega
theorem getD_mem {l:List Int} {i:Nat} (h:i<l.length):l.getD i 0∈l:=by
  have:l.getD i 0=l[i]:=by simp [List.getD,h]
  rw [this];exact List.getElem_mem h
theorem mem_getD {l:List Int} {g:Int} (h:g∈l):∃j,j<l.length∧l.getD j 0=g:=by
  obtain ⟨j,hj,e⟩:=List.getElem_of_mem h
  exact ⟨j,hj,by simp [List.getD,hj,e]⟩
theorem canon_more {s:Bool} {l:List Int} (h:l.length≠0):canon s l↔l.getD (l.length - 1) 0≠0∧¬∃g∈l,1000000000≤g:=by
  unfold canon
  rw [if_neg h]
  constructor
  · rintro ⟨h1, h2⟩
    exact ⟨h1,fun ⟨g,hg,hb⟩=>by have:=h2 g hg;omega⟩
  · rintro ⟨h1, h2⟩
    exact ⟨h1,fun g hg=>by
      by_cases hb:g<1000000000
      · exact hb
      · exact absurd ⟨g,hg,by omega⟩ h2⟩
theorem trim_zero {l:List Int} (_:okL l) (ht:(trimL l).length=0):valL l=0:=by
  rw [← valL_trim,List.length_eq_zero_iff.1 ht];rfl
theorem zhf {n:Nat} (h:n<18446744073709551616):(digs n).length≤3:=by
  have:pw 3=1000000000000000000000000000:=by decide
  exact digs_len (by omega)
theorem split_step {os:List Int} {n m:Nat} (hn:0<n) (h:os++digs n=digs m):(os++[((n%1000000000:Nat):Int)])++digs (n / 1000000000)=digs m:=by
  have e:digs n=((n%1000000000:Nat):Int) :: digs (n / 1000000000):=digs_pos (by omega)
  rw [← h,e,List.append_assoc];rfl
theorem len_digs_nil {n:Nat}:(digs n).length=0↔n=0:=by rw [List.length_eq_zero_iff,digs_nil]
end Go.Proofs.YtjcpbhlijoigfaaGreat.Big
namespace Go.Proofs.YtjcpbhlijoigfaaGreat.Big
theorem sg_mul (s t:Bool) (a b:Nat):sg (decide (s≠t)) ((a*b:Nat):Int)=sg s (a:Int)*sg t (b:Int):=by
  unfold sg;cases s <;> cases t <;> simp [Int.natCast_mul,Int.neg_mul,Int.mul_neg]
theorem sign_neg {s:Bool} {l:List Int} (hn:nn l) (hs:s=true) (h:raw s l≠0):(raw s l).sign= -1:=by
  have e:=sg_raw (s:=s) hn
  subst hs
  have:raw true l<0:=by unfold sg at e;simp at e;omega
  exact Int.sign_eq_neg_one_of_neg this
theorem sign_pos {s:Bool} {l:List Int} (hn:nn l) (hs:s=false) (h:raw s l≠0):(raw s l).sign=1:=by
  have e:=sg_raw (s:=s) hn
  subst hs
  have:0<raw false l:=by unfold sg at e;simp at e;omega
  exact Int.sign_eq_one_of_pos this
theorem mul_lim {p q:Int} (hp:0≤p∧p<1000000000) (hq:0≤q∧q<1000000000):0≤p*q∧p*q≤999999998000000001:=by
  have h1:p*q≤p*999999999:=Int.mul_le_mul_of_nonneg_left (by omega) hp.1
  have h0:=Int.mul_nonneg hp.1 hq.1
  omega
end Go.Proofs.YtjcpbhlijoigfaaGreat.Big
namespace Go.Proofs.YtjcpbhlijoigfaaGreat.Big
theorem raw_sign {s:Bool} {l:List Int} (hn:nn l) (hc:canon s l):decide (raw s l<0)=s:=by
  have e:=sg_raw (s:=s) hn
  by_cases h0:raw s l=0
  · have hd := raw_digs (s := s) hn
    rw [if_pos hc,h0] at hd
    have:l=[]:=hd.symm
    subst this
    have:s=false:=by simpa [canon] using hc
    subst this;simp [h0]
  · rw [← e];exact sg_pos (by omega)
theorem made_sign {s:Bool} {l:List Int} {k:Nat} (ho:okL l) (h:l.take k=digs (sg s (valL l)).natAbs) (hl:(l.take k).length=k):decide (sg s (valL l)<0)=decide (s=true∧0<k):=by
  have h0:=valL_nonneg ho
  by_cases hz:valL l=0
  · have : k = 0 := by rw [h, hz, sg_zero] at hl; exact hl.symm
    subst this;rw [hz,sg_zero];simp
  · have hk:0<k:=by
      rcases Nat.eq_zero_or_pos k with e|e
      · subst e
        have:(sg s (valL l)).natAbs=0:=digs_nil.1 (by simpa using h.symm)
        rw [sg_abs h0] at this;omega
      · exact e
    rw [sg_pos (by omega)];simp [hk]
theorem plus_end {os:List Int} {a b i:Nat} {cy:Int} (hl:os.length=i) (ha:(digs a).length≤i) (hb:(digs b).length≤i) (hv:valL os+pw i*cy=valL ((digs a).take i)+valL ((digs b).take i)):
    (sg false (valL (os++[cy]))).natAbs=a+b:=by
  rw [List.take_of_length_le ha,List.take_of_length_le hb,valL_digs,valL_digs] at hv
  rw [valL_snoc,hl,hv];unfold sg;simp;omega
end Go.Proofs.YtjcpbhlijoigfaaGreat.Big
namespace Go.Proofs.YtjcpbhlijoigfaaGreat.Big
theorem zUa {s:Bool} {l:List Int} (hn:nn l):ln (raw s l)≤l.length:=by
  unfold ln;rw [raw_digs hn];split <;> simp
theorem len_add (a b:Nat):(digs (a+b)).length≤max (digs a).length (digs b).length+1:=by
  have:=zPc (a:Int) (b:Int)
  unfold ln at this
  have e:((a:Int)+(b:Int)).natAbs=a+b:=by omega
  rw [e] at this
  simpa using this
theorem len_sub (a b:Nat):(digs (a - b)).length≤(digs a).length:=by
  refine digs_len ?_
  have:=digs_lt a
  omega
theorem add_same {x y:Int} (h:decide (x<0)=decide (y<0)):sg (decide (x<0)) ((x.natAbs+y.natAbs:Nat):Int)=x+y:=by
  unfold sg
  by_cases hx:x<0
  · have hy : y < 0 := by simpa [hx] using h
    simp [hx];omega
  · have hy : ¬ y < 0 := by simpa [hx] using h
    simp [hx];omega
theorem add_ge {x y:Int} (h:¬decide (x<0)=decide (y<0)) (hab:y.natAbs≤x.natAbs):sg (decide (x<0)) ((x.natAbs - y.natAbs:Nat):Int)=x+y:=by
  unfold sg
  by_cases hx:x<0
  · have hy : ¬ y < 0 := by simpa [hx] using h
    simp [hx];omega
  · have hy : y < 0 := by simpa [hx] using h
    simp [hx];omega
theorem add_lt {x y:Int} (h:¬decide (x<0)=decide (y<0)) (hab:x.natAbs≤y.natAbs):sg (decide (y<0)) ((y.natAbs - x.natAbs:Nat):Int)=x+y:=by
  have:=add_ge (x:=y) (y:=x) (fun e=>h e.symm) hab
  rw [this,Int.add_comm]
theorem ext_getD {l m:List Int} (hl:l.length=m.length) (h:∀j,j<l.length→l.getD j 0=m.getD j 0):l=m:=by
  refine List.ext_getElem hl (fun j h1 h2=> ?_)
  have:=h j h1
  simpa [List.getD,h1,h2] using this
end Go.Proofs.YtjcpbhlijoigfaaGreat.Big
namespace Go.Proofs.YtjcpbhlijoigfaaGreat.Sp
open Go
set_option linter.unusedVariables false
structure Wd where
  s:Bool
  p:Option Addr
  n:Nat
  c:Nat
@[reducible] def Wd.b (w : Wd) : Value := .bool w.s
@[reducible] def Wd.l (w : Wd) : Value := .slice w.p w.n w.c
@[reducible] def cw : List Wd → List Value
  |[]=>[]
  |w :: l=>w.b :: w.l :: cw l
def wz:Wd:=⟨false,none,0,0⟩
def Wd.is (g:Hp) (w:Wd) (z:Int):Prop:=w.s=decide (z<0)∧w.n=(yf z.natAbs).length∧Sl (rI .u32) g w.p w.c (yf z.natAbs)
def zF (w:Wd) (z:Int):Fa:=⟨fun g=>w.is g z,fun _ _ h k=>⟨k.1,k.2.1,k.2.2.mono h⟩⟩
def lb (n k:Nat):Array Bool:=⟨(List.range n).map (Nat.testBit k)⟩
section
variable {P : Program} {c : Cx} {n : Sz} {Q : Exit → Act → World → Prop} {m : Fm} {O : List As} {R : List Fa} {f : Nat}
theorem Mem.fact {w:World} {r:Fa} (h:∀g,Holds g R→r.on g) (mm:Mem c w O R):Mem c w O (r :: R):=
  mm.weaken fun hh g s r' a=>⟨hh,g,s,⟨h g r',r'⟩,Hp.le_refl _,Hp.le_refl _,a,fun _ _ e=> .inl e⟩
theorem zJb {e:Exit} (r:Fa) (h:∀g,Holds g R→r.on g) (k:Post c n Q e m O (r :: R)):Post c n Q e m O R:=fun a w f mm=>k a w f (mm.fact h)
theorem Mem.mapR {w:World} {R':List Fa} (h:∀g,Holds g R→Holds g R') (mm:Mem c w O R):Mem c w O R':=
  mm.weaken fun hh g s r' a=>⟨hh,g,s,h g r',Hp.le_refl _,Hp.le_refl _,a,fun _ _ e=> .inl e⟩
theorem Con.told {A:List Value} {Y Z:Type} {φ:Y→Prop} {val:Y→Value} {O':Y→List As} {R':Y→List Fa} {ψ:Z→Prop} {val2:Z→Value} {O2:Z→List As} {R2:Z→List Fa} (h:Con P f A O R φ val O' R') (t:Y→Z)
    (hv:∀y,val y=val2 (t y)) (hp:∀y,φ y→ψ (t y)) (ho:∀y,O' y=O2 (t y)) (hR:∀y,φ y→∀g,Holds g (R' y)→Holds g (R2 (t y))):Con P f A O R ψ val2 O2 R2:=fun w hh g s r ap h1 h2=>
  (h w hh g s r ap h1 h2).mono fun e w' ⟨y,e1,e2,e3⟩=>⟨t y,by rw [e1,hv],hp y e2,by rw [← ho];exact Mem.mapR (hR y e2) e3⟩
theorem Con.of {A:List Value} {Y:Type} {φ:Y→Prop} {val:Y→Value} {O':Y→List As} {R':Y→List Fa} {X:Type} {ψ:X→Prop} {A2:X→List Value} {R2:X→List Fa}
    (h:∀x,ψ x→Con P f (A2 x) O (R2 x) φ val O' R') (hx:∀g,Holds g R→∃x,ψ x∧A2 x=A∧Holds g (R2 x)):Con P f A O R φ val O' R':=fun w hh g s r ap h1 h2=>by
  obtain ⟨x,hp,e,r2⟩:=hx g r
  have:=h x hp w hh g s r2 ap h1 h2
  rw [e] at this;exact this
abbrev bigL (z:Int) (p:Option Addr) (c:Nat):List Value:=[.bool (decide (z<0)),.slice p (yf z.natAbs).length c]
abbrev bigS (z:Int) (p:Option Addr) (c:Nat):Fa:=slF (rI .u32) p c (yf z.natAbs)
theorem Wd.eq {g:Hp} {w:Wd} {z:Int} (h:w.is g z):[w.b,w.l]=bigL z w.p w.c:=by rw [Wd.b,Wd.l,h.1,h.2.1]
theorem zqe {z:Int} {w:Wd} {Y:Type} {φ:Y→Prop} {val:Y→Value} {O':Y→List As} {R':Y→List Fa} (h:∀p c,Con P f [.agg (bigL z p c).toArray] O [bigS z p c] φ val O' R'):Con P f [.agg #[w.b,w.l]] O [zF w z] φ val O' R':=
  Con.of (X:=Unit) (ψ:=fun _=>True) (A2:=fun _=>[.agg (bigL z w.p w.c).toArray]) (R2:=fun _=>[bigS z w.p w.c]) (fun _ _=>h w.p w.c) fun g r=>⟨(),trivial,by rw [← Wd.eq r.1],r.1.2.2,trivial⟩
theorem zCc {z1 z2:Int} {w1 w2:Wd} {Y:Type} {φ:Y→Prop} {val:Y→Value} {O':Y→List As} {R':Y→List Fa} (h:∀p1 c1 p2 c2,Con P f [.agg (bigL z1 p1 c1).toArray,.agg (bigL z2 p2 c2).toArray] O [bigS z1 p1 c1,bigS z2 p2 c2] φ val O' R'):Con P f [.agg #[w1.b,w1.l],.agg #[w2.b,w2.l]] O [zF w1 z1,zF w2 z2] φ val O' R':=
  Con.of (X:=Unit) (ψ:=fun _=>True) (A2:=fun _=>[.agg (bigL z1 w1.p w1.c).toArray,.agg (bigL z2 w2.p w2.c).toArray]) (R2:=fun _=>[bigS z1 w1.p w1.c,bigS z2 w2.p w2.c]) (fun _ _=>h w1.p w1.c w2.p w2.c) fun g r=>⟨(),trivial,by rw [← Wd.eq r.1,←Wd.eq r.2.1],r.1.2.2,r.2.1.2.2,trivial⟩
theorem zUb {z:Int} {A:List Value} (h:Con P f A O R (Y:=Option Addr×Nat) (fun _=>True) (fun y=> .agg (bigL z y.1 y.2).toArray) (fun _=>[]) (fun y=>[bigS z y.1 y.2])):Con P f A O R (Y:=Wd) (fun _=>True) (fun w=> .agg #[w.b,w.l]) (fun _=>[]) (fun w=>[zF w z]):=
  h.told (fun y=>⟨decide (z<0),y.1,(yf z.natAbs).length,y.2⟩) (fun _=>rfl) (fun _ _=>trivial) (fun _=>rfl) (fun y _ g r=>⟨⟨rfl,rfl,r.1⟩,trivial⟩)
end
section
variable {P : Program} {c : Cx} {n : Sz} {Q : Exit → Act → World → Prop} {m : Fm} {O OW : List As} {R R' : List Fa} {ops : Array Oper} {ro : Option Nat} {l : List Oper} {wi k : Nat} {L : Array Bool} {α : Type} {d : Option Tmp} {ty : TypeId} {ps : String} {af : Array Edge} {gd : Option (Nat × Bool)}
theorem zif (h:∀g,Holds g R→Holds g R') (k:RunL (ro:=ro) P ops Q c n l m O R'):RunL (ro:=ro) P ops Q c n l m O R:=fun a w f mm=>k a w f (mm.mapR h)
theorem zcg (h:∀g,Holds g R→Holds g R') (kont:RunD P ops Q c n wi k L m OW O R'):RunD P ops Q c n wi k L m OW O R:=fun hQ hs hcl a w hw hr g f s1 s2 ap mm=>
  kont hQ hs hcl a w hw hr g f s1 s2 ap ⟨mm.sep,h g mm.holds,mm.apart,mm.hasH,mm.hasG,mm.le,mm.newG,mm.newH,mm.kept⟩
def PartsG (m:Fm) (R:List Fa) (r:Rp α):Nat→List (Nat×Operand)→List (Nat×Value)→List α→List (List Value)→Prop
  |_,[],[],[],[]=>True
  |i,(i1,x0) :: xs,(i2,v) :: vs,x :: es,cs :: css=>i1=i∧i2=i∧evo m x0=some v∧v.cells=cs.toArray∧(∀g,Holds g R→∃γ,r.enc x γ=cs∧r.ok g x γ)∧cs.length=r.sz∧PartsG m R r (i+1) xs vs es css
  |_,_,_,_,_=>False
theorem PartsG.evp {r:Rp α}:∀{i:Nat} {xs:List (Nat×Operand)} {vs:List (Nat×Value)} {es:List α} {css:List (List Value)},PartsG m R r i xs vs es css→evp m xs vs
  |_,[],[],[],[],_=>trivial
  |_,(_,_) :: _,(_,_) :: _,_ :: _,_ :: _,⟨h1,h2,h,_,_,_,k⟩=>⟨h1.trans h2.symm,h,PartsG.evp k⟩
theorem PartsG.len {r:Rp α}:∀{i:Nat} {xs:List (Nat×Operand)} {vs:List (Nat×Value)} {es:List α} {css:List (List Value)},PartsG m R r i xs vs es css→css.flatten.length=es.length*r.sz
  |_,[],[],[],[],_=>by simp
  |_,(_,_) :: _,(_,_) :: _,_ :: es,_ :: css,⟨_,_,_,_,_,hl,k⟩=>by
    have:=PartsG.len k
    simp only [List.flatten_cons,List.length_append,hl,this,List.length_cons,Nat.succ_mul];omega
theorem PartsG.fill {r:Rp α}:∀{i:Nat} {xs:List (Nat×Operand)} {vs:List (Nat×Value)} {es:List α} {css:List (List Value)},PartsG m R r i xs vs es css→∀(pre rest:List Value),pre.length=i*r.sz→rest.length=es.length*r.sz→
    Fill (fun i=>some (i*r.sz,r.sz)) (pre++rest) vs (pre++css.flatten)
  |_,[],[],[],[],_,pre,rest,hp,hr=>by
    have:rest=[]:=List.eq_nil_of_length_eq_zero (by simpa using hr)
    subst this;rfl
  |i,(_,_) :: _,(_,_) :: _,x :: es,cs :: css,⟨h1,h2,h,hv,_,hl,k⟩,pre,rest,hp,hr=>by
    subst h2
    refine ⟨_*r.sz,r.sz,cs,pre++(cs++rest.drop r.sz),rfl,hv,hl,⟨?_,?_⟩,?_⟩
    · simp only [List.length_append,hp,hl,hr,List.length_cons,Nat.succ_mul];omega
    · rw [hl, ← hp, List.take_left, List.drop_append]
      have:pre.drop (pre.length+r.sz)=[]:=List.drop_eq_nil_of_le (by omega)
      rw [this,List.nil_append,show pre.length+r.sz - pre.length=r.sz by omega,List.append_assoc]
    · have := PartsG.fill k (pre ++ cs) (rest.drop r.sz) (by rw [List.length_append, hp, hl, Nat.succ_mul]) (by rw [List.length_drop, hr, List.length_cons, Nat.succ_mul]; omega)
      simpa [List.append_assoc] using this
theorem PartsG.els {r:Rp α} {g:Hp} (hr:Holds g R):∀{i:Nat} {xs:List (Nat×Operand)} {vs:List (Nat×Value)} {es:List α} {css:List (List Value)},PartsG m R r i xs vs es css→Els r g css.flatten 0 es
  |_,[],[],[],[],_=>fun i x e=>by simp at e
  |_,(_,_) :: _,(_,_) :: _,x :: es,cs :: css,⟨_,_,h,hv,hok,hl,k⟩=>fun i y e=>by
    cases i with
    |zero=>
      simp at e;subst e
      obtain ⟨γ,h1,h2⟩:=hok g hr
      refine ⟨γ,⟨r.len _ _,fun j v ev=> ?_⟩,h2⟩
      rw [h1] at ev
      have hj:=(List.getElem?_eq_some_iff.1 ev).1
      simp only [List.flatten_cons,Nat.zero_mul,Nat.zero_add]
      rw [List.getElem?_append_left hj];exact ev
    |succ i=>
      obtain ⟨γ,a1,a2⟩:=PartsG.els hr k i y (by simpa using e)
      refine ⟨γ,⟨a1.1,fun j v ev=> ?_⟩,a2⟩
      have:=a1.2 j v ev
      simp only [List.flatten_cons]
      rw [List.getElem?_append_right (by rw [hl,Nat.succ_mul];omega),hl]
      rw [show 0+(i+1)*r.sz+j - r.sz=0+i*r.sz+j by rw [Nat.succ_mul];omega];exact this
theorem zfb {t e:TypeId} {bytes k:Nat} {z:Value} {parts:List (Nat×Operand)} {vs:List (Nat×Value)} {r:Rp α} {xs:List α} {css:List (List Value)} (hu:P.underlying t=some (.slice e)) (hI:Inf P e r.sz bytes z) (hzs:z.cells.size=r.sz) (hk:k*r.sz≤16777216) (hpos:0<k*r.sz) (hkm:k≤16777216)
    (hp:PartsG m R r 0 parts vs xs css) (hlen:xs.length=k:=by rfl):
    Ef P n ⟨d,.buildSlice t k parts.toArray,ty,ps,af,gd⟩ m [] R (Y:=Nat) (fun _=>True) (fun b=> .slice (some ⟨b,0,none⟩) k k) (fun b=>[rowA e r (some ⟨b,0,none⟩) k xs]) (fun _=>[]):=by
  subst hlen
  have hfill:=hp.fill [] (madeCells z.cells (xs.length*r.sz)).toList (by simp) (by simp [size_madeCells])
  simp only [List.nil_append] at hfill
  exact zac hu hI hzs hk hpos hkm hp.evp hfill rfl hp.len (fun g hr=>hp.els hr)
end
theorem PartsG.n {α:Type} {m:Fm} {R:List Fa} {r:Rp α} {i:Nat}:PartsG m R r i [] [] [] []:=trivial
theorem PartsG.c {α:Type} {m:Fm} {R:List Fa} {r:Rp α} {i:Nat} {x0:Operand} {v:Value} {x:α} {cs:List Value} {xs:List (Nat×Operand)} {vs:List (Nat×Value)} {es:List α} {css:List (List Value)} (γ:r.G) (h:evo m x0=some v) (hv:v.cells=cs.toArray) (he:r.enc x γ=cs) (hok:∀g,Holds g R→r.ok g x γ) (k:PartsG m R r (i+1) xs vs es css):PartsG m R r i ((i,x0) :: xs) ((i,v) :: vs) (x :: es) (cs :: css):=
  ⟨rfl,rfl,h,hv,fun g hr=>⟨γ,he,hok g hr⟩,by rw [← he];exact r.len _ _,k⟩
section
variable {P : Program} {c : Cx} {n : Sz} {Q : Exit → Act → World → Prop} {m : Fm} {O : List As} {R : List Fa} {α : Type} {d : Option Tmp} {ty : TypeId} {ps : String} {af : Array Edge} {gd : Option (Nat × Bool)}
theorem RowOn.take {T:TypeId} {r:Rp α} {p:Option Addr} {cap:Nat} {l:List α} {g h:Hp} (k:Nat) (s:RowOn T r p cap l g h):RowOn T r p cap (l.take k) g h:=by
  rcases s with ⟨h1,h2,h3,h4⟩|⟨b,off,cells,e1,e2,e3,e4,e5,e6⟩
  · exact .inl ⟨h1,h2,by rw [h3];simp,h4⟩
  · refine .inr ⟨b, off, cells, e1, by rw [List.length_take]; omega, e3, e4, e5, fun i x e => e6 i x ?_⟩
    rw [List.getElem?_take] at e
    split at e
    · exact e
    · cases e
theorem Sep.mapAt {g:Hp} {A B:As} (hAB:∀h,A.on g h→B.on g h):∀{O:List As} (i:Nat) {h:Hp},O[i]? =some A→Sep g O h→Sep g (O.set i B) h
  |[],_,_,e,_=>by simp at e
  |_ :: _,0,_,e,⟨h1,h2,a,e1,x,y⟩=>by simp at e;subst e;exact ⟨h1,h2,a,e1,hAB _ x,y⟩
  |_ :: _,i+1,_,e,⟨h1,h2,a,e1,x,y⟩=>⟨h1,h2,a,e1,x,Sep.mapAt hAB i (by simpa using e) y⟩
theorem Mem.rowTake {w:World} (i:Nat) {T:TypeId} {r:Rp α} {p:Option Addr} {cap:Nat} {l:List α} (hi:O[i]? =some (rowA T r p cap l)) (k:Nat) (mm:Mem c w O R):Mem c w (O.set i (rowA T r p cap (l.take k))) R:=
  mm.resep fun g h s=>Sep.mapAt (fun _ x=>RowOn.take k x) i hi s
theorem zmd {s e T:TypeId} {x ix:Operand} {r:Rp α} {p:Option Addr} {k cap:Nat} {kk:IntKind} {z:Int} {xs:List α} (i j:Nat) (hi:O[i]? =some (rowA T r p cap xs)) (hu:P.underlying s=some (.slice e)) (ht:(P.info? e).map (·.size)=some r.sz)
    (h1:evo m x=some (.slice p k cap)) (hk:k≤xs.length) (h2:evo m ix=some (.int kk z)) (hz:z=(j:Int)) (hj:j<k):
    Vl P n ⟨d,.indexAddr s x ix,ty,ps,af,gd⟩ m O R (Y:=Unit) (fun _=>True) (fun _=>rowPtr p (j*r.sz)) (fun _=>[]):=fun a f hh g sp hr=>by
  obtain ⟨k1,k2,ap,e0,hA,_,_⟩:=Sep.pick i hi sp
  refine ⟨(),trivial,trivial,fun w _ _=> ?_⟩
  have hA':RowOn T r p cap xs g k1:=hA
  rcases hA' with ⟨_,_,rfl,_⟩|⟨b,off,cells,rfl,_⟩
  · simp at hk;omega
  · subst hz
    have hrun:=zib (P:=P) (a:=⟨b,off,none⟩) (cap:=cap) (kk:=kk) (w:=w) hu ht hj
    simp only [execOp,f.ev h1,f.ev h2,Sem.run_bind,hrun,Result.andThen_ok,Sem.run_pure,Addr.add_lit,rowPtr,Option.map_some]
end
theorem zKf {P:Program} {c:Cx} {n:Sz} {Q:Exit→Act→World→Prop} {m:Fm} {O:List As} {R:List Fa} {α:Type} {ro:Option Nat} {x:Code} {T:TypeId} {r:Rp α} {p:Option Addr} {cap:Nat} {l:List α} (i:Nat) (hi:O[i]? =some (rowA T r p cap l)) (k:l.length≤cap∧cap≤9223372036854775807→RunC (ro:=ro) P Q c n x m O R):RunC (ro:=ro) P Q c n x m O R:=fun a w f mm=>by
  obtain ⟨hh,g,m2⟩:=mm
  obtain ⟨k1,k2,_,_,hA,_,_⟩:=Sep.pick i hi m2.sep
  have hA':RowOn T r p cap l g k1:=hA
  refine k ?_ a w f ⟨hh,g,m2⟩
  rcases hA' with ⟨_,h2,h3,_⟩|⟨b,off,cells,_,e2,e3,_⟩
  · subst h2;subst h3;exact ⟨Nat.le_refl _,by decide⟩
  · unfold maxLen at e3;omega
theorem MemAt.stay {c:Cx} {w w':World} {O:List As} {R:List Fa} {h g g2:Hp} (m:MemAt c w O R h g) (k:Kept ⟨w,Hp.emp,g2⟩ w'):MemAt c w' O R h g:=by
  have key:∀(x:Hp),Has w x→Has w' x:=fun x hx b o e=>by
    have h1:=hx b o e
    have hlt:=(Array.getElem?_eq_some_iff.1 h1).1
    rw [k.block b hlt rfl];exact h1
  refine ⟨m.sep,m.holds,m.apart,key _ m.hasH,key _ m.hasG,m.le,m.newG,m.newH,k.os.trans m.kept.os,k.tape.trans m.kept.tape,k.output.trans m.kept.output,Nat.le_trans m.kept.size k.size,fun b hb e=> ?_⟩
  rw [k.block b (Nat.lt_of_lt_of_le hb m.kept.size) rfl]
  exact m.kept.block b hb e
section
variable {P : Program} {c : Cx} {n : Sz} {Q : Exit → Act → World → Prop} {m : Fm} {O OW : List As} {R R' : List Fa} {ops : Array Oper} {ro : Option Nat} {l : List Oper} {wi k : Nat} {L : Array Bool} {α : Type} {ty : TypeId} {ps : String} {af : Array Edge} {gd : Option (Nat × Bool)}
theorem borrow_call {o:Oper} {v:Value} {js:List Nat} {T:TypeId} {r:Rp α} {p:Option Addr} {cap:Nat} {xs:List α} (i:Nat) (hi:O[i]? =some (rowA T r p cap xs)) (h:Ef P n o m [] R' (Y:=Unit) (fun _=>True) (fun _=>v) (fun _=>[]) (fun _=>[])) (hs:SelR js (slF r p cap xs :: R) R')
    {a:Act} {w:World} {hh g:Hp} (f:Fr n a m) (sp:Sep g O hh) (hr:Holds g R) (ap:hh.apart g) (hH:Has w hh) (hG:Has w g) {K:Act→World→Prop} (hK:∀w' g2,Kept ⟨w,Hp.emp,g2⟩ w'→K (a.put o.dst v) w'):WpB P o a w K Q:=by
  obtain ⟨k1,k2,ap12,e0,hA,_,_⟩:=Sep.pick i hi sp
  have hA':RowOn T r p cap xs g k1:=hA
  have hk1:k1.le hh:=by rw [e0];exact Hp.le_joinL _ _
  have apk:k1.apart g:=by rw [e0] at ap;exact (Hp.apart_join.1 ap).1
  have hsl:=rowA_sl hA' apk
  have hR2:Holds (g.join k1) (slF r p cap xs :: R):=⟨hsl,Holds.mono (Hp.le_joinL _ _) hr⟩
  exact h a f w Hp.emp (g.join k1) rfl (hs.holds hR2) (Hp.emp_apart _) (fun _ _ e=>by cases e) (Has.join hG (Has.mono hH hk1)) _ _ (fun _ w' _ hM=>by
    obtain ⟨h',g',mm'⟩:=hM
    exact hK w' _ mm'.kept)
theorem zLf {T:TypeId} {r:Rp α} {p:Option Addr} {cap:Nat} {zs:List α} (q:Nat) (hq:O[q]? =some (rowA T r p cap zs)) {i:Nat} {t0:Tmp} {xs:List Operand} {ats:Array TypeId} {f:Nat} {vs:List Value} {js:List Nat} {v:Value}
    (hne:Nat.beq i wi=false) (hi:ops[i]? =some ⟨some t0,.call ⟨.value (.func f),xs.toArray,ats⟩,ty,ps,af,gd⟩) (hw:wnt ops m ⟨some t0,.call ⟨.value (.func f),xs.toArray,ats⟩,ty,ps,af,gd⟩=some true) (hd:Nat.ble (t0+1) n.sz=true) (hx:evs m xs vs) (hc:CanEnter P f)
    (h:Con P f vs [] R' (Y:=Unit) (fun _=>True) (fun _=>v) (fun _=>[]) (fun _=>[])) (hs:SelR js (slF r p cap zs :: R) R')
    (kont:RunD P ops Q c n wi k (L.setIfInBounds i true) ((t0,v) :: m) OW O R):RunO P ops Q c n wi k L i m OW O R:=fun hQ hs' hcl hrd a w hw2 hr g fr s1 s2 ap mm=>by
  unfold wpOp
  simp only [hi]
  rw [if_pos (fr.wanted hw)]
  have he:Ef P n ⟨some t0,.call ⟨.value (.func f),xs.toArray,ats⟩,ty,ps,af,gd⟩ m [] R' (Y:=Unit) (fun _=>True) (fun _=>v) (fun _=>[]) (fun _=>[]):=zld (first:=[]) (cap:=[]) rfl hx hc (by simpa using h)
  have hrle:=Hp.le_joinR ap
  have aph:hr.apart g:=(Hp.apart_join.1 mm.apart).2
  refine .inl<|WpB.wp (borrow_call q hq he hs fr s2 mm.holds aph (Has.mono mm.hasH hrle) mm.hasG (fun w' g2 kp=> ?_))
  have mm2:=mm.stay kp
  exact ⟨⟨Has.mono mm2.hasH hrle,mm2.hasG,fun _=>Has.mono mm2.hasH (Hp.le_joinL _ _)⟩,kont hQ hs' (hcl.step hrd) _ w' hw2 hr g (fr.put (d:=some t0) hd _) s1 s2 ap mm2⟩
end
end Go.Proofs.YtjcpbhlijoigfaaGreat.Sp
namespace Go.Proofs.YtjcpbhlijoigfaaGreat.Big
theorem valL_drop (A:List Int) (k:Nat):valL (A.drop k)=A.getD k 0+1000000000*valL (A.drop (k+1)):=by
  rcases Nat.lt_or_ge k A.length with h|h
  · rw [List.drop_eq_getElem_cons h,List.getD_eq_getElem?_getD,List.getElem?_eq_getElem h];rfl
  · rw [List.drop_eq_nil_of_le h,List.drop_eq_nil_of_le (by omega),List.getD_eq_getElem?_getD,List.getElem?_eq_none h];rfl
theorem valL_cut (A:List Int) (k:Nat) (h:k≤A.length):valL A=valL (A.take k)+pw k*valL (A.drop k):=by
  have h1:=valL_append (A.take k) (A.drop k)
  rw [List.take_append_drop,List.length_take,Nat.min_eq_left h] at h1;exact h1
theorem okL_drop {l:List Int} (h:okL l) (k:Nat):okL (l.drop k):=fun d hd=>h d (List.mem_of_mem_drop hd)
theorem valL_take_lt {l:List Int} (h:okL l) (k:Nat):0≤valL (l.take k)∧valL (l.take k)<pw k:=by
  have h1:=valL_lt (okL_take h k)
  have h2:=valL_nonneg (okL_take h k)
  have h3:=pw_mono (show (l.take k).length≤k by rw [List.length_take];omega)
  omega
theorem pad_set {n:Nat} {qs:List Int} (x:Int):(List.replicate (n+1) 0++qs).set n x=List.replicate n 0++x :: qs:=by
  rw [List.replicate_succ',List.append_assoc,List.set_append_right _ _ (by simp)];simp
structure ShI (A:List Int) (d:Int) (k:Nat) (qs:List Int) (r:Int):Prop where
  le:k≤A.length
  len:qs.length=A.length - k
  ok:okL qs
  r0:0≤r
  r1:r<d
  eq:valL qs*d+r=valL (A.drop k)
theorem ShI.start {A:List Int} {d:Int} (hd:0<d):ShI A d A.length [] 0:=⟨Nat.le_refl _,by simp,okL_nil,Int.le_refl _,hd,by simp [valL]⟩
theorem sh_digit {r d g:Int} (h0:0≤r) (h1:r<d) (hg:0≤g∧g<1000000000):0≤(r*1000000000+g) / d∧(r*1000000000+g) / d<1000000000:=by
  refine ⟨Int.ediv_nonneg (by omega) (by omega),?_⟩
  refine Int.ediv_lt_of_lt_mul (by omega) ?_
  have:(r+1)*1000000000≤d*1000000000:=Int.mul_le_mul_of_nonneg_right (by omega) (by decide)
  rw [Int.mul_comm d] at this;omega
theorem ShI.step {A:List Int} {d:Int} {k:Nat} {qs:List Int} {r:Int} (h:ShI A d (k+1) qs r) (hA:okL A):ShI A d k ((r*1000000000+A.getD k 0) / d :: qs) ((r*1000000000+A.getD k 0)%d):=by
  have hg:=okL_getD hA k
  have h0:=h.r0;have h1:=h.r1;have hle:=h.le
  have hd:0<d:=by omega
  refine ⟨by omega,by simp only [List.length_cons,h.len];omega,okL_cons.2 ⟨sh_digit h0 h1 hg,h.ok⟩,Int.emod_nonneg _ (by omega),Int.emod_lt_of_pos _ hd,?_⟩
  rw [valL_drop,←h.eq]
  have e:=Int.mul_ediv_add_emod (r*1000000000+A.getD k 0) d
  simp only [valL]
  rw [Int.add_mul,Int.mul_comm _ d]
  have e2:1000000000*valL qs*d=1000000000*(valL qs*d):=Int.mul_assoc _ _ _
  omega
theorem ShI.fin {a m:Nat} {qs:List Int} {r:Int} (h:ShI (digs a) (m:Int) 0 qs r):trimL qs=digs (a / m)∧r=((a%m:Nat):Int):=by
  have e:=h.eq;have h0:=h.r0;have h1:=h.r1;have hn:=valL_nonneg h.ok
  rw [List.drop_zero,valL_digs] at e
  have hq:valL qs=((a / m:Nat):Int):=by
    rw [Int.natCast_ediv]
    symm
    have e3:(a:Int)=r+valL qs*(m:Int):=by omega
    rw [e3,Int.add_mul_ediv_right _ _ (by omega),Int.ediv_eq_zero_of_lt h0 h1];omega
  refine ⟨trimL_of h.ok hq,?_⟩
  rw [Int.natCast_emod]
  have e3:(a:Int)=r+valL qs*(m:Int):=by omega
  rw [e3,Int.add_mul_emod_self_right,Int.emod_eq_of_lt h0 h1]
structure LgI (M n:Nat) (a v:Int) (jj:Nat) (u qs:List Int):Prop where
  ul:u.length=M
  uo:okL u
  ql:qs.length=M - n - jj
  qo:okL qs
  jle:jj+n≤M
  eq:valL u+v*pw jj*valL qs=a
  lt:valL u<v*pw jj
structure Gs (T v vt top g r:Int):Prop where
  eq:g*vt+r=top
  r0:0≤r
  g0:0≤g
  up:T<(g+1)*v
structure Tp (T v vt vs u2 u1 u0 w:Int):Prop where
  w1:1≤w
  vt1:1≤vt
  vt2:vt<1000000000
  vs0:0≤vs
  vs1:vs<1000000000
  a0:0≤u0∧u0<1000000000
  a1:0≤u1∧u1<1000000000
  a2:0≤u2∧u2<1000000000
  vlo:(vt*1000000000+vs)*w≤v
  vhi:v<(vt*1000000000+vs+1)*w
  tlo:((u2*1000000000+u1)*1000000000+u0)*w≤T
  thi:T<((u2*1000000000+u1)*1000000000+u0+1)*w
  tv:T<v*1000000000
theorem mul_le_of {a b w:Int} (hw:0≤w) (h:a≤b):a*w≤b*w:=Int.mul_le_mul_of_nonneg_right h hw
theorem lt_of_mul {a b w:Int} (hw:1≤w) (h:a*w<b*w):a<b:=Int.lt_of_mul_lt_mul_right h (by omega)
theorem Tp.top {T v vt vs u2 u1 u0 w:Int} (h:Tp T v vt vs u2 u1 u0 w):u2≤vt:=by
  have h1:=h.tlo;have h2:=h.tv;have h3:=h.vhi;have hw:=h.w1
  have h4:=h.a0;have h5:=h.a1;have h6:=h.vs1
  have h7:((u2*1000000000+u1)*1000000000+u0)*w<((vt*1000000000+vs+1)*1000000000)*w:=by
    have:v*1000000000<(vt*1000000000+vs+1)*w*1000000000:=by omega
    have e:(vt*1000000000+vs+1)*w*1000000000=((vt*1000000000+vs+1)*1000000000)*w:=by rw [Int.mul_assoc,Int.mul_assoc,Int.mul_comm w]
    omega
  have h8:=lt_of_mul hw h7
  omega
theorem Tp.start {T v vt vs u2 u1 u0 w:Int} (h:Tp T v vt vs u2 u1 u0 w):Gs T v vt (u2*1000000000+u1) ((u2*1000000000+u1) / vt) ((u2*1000000000+u1)%vt):=by
  have hv:=h.vt1;have h1:=h.a1;have h2:=h.a2;have hw:=h.w1
  have e:=Int.mul_ediv_add_emod (u2*1000000000+u1) vt
  have hr:=Int.emod_lt_of_pos (u2*1000000000+u1) (show 0<vt by omega)
  have hr0:=Int.emod_nonneg (u2*1000000000+u1) (show vt≠0 by omega)
  have hq0:0≤(u2*1000000000+u1) / vt:=Int.ediv_nonneg (by omega) (by omega)
  generalize (u2*1000000000+u1) / vt=g at*
  generalize (u2*1000000000+u1)%vt=r at*
  refine ⟨by rw [Int.mul_comm];exact e,hr0,hq0,?_⟩
  have ht:=h.thi;have hl:=h.vlo;have h0:=h.a0;have hs:=h.vs0
  have k1:(u2*1000000000+u1)*1000000000+u0+1≤(g+1)*(vt*1000000000+vs):=by
    have k2:(g+1)*(vt*1000000000+vs)=1000000000*(vt*g)+1000000000*vt+(g+1)*vs:=by grind
    have k3:0≤(g+1)*vs:=Int.mul_nonneg (by omega) hs
    omega
  have k4:=mul_le_of (show 0≤w by omega) k1
  have k5:(g+1)*(vt*1000000000+vs)*w≤(g+1)*v:=by rw [Int.mul_assoc];exact Int.mul_le_mul_of_nonneg_left hl (by omega)
  omega
theorem Gs.le {T v vt vs u2 u1 u0 w g r:Int} (h:Tp T v vt vs u2 u1 u0 w) (k:Gs T v vt (u2*1000000000+u1) g r):g≤2000000000∧r≤1000000000000000000:=by
  have h1:=h.top;have h2:=k.eq;have h3:=h.a1;have h4:=h.vt1;have h5:=k.r0;have h6:=k.g0;have h7:=h.vt2
  have h8:0≤g*vt:=Int.mul_nonneg h6 (by omega)
  refine ⟨?_,by omega⟩
  refine Decidable.byContradiction fun hc=> ?_
  have h9:2000000001*vt≤g*vt:=Int.mul_le_mul_of_nonneg_right (by omega) (by omega)
  omega
theorem Gs.step {T v vt vs u2 u1 u0 w g r:Int} (h:Tp T v vt vs u2 u1 u0 w) (k:Gs T v vt (u2*1000000000+u1) g r) (hc:1000000000≤g∨r*1000000000+u0<g*vs):1≤g∧Gs T v vt (u2*1000000000+u1) (g - 1) (r+vt):=by
  have hr:=k.r0;have hg:=k.g0;have he:=k.eq;have hv:=h.vt1;have h0:=h.a0;have hw:=h.w1
  have hg1:1≤g:=by
    rcases hc with hc|hc
    · omega
    · refine Decidable.byContradiction fun hn => ?_
      have:g=0:=by omega
      subst this;simp at hc;omega
  have hvp:0≤v:=by
    have h1:=h.vlo;have h2:=h.vs0
    have:0≤(vt*1000000000+vs)*w:=Int.mul_nonneg (by omega) (by omega)
    omega
  refine ⟨hg1,⟨by rw [Int.sub_mul];omega,by omega,by omega,?_⟩⟩
  rw [show g - 1+1=g by omega]
  rcases hc with hc|hc
  · have h1 := h.tv
    have:1000000000*v≤g*v:=mul_le_of hvp hc
    omega
  · have h1 := h.thi; have h2 := h.vlo
    have k1:(u2*1000000000+u1)*1000000000+u0+1≤g*(vt*1000000000+vs):=by
      have:g*(vt*1000000000+vs)=1000000000*(g*vt)+g*vs:=by grind
      omega
    have k4:=mul_le_of (show 0≤w by omega) k1
    have k5:g*(vt*1000000000+vs)*w≤g*v:=by rw [Int.mul_assoc];exact Int.mul_le_mul_of_nonneg_left h2 (by omega)
    omega
theorem Gs.fin {T v vt vs u2 u1 u0 w g r:Int} (h:Tp T v vt vs u2 u1 u0 w) (k:Gs T v vt (u2*1000000000+u1) g r) (h1:g<1000000000) (h2:g*vs≤r*1000000000+u0):g*v<T+v:=by
  have he:=k.eq;have hg:=k.g0;have hw:=h.w1;have hv:=h.vt1;have hs:=h.vs0
  have k1:g*(vt*1000000000+vs)≤(u2*1000000000+u1)*1000000000+u0:=by
    have:g*(vt*1000000000+vs)=1000000000*(g*vt)+g*vs:=by grind
    omega
  have k2:=mul_le_of (show 0≤w by omega) k1
  have k3:=h.tlo
  have hl:=h.vlo;have hh:=h.vhi
  have k4:g*(v - (vt*1000000000+vs)*w)≤g*w:=Int.mul_le_mul_of_nonneg_left (by rw [Int.add_mul (vt*1000000000+vs),Int.one_mul] at hh;omega) hg
  have k5:g*w≤999999999*w:=mul_le_of (by omega) (by omega)
  have k6:1000000000*w≤(vt*1000000000+vs)*w:=mul_le_of (by omega) (by omega)
  rw [Int.mul_sub,←Int.mul_assoc] at k4
  omega
theorem Gs.broke {T v vt vs u2 u1 u0 w g r:Int} (h:Tp T v vt vs u2 u1 u0 w) (k:Gs T v vt (u2*1000000000+u1) g r) (hb:1000000000≤r):g<1000000000∧g*vs≤r*1000000000+u0:=by
  have h1:=h.top;have he:=k.eq;have h3:=h.a1;have h4:=h.vt1;have hg:=k.g0;have h0:=h.a0
  have hlt:g<1000000000:=by
    refine Decidable.byContradiction fun hc=> ?_
    have:1000000000*vt≤g*vt:=mul_le_of (by omega) (by omega)
    omega
  refine ⟨hlt,?_⟩
  have hs:=h.vs1;have hs0:=h.vs0
  have:g*vs≤999999999*vs:=mul_le_of hs0 (by omega)
  omega
theorem LgI.T {M n:Nat} {a v:Int} {j:Nat} {u qs:List Int} (h:LgI M n a v (j+1) u qs):valL u=valL (u.take j)+pw j*valL (u.drop j)∧0≤valL (u.take j)∧valL (u.take j)<pw j∧0≤valL (u.drop j)∧valL (u.drop j)<v*1000000000:=by
  have h1:=valL_cut u j (by rw [h.ul];have:=h.jle;omega)
  have h2:=valL_take_lt h.uo j
  have h3:=valL_nonneg (okL_drop h.uo j)
  refine ⟨h1,h2.1,h2.2,h3,?_⟩
  have h4:=h.lt
  rw [pw_succ] at h4
  have h5:pw j*valL (u.drop j)<pw j*(v*1000000000):=by
    have:v*(1000000000*pw j)=pw j*(v*1000000000):=by ac_rfl
    omega
  exact Int.lt_of_mul_lt_mul_left h5 (Int.le_of_lt (pw_pos j))
theorem drop_high {l:List Int} (h:okL l) {k:Nat} (hv:valL l<pw k):valL (l.drop k)=0:=by
  rcases Nat.lt_or_ge l.length k with hk|hk
  · rw [List.drop_eq_nil_of_le (by omega)];rfl
  · have h1 := valL_cut l k hk
    have h2:=valL_nonneg (okL_take h k)
    have h3:=valL_nonneg (okL_drop h k)
    refine Decidable.byContradiction fun hc=> ?_
    have:pw k*1≤pw k*valL (l.drop k):=Int.mul_le_mul_of_nonneg_left (by omega) (Int.le_of_lt (pw_pos k))
    omega
theorem getD_drop' (l:List Int) (i k:Nat):(l.drop i).getD k 0=l.getD (i+k) 0:=by simp [List.getD_eq_getElem?_getD]
theorem digs_top {b:Nat} {n:Nat} (h:(digs b).length=n+1):1≤(digs b).getD n 0:=by
  have h1:=canon_digs (b:Int)
  unfold canon at h1
  rw [Int.natAbs_natCast,if_neg (by omega),h,Nat.add_sub_cancel] at h1
  have h2:=okL_getD (digs_ok b) n
  omega
theorem LgI.high {M n:Nat} {a:Int} {b j:Nat} {u qs:List Int} (h:LgI M n a (b:Int) (j+1) u qs) (hn:(digs b).length=n):valL (u.drop (j+(n+1)))=0:=by
  have ht:=h.T
  have hb:=digs_lt b
  rw [hn] at hb
  have:=drop_high (okL_drop h.uo j) (k:=n+1) (by rw [pw_succ];omega)
  rw [List.drop_drop] at this;exact this
theorem LgI.tp {M m:Nat} {a:Int} {b j:Nat} {u qs:List Int} (h:LgI M (m+2) a (b:Int) (j+1) u qs) (hn:(digs b).length=m+2):Tp (valL (u.drop j)) b ((digs b).getD (m+1) 0) ((digs b).getD m 0) (u.getD (j+(m+2)) 0) (u.getD (j+(m+1)) 0) (u.getD (j+m) 0) (pw m):=by
  have ht:=h.T
  have hh:=h.high hn
  have hvb:=valL_digs b
  have e1:valL (digs b)=valL ((digs b).take m)+pw m*valL ((digs b).drop m):=valL_cut _ _ (by omega)
  have e2:valL ((digs b).drop m)=(digs b).getD m 0+1000000000*(digs b).getD (m+1) 0:=by
    rw [valL_drop,valL_drop,List.drop_eq_nil_of_le (show (digs b).length≤m+1+1 by omega)];simp [valL]
  have e3:=valL_take_lt (digs_ok b) m
  have f1:valL (u.drop j)=valL ((u.drop j).take m)+pw m*valL ((u.drop j).drop m):=valL_cut _ _ (by rw [List.length_drop,h.ul];have:=h.jle;omega)
  have f2:valL ((u.drop j).drop m)=u.getD (j+m) 0+1000000000*(u.getD (j+(m+1)) 0+1000000000*u.getD (j+(m+2)) 0):=by
    rw [List.drop_drop,valL_drop,valL_drop,valL_drop,show j+m+1+1+1=j+(m+2+1) by omega,hh,show j+m+1=j+(m+1) by omega,show j+(m+1)+1=j+(m+2) by omega];omega
  have f3:=valL_take_lt (okL_drop h.uo j) m
  have hp:=pw_pos m
  have ob:=digs_ok b
  have g1:=okL_getD ob (m+1);have g0:=okL_getD ob m
  have c0:=okL_getD h.uo (j+m);have c1:=okL_getD h.uo (j+(m+1));have c2:=okL_getD h.uo (j+(m+2))
  refine ⟨by omega,digs_top (n:=m+1) hn,g1.2,g0.1,g0.2,c0,c1,c2,?_,?_,?_,?_,ht.2.2.2.2⟩
  · rw [← hvb, e1, e2]
    have:(digs b).getD (m+1) 0*1000000000+(digs b).getD m 0=(digs b).getD m 0+1000000000*(digs b).getD (m+1) 0:=by omega
    rw [this,Int.mul_comm];omega
  · rw [← hvb, e1, e2]
    have:(digs b).getD (m+1) 0*1000000000+(digs b).getD m 0+1=((digs b).getD m 0+1000000000*(digs b).getD (m+1) 0)+1:=by omega
    rw [this,Int.add_mul,Int.mul_comm _ (pw m)];omega
  · rw [f1, f2]
    have:(u.getD (j+(m+2)) 0*1000000000+u.getD (j+(m+1)) 0)*1000000000+u.getD (j+m) 0=u.getD (j+m) 0+1000000000*(u.getD (j+(m+1)) 0+1000000000*u.getD (j+(m+2)) 0):=by omega
    rw [this,Int.mul_comm];omega
  · rw [f1, f2]
    have:(u.getD (j+(m+2)) 0*1000000000+u.getD (j+(m+1)) 0)*1000000000+u.getD (j+m) 0+1=(u.getD (j+m) 0+1000000000*(u.getD (j+(m+1)) 0+1000000000*u.getD (j+(m+2)) 0))+1:=by omega
    rw [this,Int.add_mul,Int.mul_comm _ (pw m)];omega
structure MsI (u:List Int) (j:Nat) (g:Int) (v:List Int) (i:Nat) (u2:List Int) (bo ca:Int):Prop where
  len:u2.length=u.length
  ok:okL u2
  b0:0≤bo
  b1:bo≤1
  c0:0≤ca
  c1:ca<1000000000
  far:∀k,j+i≤k→u2.getD k 0=u.getD k 0
  eq:valL u2=valL u - pw j*(g*valL (v.take i))+pw (j+i)*(bo+ca)
theorem MsI.start {u:List Int} (h:okL u) (j:Nat) (g:Int) (v:List Int):MsI u j g v 0 u 0 0:=⟨rfl,h,by decide,by decide,by decide,by decide,fun _ _=>rfl,by simp [valL]⟩
theorem ms_carry {g x ca:Int} (hg:0≤g∧g<1000000000) (hx:0≤x∧x<1000000000) (hc:0≤ca∧ca<1000000000):0≤g*x+ca∧g*x+ca≤999999999000000000∧0≤(g*x+ca) / 1000000000∧(g*x+ca) / 1000000000<1000000000:=by
  have h1:0≤g*x:=Int.mul_nonneg hg.1 hx.1
  have h2:g*x≤999999999*x:=mul_le_of hx.1 (by omega)
  omega
theorem MsI.step {u:List Int} {j:Nat} {g:Int} {v:List Int} {i:Nat} {u2:List Int} {bo ca y bo2:Int} (h:MsI u j g v i u2 bo ca) (hg:0≤g∧g<1000000000) (hv:okL v) (hj:j+i<u.length)
    (hy:y=u2.getD (j+i) 0 - bo - (g*v.getD i 0+ca)%1000000000+1000000000*bo2) (hy0:0≤y∧y<1000000000) (hb:0≤bo2∧bo2≤1):MsI u j g v (i+1) (u2.set (j+i) y) bo2 ((g*v.getD i 0+ca) / 1000000000):=by
  have hc:=ms_carry hg (okL_getD hv i) ⟨h.c0,h.c1⟩
  refine ⟨by rw [List.length_set];exact h.len,okL_set h.ok hy0.1 hy0.2,hb.1,hb.2,hc.2.2.1,hc.2.2.2,fun k hk=>by rw [getD_set_ne (by omega)];exact h.far k (by omega),?_⟩
  rw [valL_set y (by rw [h.len];exact hj),h.eq,valL_take_succ,hy]
  have e:=Int.mul_ediv_add_emod (g*v.getD i 0+ca) 1000000000
  rw [← Nat.add_assoc,pw_succ,pw_add]
  generalize (g*v.getD i 0+ca) / 1000000000=q at*
  generalize (g*v.getD i 0+ca)%1000000000=r at*
  have e2:r=g*v.getD i 0+ca - 1000000000*q:=by omega
  subst e2
  grind
structure AbI (u:List Int) (j:Nat) (v:List Int) (i:Nat) (u2:List Int) (ca:Int):Prop where
  len:u2.length=u.length
  ok:okL u2
  c0:0≤ca
  c1:ca≤1
  far:∀k,j+i≤k→u2.getD k 0=u.getD k 0
  eq:valL u2=valL u+pw j*valL (v.take i) - pw (j+i)*ca
theorem AbI.start {u:List Int} (h:okL u) (j:Nat) (v:List Int):AbI u j v 0 u 0:=⟨rfl,h,by decide,by decide,fun _ _=>rfl,by simp [valL]⟩
theorem AbI.step {u:List Int} {j:Nat} {v:List Int} {i:Nat} {u2:List Int} {ca y c2:Int} (h:AbI u j v i u2 ca) (hj:j+i<u.length)
    (hy:y=u2.getD (j+i) 0+v.getD i 0+ca - 1000000000*c2) (hy0:0≤y∧y<1000000000) (hb:0≤c2∧c2≤1):AbI u j v (i+1) (u2.set (j+i) y) c2:=by
  refine ⟨by rw [List.length_set];exact h.len,okL_set h.ok hy0.1 hy0.2,hb.1,hb.2,fun k hk=>by rw [getD_set_ne (by omega)];exact h.far k (by omega),?_⟩
  rw [valL_set y (by rw [h.len];exact hj),h.eq,valL_take_succ,hy]
  rw [← Nat.add_assoc,pw_succ,pw_add]
  grind
theorem LgI.next {M n:Nat} {a v:Int} {j:Nat} {u qs:List Int} (h:LgI M n a v (j+1) u qs) {u':List Int} {g:Int} (hl:u'.length=M) (ho:okL u') (hg:0≤g∧g<1000000000) (he:valL u'=valL u - pw j*(g*v)) (hlt:valL u'<v*pw j):LgI M n a v j u' (g :: qs):=by
  have hj:=h.jle
  refine ⟨hl,ho,by rw [List.length_cons,h.ql];omega,okL_cons.2 ⟨hg,h.qo⟩,by omega,?_,hlt⟩
  rw [he,←h.eq,pw_succ]
  simp only [valL]
  grind
theorem LgI.bound {M n:Nat} {a v:Int} {j:Nat} {u qs:List Int} (h:LgI M n a v (j+1) u qs) {g:Int} (hup:valL (u.drop j)<(g+1)*v):valL u<pw j*((g+1)*v):=by
  obtain ⟨h1,h2,h3,h4,_⟩:=h.T
  have:pw j*(valL (u.drop j)+1)≤pw j*((g+1)*v):=Int.mul_le_mul_of_nonneg_left (by omega) (Int.le_of_lt (pw_pos j))
  rw [Int.mul_add,Int.mul_one] at this;omega
theorem LgI.low {M n:Nat} {a v:Int} {j:Nat} {u qs:List Int} (h:LgI M n a v (j+1) u qs) {g:Int} (hdn:g*v<valL (u.drop j)+v):pw j*(g*v)<valL u+pw j*v:=by
  obtain ⟨h1,h2,h3,h4,_⟩:=h.T
  have:pw j*(g*v+1)≤pw j*(valL (u.drop j)+v):=Int.mul_le_mul_of_nonneg_left (by omega) (Int.le_of_lt (pw_pos j))
  rw [Int.mul_add,Int.mul_add,Int.mul_one] at this
  have:=pw_pos j;omega
theorem at_split {u:List Int} {k:Nat} (hk:k<u.length) (h0:valL (u.drop (k+1))=0):valL u=valL (u.take k)+pw k*u.getD k 0:=by
  rw [valL_cut u k (by omega),valL_drop u k,h0];simp
theorem drop_far {u u2:List Int} {k:Nat} (hl:u2.length=u.length) (h:∀i,k≤i→u2.getD i 0=u.getD i 0):u2.drop k=u.drop k:=
  ext_getD (by simp [hl]) (fun i hi=>by rw [getD_drop',getD_drop'];exact h _ (by omega))
theorem LgI.pos {M n:Nat} {a:Int} {b j:Nat} {u qs:List Int} (h:LgI M n a (b:Int) (j+1) u qs) {g:Int} (hg:0≤g∧g<1000000000) (hup:valL (u.drop j)<(g+1)*(b:Int))
    {u2:List Int} {bo ca:Int} (hm:MsI u j g (digs b) n u2 bo ca) (hn:(digs b).length=n) (hd:0≤u2.getD (j+n) 0 - bo - ca):LgI M n a (b:Int) j (u2.set (j+n) (u2.getD (j+n) 0 - bo - ca)) (g :: qs):=by
  have hj:=h.jle
  have hx:=okL_getD hm.ok (j+n)
  have h1:=hm.b0;have h2:=hm.c0
  have he:valL (u2.set (j+n) (u2.getD (j+n) 0 - bo - ca))=valL u - pw j*(g*(b:Int)):=by
    rw [valL_set _ (by rw [hm.len,h.ul];omega),hm.eq,List.take_of_length_le (by omega),valL_digs]
    grind
  refine h.next (by rw [List.length_set,hm.len,h.ul]) (okL_set hm.ok hd (by omega)) hg he ?_
  have:=h.bound hup
  rw [he]
  have e:pw j*((g+1)*(b:Int))=pw j*(g*(b:Int))+(b:Int)*pw j:=by grind
  omega
theorem LgI.neg1 {M n:Nat} {a:Int} {b j:Nat} {u qs:List Int} (h:LgI M n a (b:Int) (j+1) u qs) {g:Int}
    {u2:List Int} {bo ca:Int} (hm:MsI u j g (digs b) n u2 bo ca) (hn:(digs b).length=n) (hd:u2.getD (j+n) 0 - bo - ca<0):g≠0:=fun hg=>by
  subst hg
  have hj:=h.jle
  have hlen2:j+n<u2.length:=by rw [hm.len,h.ul];omega
  have hhi2:valL (u2.drop (j+n+1))=0:=by rw [drop_far hm.len (fun i hi=>hm.far i (by omega))];exact h.high hn
  have s2:=at_split hlen2 hhi2
  have t2:=valL_take_lt hm.ok (j+n)
  have hp:=pw_pos (j+n)
  have e:=hm.eq
  have:pw (j+n)*(u2.getD (j+n) 0 - bo - ca)≤pw (j+n)*(-1):=Int.mul_le_mul_of_nonneg_left (by omega) (Int.le_of_lt hp)
  rw [Int.mul_sub,Int.mul_sub] at this
  rw [Int.mul_add,Int.zero_mul,Int.mul_zero] at e
  have:=valL_nonneg h.uo
  omega
theorem LgI.neg {M n:Nat} {a:Int} {b j:Nat} {u qs:List Int} (h:LgI M n a (b:Int) (j+1) u qs) {g:Int} (hg:0≤g∧g<1000000000) (hdn:g*(b:Int)<valL (u.drop j)+(b:Int)) (hup:valL (u.drop j)<(g+1)*(b:Int))
    {u2:List Int} {bo ca:Int} (hm:MsI u j g (digs b) n u2 bo ca) (hn:(digs b).length=n) (hd:u2.getD (j+n) 0 - bo - ca<0)
    {u4:List Int} {c:Int} (hb:AbI (u2.set (j+n) (u2.getD (j+n) 0 - bo - ca+1000000000)) j (digs b) n u4 c):1≤g∧LgI M n a (b:Int) j (u4.set (j+n) ((u4.getD (j+n) 0+c)%1000000000)) ((g - 1) :: qs):=by
  have hj:=h.jle
  have hx:=okL_getD hm.ok (j+n)
  have hy:=okL_getD hb.ok (j+n)
  have h1:=hm.b0;have h2:=hm.c0;have h3:=hm.b1;have h4:=hm.c1;have c0:=hb.c0;have c1:=hb.c1
  have hlen2:j+n<u2.length:=by rw [hm.len,h.ul];omega
  have hlen4:j+n<u4.length:=by rw [hb.len,List.length_set];exact hlen2
  have hhi:=h.high hn
  have hhi2:valL (u2.drop (j+n+1))=0:=by rw [drop_far hm.len (fun i hi=>hm.far i (by omega))];exact hhi
  have s2:=at_split hlen2 hhi2
  have t2:=valL_take_lt hm.ok (j+n)
  have hp:=pw_pos (j+n)
  -- what the subtraction left is below 0
  have hS:valL u - pw j*(g*(b:Int))<0:=by
    have e:=hm.eq
    rw [List.take_of_length_le (by omega),valL_digs] at e
    have:pw (j+n)*(u2.getD (j+n) 0 - bo - ca)≤pw (j+n)*(-1):=Int.mul_le_mul_of_nonneg_left (by omega) (Int.le_of_lt hp)
    rw [Int.mul_sub,Int.mul_sub] at this
    rw [Int.mul_add] at e
    omega
  have hlow:=h.low hdn
  have hg1:1≤g:=by
    refine Decidable.byContradiction fun hc=> ?_
    have:g=0:=by omega
    subst this
    have:=valL_nonneg h.uo
    simp at hS;omega
  refine ⟨hg1,?_⟩
  have e4:=hb.eq
  rw [List.take_of_length_le (by omega),valL_digs,valL_set _ hlen2] at e4
  have e2:=hm.eq
  rw [List.take_of_length_le (by omega),valL_digs] at e2
  have hhi4:valL (u4.drop (j+n+1))=0:=by
    rw [drop_far (u:=u2.set (j+n) (u2.getD (j+n) 0 - bo - ca+1000000000)) hb.len (fun i hi=>hb.far i (by omega)),drop_far (u:=u2) (by simp) (fun i hi=>getD_set_ne (by omega) _)];exact hhi2
  have s4:=at_split hlen4 hhi4
  have t4:=valL_take_lt hb.ok (j+n)
  have hk:=Int.mul_ediv_add_emod (u4.getD (j+n) 0+c) 1000000000
  have hk0:=Int.emod_nonneg (u4.getD (j+n) 0+c) (show (1000000000:Int)≠0 by decide)
  have hk1:=Int.emod_lt_of_pos (u4.getD (j+n) 0+c) (show (0:Int)<1000000000 by decide)
  have hset:valL (u4.set (j+n) ((u4.getD (j+n) 0+c)%1000000000))=valL u4+pw (j+n)*((u4.getD (j+n) 0+c)%1000000000 - u4.getD (j+n) 0):=valL_set _ hlen4
  have hbig:(b:Int)<pw n:=by rw [← hn];exact digs_lt b
  have hbw:pw j*(b:Int)<pw (j+n):=by rw [pw_add];exact Int.mul_lt_mul_of_pos_left hbig (pw_pos j)
  -- the last group overflows
  have hco:(u4.getD (j+n) 0+c) / 1000000000=1:=by
    have hq:(u4.getD (j+n) 0+c) / 1000000000=0∨(u4.getD (j+n) 0+c) / 1000000000=1:=by omega
    rcases hq with hq|hq
    · exfalso
      have hy2:u4.getD (j+n) 0+c≤999999999:=by omega
      have m1:pw (j+n)*(u4.getD (j+n) 0+c)≤pw (j+n)*999999999:=Int.mul_le_mul_of_nonneg_left hy2 (Int.le_of_lt hp)
      rw [Int.mul_add] at m1
      have m2:pw (j+n)*(u2.getD (j+n) 0 - bo - ca+1000000000 - u2.getD (j+n) 0)=pw (j+n)*1000000000 - pw (j+n)*(bo+ca):=by grind
      rw [m2] at e4
      omega
    · exact hq
  have he:valL (u4.set (j+n) ((u4.getD (j+n) 0+c)%1000000000))=valL u - pw j*((g - 1)*(b:Int)):=by
    rw [hset,e4,e2]
    have hr:(u4.getD (j+n) 0+c)%1000000000=u4.getD (j+n) 0+c - 1000000000:=by omega
    rw [hr]
    grind
  refine h.next (by rw [List.length_set,hb.len,List.length_set,hm.len,h.ul]) (okL_set hb.ok hk0 hk1) ⟨by omega,by omega⟩ he ?_
  rw [he]
  have e:pw j*((g - 1)*(b:Int))=pw j*(g*(b:Int)) - (b:Int)*pw j:=by grind
  omega
theorem LgI.start {M n a b:Nat} {u:List Int} (ho:okL u) (hl:u.length=M) (hv:valL u=(a:Int)) (hn:(digs b).length=n) (hM:n+1≤M) (hu:valL u<pw (M - 1)) (h1:1≤n):LgI M n (a:Int) (b:Int) (M - n) u []:=by
  refine ⟨hl,ho,by simp,okL_nil,by omega,by rw [hv];simp [valL],?_⟩
  have h2:pw (n - 1)≤(b:Int):=digs_low (by omega)
  have h3:pw (M - 1)=pw (n - 1)*pw (M - n):=by rw [← pw_add];congr 1;omega
  have h4:pw (n - 1)*pw (M - n)≤(b:Int)*pw (M - n):=mul_le_of (Int.le_of_lt (pw_pos _)) h2
  omega
theorem LgI.fin {M n a b:Nat} {u qs:List Int} (h:LgI M n (a:Int) (b:Int) 0 u qs) (hn:(digs b).length=n):trimL qs=digs (a / b)∧trimL (u.take n)=digs (a%b):=by
  have e:=h.eq;have hlt:=h.lt
  rw [pw_zero,Int.mul_one] at e hlt
  have h0:=valL_nonneg h.uo;have hq0:=valL_nonneg h.qo
  have hu:valL u=((a%b:Nat):Int):=by
    rw [Int.natCast_emod,←e,Int.add_mul_emod_self_left,Int.emod_eq_of_lt h0 hlt]
  have hq:valL qs=((a / b:Nat):Int):=by
    rw [Int.natCast_ediv,←e,Int.add_mul_ediv_left _ _ (by omega),Int.ediv_eq_zero_of_lt h0 hlt];omega
  refine ⟨trimL_of h.qo hq,trimL_of (okL_take h.uo n) ?_⟩
  have h1:=h.jle
  have hc:=valL_cut u n (by rw [h.ul];omega)
  have hz:valL (u.drop n)=0:=drop_high h.uo (by have:=digs_lt b;rw [hn] at this;omega)
  rw [hz,Int.mul_zero,Int.add_zero] at hc
  rw [← hc,hu]
end Go.Proofs.YtjcpbhlijoigfaaGreat.Big
namespace Go.Proofs.YtjcpbhlijoigfaaGreat.Big
def fq (x y:Int):Int:=if 0<y then x / y else (-x) / (-y)
def fr (x y:Int):Int:=x - y*fq x y
theorem ediv_of {x y q r:Int} (h:x=y*q+r) (h0:0≤r) (h1:r<y):x / y=q:=by
  rw [h,Int.add_comm,Int.add_mul_ediv_left _ _ (by omega),Int.ediv_eq_zero_of_lt h0 h1];omega
theorem fq_of {x y q r:Int} (h:x=y*q+r) (hr:(0<y∧0≤r∧r<y)∨(y<0∧y<r∧r≤0)):fq x y=q∧fr x y=r:=by
  have e:fq x y=q:=by
    unfold fq
    rcases hr with ⟨h1,h2,h3⟩|⟨h1,h2,h3⟩
    · rw [if_pos h1];exact ediv_of h h2 h3
    · rw [if_neg (by omega)]
      exact ediv_of (r:= -r) (by rw [h,Int.neg_mul];omega) (by omega) (by omega)
  refine ⟨e,?_⟩
  unfold fr;rw [e];omega
theorem abs_split (x y:Int):(x.natAbs:Int)=(y.natAbs:Int)*((x.natAbs / y.natAbs:Nat):Int)+((x.natAbs%y.natAbs:Nat):Int):=by
  rw [← Int.natCast_mul,←Int.natCast_add,Nat.div_add_mod]
theorem sg_t (n:Int):sg true n= -n:=rfl
theorem sg_f (n:Int):sg false n=n:=rfl
theorem fq_same {x y:Int} (hy:y≠0) (h:decide (x<0)=decide (y<0)):sg false ((x.natAbs / y.natAbs:Nat):Int)=fq x y∧sg (decide (y<0)) ((x.natAbs%y.natAbs:Nat):Int)=fr x y:=by
  have e:=abs_split x y
  have hlt:=Nat.mod_lt x.natAbs (show 0<y.natAbs by omega)
  generalize x.natAbs / y.natAbs=q at*
  generalize x.natAbs%y.natAbs=r at*
  rw [sg_f]
  by_cases hy0:y<0
  · have hx : x < 0 := by simpa [hy0] using h
    rw [decide_eq_true hy0,sg_t]
    have:=fq_of (x:=x) (y:=y) (q:=(q:Int)) (r:= -(r:Int)) (by
      have h1:(y.natAbs:Int)= -y:=by omega
      rw [h1,Int.neg_mul] at e;omega) (.inr (by omega))
    exact ⟨this.1.symm,this.2.symm⟩
  · have hx : ¬ x < 0 := by simpa [hy0] using h
    rw [decide_eq_false hy0,sg_f]
    have:=fq_of (x:=x) (y:=y) (q:=(q:Int)) (r:=(r:Int)) (by
      have h1:(y.natAbs:Int)=y:=by omega
      rw [h1] at e;omega) (.inl (by omega))
    exact ⟨this.1.symm,this.2.symm⟩
theorem fq_even {x y:Int} (hy:y≠0) (h:¬decide (x<0)=decide (y<0)) (hr:x.natAbs%y.natAbs=0):sg true ((x.natAbs / y.natAbs:Nat):Int)=fq x y∧sg (decide (y<0)) ((x.natAbs%y.natAbs:Nat):Int)=fr x y:=by
  have e:=abs_split x y
  rw [hr] at e ⊢
  generalize x.natAbs / y.natAbs=q at*
  rw [sg_t,show sg (decide (y<0)) ((0:Nat):Int)=0 from sg_zero _]
  have hs:x=y*(-(q:Int))+0:=by
    rw [Int.mul_neg]
    by_cases hy0:y<0
    · have hx : ¬ x < 0 := by simpa [hy0] using h
      have h1:(y.natAbs:Int)= -y:=by omega
      rw [h1,Int.neg_mul] at e;omega
    · have hx : x < 0 := by simpa [hy0] using h
      have h1:(y.natAbs:Int)=y:=by omega
      rw [h1] at e;omega
  have:=fq_of hs (by omega)
  exact ⟨this.1.symm,this.2.symm⟩
theorem fq_odd {x y:Int} (hy:y≠0) (h:¬decide (x<0)=decide (y<0)) (hr:x.natAbs%y.natAbs≠0):sg true ((x.natAbs / y.natAbs+1:Nat):Int)=fq x y∧sg (decide (y<0)) ((y.natAbs - x.natAbs%y.natAbs:Nat):Int)=fr x y:=by
  have e:=abs_split x y
  have hlt:=Nat.mod_lt x.natAbs (show 0<y.natAbs by omega)
  generalize x.natAbs / y.natAbs=q at*
  generalize x.natAbs%y.natAbs=r at*
  rw [sg_t]
  by_cases hy0:y<0
  · have hx : ¬ x < 0 := by simpa [hy0] using h
    rw [decide_eq_true hy0,sg_t]
    have:=fq_of (x:=x) (y:=y) (q:= -((q+1:Nat):Int)) (r:= -((y.natAbs - r:Nat):Int)) (by
      have h1:(y.natAbs:Int)= -y:=by omega
      rw [h1,Int.neg_mul] at e
      rw [Int.mul_neg,Int.natCast_add,Int.mul_add];omega) (.inr (by omega))
    exact ⟨this.1.symm,this.2.symm⟩
  · have hx : x < 0 := by simpa [hy0] using h
    rw [decide_eq_false hy0,sg_f]
    have:=fq_of (x:=x) (y:=y) (q:= -((q+1:Nat):Int)) (r:=((y.natAbs - r:Nat):Int)) (by
      have h1:(y.natAbs:Int)=y:=by omega
      rw [h1] at e
      rw [Int.mul_neg,Int.natCast_add,Int.mul_add];omega) (.inl (by omega))
    exact ⟨this.1.symm,this.2.symm⟩
theorem fr_nonneg {x y:Int} (h:0<y):fq x y=x / y∧fr x y=x%y:=by
  have e:fq x y=x / y:=by unfold fq;rw [if_pos h]
  refine ⟨e,?_⟩
  unfold fr;rw [e]
  have:=Int.mul_ediv_add_emod x y;omega
theorem gcd_rest {a b:Nat}:Nat.gcd b (a%b)=Nat.gcd a b:=by rw [Nat.gcd_comm b,←Nat.gcd_rec,Nat.gcd_comm]
theorem ln_mono' {a b:Nat} (h:a≤b):(digs a).length≤(digs b).length:=by
  refine digs_len ?_
  have:=digs_lt b;omega
theorem len_mul_ge {a s:Nat} (h:1≤s):(digs a).length≤(digs (a*s)).length:=ln_mono' (Nat.le_mul_of_pos_right a h)
theorem len_mul_le (a s:Nat):(digs (a*s)).length≤(digs a).length+(digs s).length:=by
  refine digs_len ?_
  rw [Int.natCast_mul,pw_add]
  have h1:(a:Int)*s≤pw (digs a).length*s:=Int.mul_le_mul_of_nonneg_right (Int.le_of_lt (digs_lt a)) (by omega)
  have h2:pw (digs a).length*(s:Int)<pw (digs a).length*pw (digs s).length:=Int.mul_lt_mul_of_pos_left (digs_lt s) (pw_pos _)
  omega
theorem scale_len {b n:Nat} (hn:(digs b).length=n+1) {s:Nat} (hs:s=(1000000000 / ((digs b).getD n 0+1)).toNat):1≤s∧s≤500000000∧(digs (b*s)).length=n+1:=by
  have ht:=digs_top hn
  have ho:=okL_getD (digs_ok b) n
  have h1:1≤1000000000 / ((digs b).getD n 0+1):=by
    refine Int.le_ediv_of_mul_le (by omega) (by omega)
  have h2:1000000000 / ((digs b).getD n 0+1)≤500000000:=by
    refine Int.ediv_le_of_le_mul (by omega) (by omega)
  have hs1:(s:Int)=1000000000 / ((digs b).getD n 0+1):=by rw [hs];exact Int.toNat_of_nonneg (by omega)
  refine ⟨by omega,by omega,?_⟩
  have hge:=len_mul_ge (a:=b) (s:=s) (by omega)
  have hle:(digs (b*s)).length≤n+1:=by
    refine digs_len ?_
    have hv:=valL_digs b
    have hc:=valL_cut (digs b) n (by omega)
    have hd:valL ((digs b).drop n)=(digs b).getD n 0:=by rw [valL_drop,List.drop_eq_nil_of_le (by omega)];simp [valL]
    have hl:=valL_take_lt (digs_ok b) n
    rw [hd] at hc
    have hp:=pw_pos n
    have hb:(b:Int)<((digs b).getD n 0+1)*pw n:=by rw [Int.add_mul,Int.mul_comm _ (pw n)];omega
    have hm:((digs b).getD n 0+1)*(s:Int)≤1000000000:=by rw [hs1];exact Int.mul_ediv_self_le (by omega)
    rw [Int.natCast_mul,pw_succ]
    have h3:(b:Int)*s<((digs b).getD n 0+1)*pw n*s:=Int.mul_lt_mul_of_pos_right hb (by omega)
    have h4:((digs b).getD n 0+1)*pw n*s=((digs b).getD n 0+1)*s*pw n:=by ac_rfl
    have h5:((digs b).getD n 0+1)*(s:Int)*pw n≤1000000000*pw n:=mul_le_of (Int.le_of_lt hp) hm
    omega
  omega
theorem scale_div {a b s:Nat} (hs:1≤s):a*s / (b*s)=a / b∧a*s%(b*s) / s=a%b:=by
  refine ⟨Nat.mul_div_mul_right a b (by omega),?_⟩
  rw [Nat.mul_mod_mul_right,Nat.mul_div_cancel _ (by omega)]
theorem digs_one {s:Nat} (h1:1≤s) (h2:s<1000000000):digs s=[(s:Int)]:=by
  rw [digs_pos (by omega),Nat.mod_eq_of_lt h2,Nat.div_eq_of_lt h2,digs_zero]
theorem mul_lim3 {g x:Int} (h0:0≤g) (h1:g≤2000000000) (h2:0≤x) (h3:x<1000000000):0≤g*x∧g*x≤2000000000000000000:=by
  have a:=Int.mul_nonneg h0 h2
  have b:g*x≤2000000000*x:=mul_le_of h2 h1
  omega
theorem one_digit {b:Nat} (h:(digs b).length=1):(digs b).getD 0 0=(b:Int):=by
  have h1:=valL_cut (digs b) 0 (Nat.zero_le _)
  have h2:=valL_drop (digs b) 0
  rw [List.drop_eq_nil_of_le (show (digs b).length≤0+1 by omega)] at h2
  rw [valL_digs,h2] at h1
  simp [valL,pw_zero] at h1;exact h1.symm
theorem zjf {b:Nat} (h:0<b):1≤(digs b).length:=by
  refine Nat.pos_of_ne_zero fun e=> ?_
  have:=len_digs_nil.1 e;omega
theorem two_lt {a:Nat} (h:(digs a).length≤2):a<1000000000000000000:=by
  have h1:=digs_lt a
  have h2:=pw_mono h
  have:pw 2=1000000000000000000:=by decide
  omega
theorem word_step {A:List Int} (k:Nat):valL (A.drop (k+1))*1000000000+A.getD k 0=valL (A.drop k):=by rw [valL_drop A k];omega
theorem word_keep {a k:Nat} {z:Int} (h:k+1≤(digs a).length) (hz:z=valL ((digs a).drop (k+1))):(z*1000000000+(digs a).getD k 0)*pw k≤(a:Int):=by
  have h1:=valL_cut (digs a) k (by omega)
  rw [valL_digs,valL_drop,←hz] at h1
  have h2:=valL_take_lt (digs_ok a) k
  have:(z*1000000000+(digs a).getD k 0)*pw k=pw k*((digs a).getD k 0+1000000000*z):=by grind
  omega
theorem word_lim {a k:Nat} {z:Int} (hl:(digs a).length≤2) (h:k+1≤(digs a).length) (h0:0≤z) (hp:z*pw (k+1)≤(a:Int)):z<1000000000:=by
  have h1:=two_lt hl
  have h2:=pw_mono (show 1≤k+1 by omega)
  have h3:pw 1=1000000000:=by decide
  refine Decidable.byContradiction fun hc=> ?_
  have h4:1000000000*pw (k+1)≤z*pw (k+1):=mul_le_of (Int.le_of_lt (pw_pos _)) (by omega)
  omega
theorem cmp_b (x y:Int): -1≤cmp x y∧cmp x y≤1:=by unfold cmp;split <;> (try split) <;> decide
theorem cmp_of {x y u v:Int} (h1:x<y↔u<v) (h2:y<x↔v<u):cmp x y=cmp u v:=by
  unfold cmp;simp only [h1,h2]
theorem cmp_flip (x y:Int): - cmp x y=cmp y x:=by
  unfold cmp
  by_cases h1:x<y
  · rw [if_pos h1,if_neg (by omega),if_pos h1];rfl
  · by_cases h2 : y < x
    · rw [if_neg h1,if_pos h2,if_pos h2]
    · rw [if_neg h1,if_neg h2,if_neg h2,if_neg h1];rfl
theorem sign_le {x:Int}:(x<0∧x.sign= -1)∨(x=0∧x.sign=0)∨(0<x∧x.sign=1):=by
  rcases Int.lt_trichotomy x 0 with h|h|h
  · exact .inl ⟨h,Int.sign_eq_neg_one_of_neg h⟩
  · exact .inr (.inl ⟨h,by rw [h];rfl⟩)
  · exact .inr (.inr ⟨h,Int.sign_eq_one_of_pos h⟩)
theorem cmp_signs {x y:Int} (h:x.sign≠y.sign):cmp x y=cmp x.sign y.sign:=by
  have h1:=sign_le (x:=x);have h2:=sign_le (x:=y)
  exact cmp_of (by omega) (by omega)
theorem cmp_neg {x y:Int} (h:¬x.sign≠y.sign) (hx:x<0):cmp x y= - cmp (x.natAbs:Int) (y.natAbs:Int):=by
  have h1:=sign_le (x:=x);have h2:=sign_le (x:=y)
  rw [cmp_flip];exact cmp_of (by omega) (by omega)
theorem cmp_pos {x y:Int} (h:¬x.sign≠y.sign) (hx:¬x<0):cmp x y=cmp (x.natAbs:Int) (y.natAbs:Int):=by
  have h1:=sign_le (x:=x);have h2:=sign_le (x:=y)
  exact cmp_of (by omega) (by omega)
end Go.Proofs.YtjcpbhlijoigfaaGreat.Big
namespace Go.Proofs.YtjcpbhlijoigfaaGreat.Big
structure ScI (A:List Int) (d:Int) (i:Nat) (os:List Int) (cy:Int):Prop where
  le:i≤A.length
  len:os.length=i
  ok:okL os
  c0:0≤cy
  c1:cy<1000000000
  val:valL os+pw i*cy=valL (A.take i)*d
theorem ScI.start (A:List Int) (d:Int):ScI A d 0 [] 0:=⟨Nat.zero_le _,rfl,okL_nil,by decide,by decide,by simp [valL]⟩
theorem sc_lim {x d cy:Int} (hx:0≤x∧x<1000000000) (hd:0≤d∧d<1000000000) (hc:0≤cy∧cy<1000000000):0≤x*d∧x*d+cy<1000000000000000000∧0≤(x*d+cy) / 1000000000∧(x*d+cy) / 1000000000<1000000000:=by
  have:=mul_lim hx hd;omega
theorem ScI.step {A:List Int} {d:Int} {i:Nat} {os:List Int} {cy:Int} (h:ScI A d i os cy) (hA:okL A) (hd:0≤d∧d<1000000000) (hi:i<A.length):
    ScI A d (i+1) (os++[(A.getD i 0*d+cy)%1000000000]) ((A.getD i 0*d+cy) / 1000000000):=by
  have hl:=sc_lim (okL_getD hA i) hd ⟨h.c0,h.c1⟩
  refine ⟨by omega,by simp [h.len],okL_snoc h.ok (by omega) (by omega),hl.2.2.1,hl.2.2.2,?_⟩
  rw [valL_snoc,h.len,valL_take_succ,pw_succ]
  have e:=h.val
  have hs:(A.getD i 0*d+cy)=1000000000*((A.getD i 0*d+cy) / 1000000000)+(A.getD i 0*d+cy)%1000000000:=by omega
  generalize (A.getD i 0*d+cy) / 1000000000=q at*
  generalize (A.getD i 0*d+cy)%1000000000=r at*
  have h2:pw i*(A.getD i 0*d+cy)=pw i*(1000000000*q+r):=by rw [hs]
  generalize A.getD i 0=x at*
  generalize valL os=a at*
  generalize valL (A.take i)=b at*
  generalize pw i=p at*
  grind
theorem ScI.fin {a d i:Nat} {os:List Int} {cy:Int} (h:ScI (digs a) (d:Int) i os cy) (hi:(digs a).length≤i):okL (os++[cy])∧valL (os++[cy])=((a*d:Nat):Int):=by
  refine ⟨okL_snoc h.ok h.c0 h.c1,?_⟩
  rw [valL_snoc,h.len,h.val,List.take_of_length_le hi,valL_digs,Int.natCast_mul]
theorem pair_val {a:Nat} (h:(digs a).length≤2):(digs a).getD 1 0*1000000000+(digs a).getD 0 0=(a:Int):=by
  have h0:=valL_drop (digs a) 0
  have h1:=valL_drop (digs a) 1
  rw [List.drop_zero,valL_digs] at h0
  have h2:valL ((digs a).drop 2)=0:=by rw [List.drop_eq_nil_of_le h];rfl
  simp only [Nat.zero_add,Nat.reduceAdd] at h0 h1
  omega
theorem two_val {u:Nat} (h:u<1000000000000000000):okL [((u%1000000000:Nat):Int),((u / 1000000000:Nat):Int)]∧valL [((u%1000000000:Nat):Int),((u / 1000000000:Nat):Int)]=(u:Int):=by
  refine ⟨okL_cons.2 ⟨by omega,okL_cons.2 ⟨by omega,okL_nil⟩⟩,?_⟩
  simp only [valL];omega
theorem valL_cut' (A:List Int) (k:Nat):valL A=valL (A.take k)+pw k*valL (A.drop k):=by
  by_cases h:k≤A.length
  · exact valL_cut A k h
  · rw [List.drop_eq_nil_of_le (by omega),List.take_of_length_le (by omega)];simp [valL]
structure PtI (A V:Nat) (j:Nat) (qs:List Int) (R:Nat):Prop where
  le:j≤(digs A).length
  ok:okL qs
  val:valL ((digs A).drop j)=valL qs*V+R
  lt:R<V
theorem PtI.start {A V n j R:Nat} (hV:(digs V).length=n+1) (hj:j+n=(digs A).length) (hR:valL ((digs A).drop j)=(R:Int)):PtI A V j [] R:=by
  refine ⟨by omega,okL_nil,by rw [hR];simp [valL],?_⟩
  have h1:=valL_lt (okL_drop (digs_ok A) j)
  rw [hR,List.length_drop,show (digs A).length - j=n by omega] at h1
  have h2:=digs_low (k:=n) (n:=V) (by omega)
  omega
theorem pt_lim {V R d:Nat} (h:R<V) (hd:d<1000000000):R*1000000000+d<V*1000000000:=by omega
theorem PtI.step {A V j:Nat} {qs:List Int} {R d g r:Nat} (h:PtI A V (j+1) qs R) (hd:(digs A).getD j 0=(d:Int)) (hg:r+V*g=R*1000000000+d) (hr:r<V):PtI A V j ((g:Int) :: qs) r:=by
  have hd1:=okL_getD (digs_ok A) j
  have hgl:g<1000000000:=by
    have h1:=pt_lim h.lt (show d<1000000000 by omega)
    exact Nat.lt_of_mul_lt_mul_left (a:=V) (by omega)
  refine ⟨Nat.le_of_succ_le h.le,okL_cons.2 ⟨by omega,h.ok⟩,?_,hr⟩
  rw [valL_drop,h.val,hd]
  simp only [valL]
  have hg2:(r:Int)+(V:Int)*(g:Int)=(R:Int)*1000000000+(d:Int):=by
    rw [← Int.natCast_mul];omega
  generalize valL qs=q at*
  grind
theorem pt_guess {W V m d:Nat} (hW:W<V*1000000000) (hV:(digs V).length=m+1) (hd:(d:Int)=((digs W).getD (m+1) 0*1000000000+(digs W).getD m 0) / ((digs V).getD m 0+1)):V*d≤W∧d<1000000000:=by
  have hw:=valL_cut' (digs W) m
  have hv:=valL_cut' (digs V) m
  rw [valL_digs] at hw hv
  have h1:=valL_drop (digs W) m
  have h2:=valL_drop (digs W) (m+1)
  have h3:=valL_nonneg (okL_drop (digs_ok W) (m+1+1))
  have h4:=valL_drop (digs V) m
  rw [List.drop_eq_nil_of_le (by omega:(digs V).length≤m+1)] at h4
  have h5:=valL_take_lt (digs_ok W) m
  have h6:=valL_take_lt (digs_ok V) m
  have h7:=okL_getD (digs_ok V) m
  have hp:=pw_pos m
  have h8:valL ([]:List Int)=0:=rfl
  have h9:=Int.mul_ediv_self_le (x:=(digs W).getD (m+1) 0*1000000000+(digs W).getD m 0) (k:=(digs V).getD m 0+1) (by omega)
  rw [← hd] at h9
  have key:(V:Int)*(d:Int)≤(W:Int):=by
    have a1:(V:Int)≤((digs V).getD m 0+1)*pw m:=by
      rw [h8,Int.mul_zero,Int.add_zero] at h4;rw [hv,h4,Int.add_mul,Int.one_mul,Int.mul_comm (pw m)];omega
    have a2:((digs W).getD (m+1) 0*1000000000+(digs W).getD m 0)*pw m≤(W:Int):=by
      have:(digs W).getD (m+1) 0*1000000000+(digs W).getD m 0≤valL ((digs W).drop m):=by omega
      have:=mul_le_of (Int.le_of_lt hp) this
      rw [Int.mul_comm (valL _)] at this;omega
    have a3:=mul_le_of (w:=(d:Int)) (by omega) a1
    have a4:=mul_le_of (Int.le_of_lt hp) h9
    have a5:((digs V).getD m 0+1)*pw m*(d:Int)=((digs V).getD m 0+1)*(d:Int)*pw m:=by grind
    omega
  have k2:V*d≤W:=by rw [← Int.natCast_mul] at key;omega
  exact ⟨k2,Nat.lt_of_mul_lt_mul_left (a:=V) (by omega)⟩
theorem PtI.fin {A V:Nat} {qs:List Int} {R:Nat} (h:PtI A V 0 qs R):valL qs=((A / V:Nat):Int)∧R=A%V:=by
  have h0:=h.val
  rw [List.drop_zero,valL_digs] at h0
  have hn:=valL_nonneg h.ok
  have hl:=h.lt
  obtain ⟨q,hq⟩:∃q:Nat,valL qs=(q:Int):=⟨(valL qs).toNat,by omega⟩
  rw [hq,←Int.natCast_mul] at h0
  have h1:A=R+V*q:=by rw [Nat.mul_comm];omega
  rw [hq,h1,Nat.add_mul_div_left _ _ (by omega),Nat.div_eq_of_lt hl,Nat.add_mul_mod_self_left,Nat.mod_eq_of_lt hl]
  simp
theorem pt_wlen {W V m:Nat} (hW:W<V*1000000000) (hV:(digs V).length=m+1):(digs W).length≤m+2:=by
  refine digs_len ?_
  have h1:=digs_lt V
  rw [hV] at h1
  rw [pw_succ];omega
theorem made_nat {l:List Int} {n:Nat} (ho:okL l) (h:valL l=(n:Int)):(sg false (valL l)).natAbs=n:=by
  rw [sg_abs (valL_nonneg ho),h];exact Int.toNat_natCast _
theorem ln_fq {x y:Int} (hy:y≠0):ln (fq x y)≤ln x+2:=by
  have key:(fq x y).natAbs≤x.natAbs+1:=by
    have hd:=Nat.div_le_self x.natAbs y.natAbs
    by_cases h:decide (x<0)=decide (y<0)
    · rw [← (fq_same hy h).1,sg_f,Int.natAbs_natCast];omega
    · by_cases hr : x.natAbs % y.natAbs = 0
      · rw [← (fq_even hy h hr).1,sg_t,Int.natAbs_neg,Int.natAbs_natCast];omega
      · rw [← (fq_odd hy h hr).1,sg_t,Int.natAbs_neg,Int.natAbs_natCast];omega
  unfold ln
  have h1:=ln_mono' key
  have h2:=len_add x.natAbs 1
  have h3:(digs 1).length=1:=by decide
  omega
end Go.Proofs.YtjcpbhlijoigfaaGreat.Big
namespace Go.Proofs.YtjcpbhlijoigfaaGreat.Big
abbrev RQ:=(Bool×List Int)×(Bool×List Int)
def qok (x:RQ):Prop:=canon x.1.1 x.1.2∧canon x.2.1 x.2.2∧0<raw x.2.1 x.2.2∧Nat.gcd (raw x.1.1 x.1.2).natAbs (raw x.2.1 x.2.2).natAbs=1
instance (x:RQ):Decidable (qok x):=inferInstanceAs (Decidable (_∧_))
def qv (x:RQ):Rat:=if qok x then Rat.divInt (raw x.1.1 x.1.2) (raw x.2.1 x.2.2) else 0
theorem divInt_parts {n d:Int} (hd:d≠0):(Rat.divInt n d).num=d.sign*n / (Nat.gcd n.natAbs d.natAbs:Nat)∧((Rat.divInt n d).den:Int)=((d.natAbs / Nat.gcd n.natAbs d.natAbs:Nat):Int):=by
  rw [Rat.num_divInt,Rat.den_divInt,if_neg hd]
  have:Int.gcd d n=Nat.gcd n.natAbs d.natAbs:=by unfold Int.gcd;rw [Nat.gcd_comm]
  rw [this];exact ⟨rfl,rfl⟩
theorem qv_parts {x:RQ} (h:qok x):(qv x).num=raw x.1.1 x.1.2∧((qv x).den:Int)=raw x.2.1 x.2.2:=by
  unfold qv;rw [if_pos h]
  obtain ⟨_,_,h3,h4⟩:=h
  obtain ⟨e1,e2⟩:=divInt_parts (n:=raw x.1.1 x.1.2) (d:=raw x.2.1 x.2.2) (by omega)
  rw [e1,e2,h4,Int.sign_eq_one_of_pos h3]
  refine ⟨by simp,by rw [Nat.div_one];omega⟩
theorem qv_not {x:RQ} (h:¬qok x):qv x=0:=by unfold qv;rw [if_neg h]
def rq (q:Rat):RQ:=((decide (q.num<0),digs q.num.natAbs),(decide ((q.den:Int)<0),digs (q.den:Int).natAbs))
theorem rq_ok (q:Rat):qok (rq q):=by
  refine ⟨canon_digs _,canon_digs _,?_,?_⟩
  · simp only [rq];rw [raw_big];have:=q.den_pos;omega
  · simp only [rq];rw [raw_big,raw_big,Int.natAbs_natCast];exact q.reduced
theorem rq_v (q:Rat):qv (rq q)=q:=by
  obtain ⟨h1,h2⟩:=qv_parts (rq_ok q)
  refine Rat.ext ?_ ?_
  · rw [h1];simp only [rq];rw [raw_big]
  · have : ((qv (rq q)).den : Int) = (q.den : Int) := by rw [h2]; simp only [rq]; rw [raw_big]
    omega
def hq (q:Rat):Nat:=max (ln q.num) (ln (q.den:Int))
theorem hq_num (q:Rat):ln q.num≤hq q:=Nat.le_max_left _ _
theorem hq_den (q:Rat):ln (q.den:Int)≤hq q:=Nat.le_max_right _ _
theorem hq_divInt {n d:Int} (hd:d≠0):hq (Rat.divInt n d)≤max (ln n) (ln d):=by
  obtain ⟨e1,e2⟩:=divInt_parts (n:=n) hd
  unfold hq
  rw [e1,e2]
  have h1:ln (d.sign*n / (Nat.gcd n.natAbs d.natAbs:Nat))≤ln n:=by
    refine zZd ?_
    refine Nat.le_trans (Int.natAbs_ediv_le_natAbs _ _) ?_
    rw [Int.natAbs_mul,Int.natAbs_sign_of_ne_zero hd,Nat.one_mul];exact Nat.le_refl _
  have h2:ln ((d.natAbs / Nat.gcd n.natAbs d.natAbs:Nat):Int)≤ln d:=by
    refine zZd ?_
    rw [Int.natAbs_natCast];exact Nat.div_le_self _ _
  omega
theorem den_ne (q:Rat):(q.den:Int)≠0:=by have:=q.den_pos;omega
theorem add_parts (x y:Rat):x+y=Rat.divInt (x.num*y.den+y.num*x.den) (x.den*y.den):=by
  rw [Rat.add_def',←Int.natCast_mul,Rat.divInt_ofNat]
theorem mul_parts (x y:Rat):x*y=Rat.divInt (x.num*y.num) (x.den*y.den):=by
  rw [Rat.mul_def',←Int.natCast_mul,Rat.divInt_ofNat]
theorem div_parts {x y:Rat} (hy:y.num≠0):x / y=Rat.divInt (x.num*y.den) (x.den*y.num):=by
  rw [Rat.div_def,Rat.inv_def,←Rat.num_divInt_den x,Rat.divInt_mul_divInt,Rat.num_divInt_den]
theorem hq_add (x y:Rat):hq (x+y)≤hq x+hq y+1:=by
  rw [add_parts]
  refine Nat.le_trans (hq_divInt (Int.mul_ne_zero (den_ne x) (den_ne y))) ?_
  have h1:=zPc (x.num*y.den) (y.num*x.den)
  have h2:=zLa x.num y.den;have h3:=zLa y.num x.den;have h4:=zLa x.den y.den
  have a:=hq_num x;have b:=hq_den x;have c:=hq_num y;have d:=hq_den y
  omega
theorem hq_mul (x y:Rat):hq (x*y)≤hq x+hq y:=by
  rw [mul_parts]
  refine Nat.le_trans (hq_divInt (Int.mul_ne_zero (den_ne x) (den_ne y))) ?_
  have h2:=zLa x.num y.num;have h4:=zLa x.den y.den
  have a:=hq_num x;have b:=hq_den x;have c:=hq_num y;have d:=hq_den y
  omega
theorem num_ne {y:Rat} (h:y≠0):y.num≠0:=fun e=>h (Rat.num_eq_zero.1 e)
theorem hq_div (x:Rat) {y:Rat} (hy:y≠0):hq (x / y)≤hq x+hq y:=by
  rw [div_parts (num_ne hy)]
  refine Nat.le_trans (hq_divInt (Int.mul_ne_zero (den_ne x) (num_ne hy))) ?_
  have h2:=zLa x.num y.den;have h4:=zLa x.den y.num
  have a:=hq_num x;have b:=hq_den x;have c:=hq_num y;have d:=hq_den y
  omega
theorem hq_neg (x:Rat):hq (-x)=hq x:=by unfold hq;rw [Rat.neg_num,Rat.neg_den,zR]
theorem hq_sub (x y:Rat):hq (x - y)≤hq x+hq y+1:=by
  rw [Rat.sub_eq_add_neg];have:=hq_add x (-y);rw [hq_neg] at this;exact this
theorem ln_one:ln 1=1:=by decide
theorem hq_int (z:Int):hq (z:Rat)≤max (ln z) 1:=by
  unfold hq;rw [Rat.num_intCast,Rat.den_intCast];exact Nat.le_of_eq (by rw [show ((1:Nat):Int)=1 from rfl,ln_one])
theorem hq_zero:hq 0=1:=by decide
theorem hq_64 {z:Int} (h1: -9223372036854775808≤z) (h2:z≤9223372036854775807):hq (z:Rat)≤3:=by
  have:=zlg h1 h2;have:=hq_int z;omega
theorem gcd_pos_right {n d:Int} (hd:d≠0):0<Nat.gcd n.natAbs d.natAbs:=Nat.gcd_pos_of_pos_right _ (by omega)
theorem red_pos {n d:Int} (hd:0<d):fq n (Nat.gcd n.natAbs d.natAbs:Nat)=(Rat.divInt n d).num∧fq d (Nat.gcd n.natAbs d.natAbs:Nat)=((Rat.divInt n d).den:Int):=by
  obtain ⟨e1,e2⟩:=divInt_parts (n:=n) (d:=d) (by omega)
  have hg:=gcd_pos_right (n:=n) (d:=d) (by omega)
  rw [e1,e2,Int.sign_eq_one_of_pos hd,Int.one_mul]
  rw [(fr_nonneg (x:=n) (y:=(Nat.gcd n.natAbs d.natAbs:Nat)) (by omega)).1,(fr_nonneg (x:=d) (y:=(Nat.gcd n.natAbs d.natAbs:Nat)) (by omega)).1]
  refine ⟨rfl,?_⟩
  rw [Int.natCast_ediv,Int.natAbs_of_nonneg (by omega)]
theorem red_flip {n d:Int} (hd:d<0):fq (-n) (Nat.gcd (-n).natAbs (-d).natAbs:Nat)=(Rat.divInt n d).num∧fq (-d) (Nat.gcd (-n).natAbs (-d).natAbs:Nat)=((Rat.divInt n d).den:Int):=by
  have:=red_pos (n:= -n) (d:= -d) (by omega)
  rw [Rat.neg_divInt_neg] at this;exact this
theorem fq_negneg (x y:Int) (hy:y≠0):fq x (-y)=fq (-x) y:=by
  unfold fq
  by_cases h:0<y
  · rw [if_neg (by omega),if_pos h,Int.neg_neg]
  · rw [if_pos (by omega),if_neg h,Int.neg_neg]
theorem red_neg {n d:Int} (hd:d<0):fq n (-(Nat.gcd n.natAbs d.natAbs:Nat))=(Rat.divInt n d).num∧fq d (-(Nat.gcd n.natAbs d.natAbs:Nat))=((Rat.divInt n d).den:Int):=by
  have hg:=gcd_pos_right (n:=n) (d:=d) (by omega)
  rw [fq_negneg _ _ (by omega),fq_negneg _ _ (by omega)]
  have:=red_flip (n:=n) hd
  rw [Int.natAbs_neg,Int.natAbs_neg] at this;exact this
def sgq (q:Rat):Int:=q.num.sign
theorem cmp_sub (a b:Int):cmp a b=(a - b).sign:=by
  unfold cmp
  split
  · rw [Int.sign_eq_neg_one_of_neg (by omega)]
  · split
    · rw [Int.sign_eq_one_of_pos (by omega)]
    · rw [show a - b=0 by omega];rfl
theorem sgq_zero {x:Rat}:sgq x=0↔x=0:=by unfold sgq;rw [Int.sign_eq_zero_iff_zero,Rat.num_eq_zero]
theorem sgq_sub_zero {x y:Rat}:sgq (x - y)=0↔x=y:=by
  rw [sgq_zero]
  constructor
  · intro h;grind
  · intro h;grind
theorem sgq_rng (x:Rat): -1≤sgq x∧sgq x≤1:=by
  unfold sgq
  rcases Int.lt_trichotomy x.num 0 with h|h|h
  · rw [Int.sign_eq_neg_one_of_neg h];decide
  · rw [h];decide
  · rw [Int.sign_eq_one_of_pos h];decide
theorem cmp_zero {x y:Int}:cmp x y=0↔x=y:=by
  unfold cmp;split
  · omega
  · split <;> omega
theorem qok_gcd {x:RQ} (h:canon x.1.1 x.1.2∧canon x.2.1 x.2.2∧0<raw x.2.1 x.2.2):cmp ((Nat.gcd (raw x.1.1 x.1.2).natAbs (raw x.2.1 x.2.2).natAbs:Nat):Int) 1=0↔qok x:=by
  rw [cmp_zero];exact ⟨fun e=>⟨h.1,h.2.1,h.2.2,by omega⟩,fun e=>by have:=e.2.2.2;omega⟩
theorem sgn_le {c d:Prop} {z:Int} (hc:c) (hd:d):z.sign≤0↔¬(c∧d∧0<z):=by
  rcases Int.lt_trichotomy z 0 with h|h|h
  · rw [Int.sign_eq_neg_one_of_neg h];exact ⟨fun _ k=>by omega,fun _=>by decide⟩
  · rw [h];exact ⟨fun _ k=>by omega,fun _=>by decide⟩
  · rw [Int.sign_eq_one_of_pos h];exact ⟨fun k=>by omega,fun k=>absurd ⟨hc,hd,h⟩ k⟩
theorem raw_parts {x:RQ} (h1:nn x.1.2) (h2:nn x.2.2) (h:qok x):decide ((qv x).num<0)=x.1.1∧digs (qv x).num.natAbs=x.1.2∧decide (((qv x).den:Int)<0)=x.2.1∧digs (((qv x).den:Nat):Int).natAbs=x.2.2:=by
  obtain ⟨e1,e2⟩:=qv_parts h
  have d1:=raw_digs (s:=x.1.1) h1;have d2:=raw_digs (s:=x.2.1) h2
  rw [if_pos h.1] at d1;rw [if_pos h.2.1] at d2
  rw [e1,e2]
  exact ⟨raw_sign h1 h.1,d1,raw_sign h2 h.2.1,d2⟩
theorem zDd {n d:Int} (hd:d≠0):ln (Nat.gcd n.natAbs d.natAbs:Nat)≤ln d:=by
  refine zZd ?_
  rw [Int.natAbs_natCast];exact Nat.gcd_le_right _ (by omega)
theorem divInt_nil {n d:Int} (hd:d=0):Rat.divInt n d=0:=by rw [hd,Rat.divInt_zero]
theorem div_nil {x y:Rat} (hy:y=0):x / y=0:=by rw [hy,Rat.div_def,Rat.inv_zero,Rat.mul_zero]
theorem sign_zero {z:Int}:z.sign=0↔z=0:=Int.sign_eq_zero_iff_zero
theorem qok_sub {x:RQ} (h:canon x.1.1 x.1.2∧canon x.2.1 x.2.2∧0<raw x.2.1 x.2.2):(((Nat.gcd (raw x.1.1 x.1.2).natAbs (raw x.2.1 x.2.2).natAbs:Nat):Int) - 1).sign=0↔qok x:=by
  rw [← cmp_sub];exact qok_gcd h
end Go.Proofs.YtjcpbhlijoigfaaGreat.Big
namespace Go.Proofs.YtjcpbhlijoigfaaGreat.Sp
open Go
set_option linter.unusedVariables false
def Wd.raw (g:Hp) (w:Wd) (x:Bool×List Int):Prop:=w.s=x.1∧w.n=x.2.length∧x.2.length≤1048576∧Sl (rI .u32) g w.p w.c x.2
theorem Wd.raw_mono {g g':Hp} {w:Wd} {x:Bool×List Int} (h:g.le g') (k:w.raw g x):w.raw g' x:=⟨k.1,k.2.1,k.2.2.1,k.2.2.2.mono h⟩
def qF (c:Bool) (u v:Wd) (q:Rat):Fa:=⟨fun g=>∃x:Big.RQ,u.raw g x.1∧v.raw g x.2∧Big.qv x=q∧(c=true→Big.qok x),fun _ _ h ⟨x,a,b,d⟩=>⟨x,Wd.raw_mono h a,Wd.raw_mono h b,d⟩⟩
theorem Sl.nn {g:Hp} {p:Option Addr} {c:Nat} {l:List Int} (h:Sl (rI .u32) g p c l):Big.nn l:=fun d hd=>by
  obtain ⟨j,hj⟩:=List.getElem?_of_mem hd
  obtain ⟨_,_,_,_,_,e⟩:=h.2.2.2 j d hj
  exact (zB.1 e).1
theorem Wd.raw_is {g:Hp} {w:Wd} {x:Bool×List Int} (h:w.raw g x) (hc:Big.canon x.1 x.2):w.is g (Big.raw x.1 x.2):=by
  have hn:=h.2.2.2.nn
  have hd:=Big.raw_digs (s:=x.1) hn
  rw [if_pos hc] at hd
  exact ⟨h.1.trans (Big.raw_sign hn hc).symm,by rw [hd];exact h.2.1,by rw [hd];exact h.2.2.2⟩
theorem Wd.is_raw {g:Hp} {w:Wd} {z:Int} (h:w.is g z) (hl:Big.ln z≤1048576):w.raw g (decide (z<0),yf z.natAbs):=⟨h.1,h.2.1,hl,h.2.2⟩
section
variable {P : Program} {c : Cx} {n : Sz} {Q : Exit → Act → World → Prop} {m : Fm} {O : List As} {R : List Fa} {f : Nat} {u v : Wd} {q : Rat}
theorem qF_parts {g:Hp} (h:(qF true u v q).on g):u.is g q.num∧v.is g (q.den:Int):=by
  obtain ⟨x,a,b,e,ok⟩:=h
  have hk:=ok rfl
  obtain ⟨e1,e2⟩:=Big.qv_parts hk
  rw [← e,e1,e2]
  exact ⟨Wd.raw_is a hk.1,Wd.raw_is b hk.2.1⟩
theorem qF_open (i:Nat) (hi:R[i]? =some (qF true u v q)):∀g,Holds g R→∃x:Unit,True∧Holds g [zF u q.num,zF v (q.den:Int)]:=fun g h=>
  ⟨(),trivial,(qF_parts (Holds.get i hi h)).1,(qF_parts (Holds.get i hi h)).2,trivial⟩
theorem qF_make {g:Hp} (h1:u.is g q.num) (h2:v.is g (q.den:Int)) (hl:Big.hq q≤1048576):(qF true u v q).on g:=
  ⟨Big.rq q,Wd.is_raw h1 (Nat.le_trans (Big.hq_num q) hl),Wd.is_raw h2 (Nat.le_trans (Big.hq_den q) hl),Big.rq_v q,fun _=>Big.rq_ok q⟩
theorem qF_close (i j:Nat) {a b:Int} (hi:R[i]? =some (zF u a)) (hj:R[j]? =some (zF v b)) (h:a=q.num∧b=(q.den:Int)∧Big.hq q≤1048576):∀g,Holds g R→(qF true u v q).on g:=fun g r=>by
  have h1:u.is g a:=Holds.get i hi r
  have h2:v.is g b:=Holds.get j hj r
  rw [h.1] at h1;rw [h.2.1] at h2
  exact qF_make h1 h2 h.2.2
theorem qF_len {g:Hp} {k:Bool} (h:(qF k u v q).on g):Big.hq q≤1048576:=by
  obtain ⟨x,a,b,e,ok⟩:=h
  by_cases hk:Big.qok x
  · obtain ⟨e1, e2⟩ := Big.qv_parts hk
    rw [← e]
    unfold Big.hq Big.ln
    rw [e1,e2]
    have h1:=Big.raw_digs (s:=x.1.1) a.2.2.2.nn
    have h2:=Big.raw_digs (s:=x.2.1) b.2.2.2.nn
    rw [if_pos hk.1] at h1;rw [if_pos hk.2.1] at h2
    rw [h1,h2]
    have:=a.2.2.1;have:=b.2.2.1;omega
  · rw [Big.qv_not hk] at e
    rw [← e,Big.hq_zero];omega
theorem qF_none (g:Hp):(qF false wz wz 0).on g:=⟨((false,[]),(false,[])),⟨rfl,rfl,by decide,Sl.nil _ _⟩,⟨rfl,rfl,by decide,Sl.nil _ _⟩,by decide +kernel,fun h=>by cases h⟩
abbrev rawL (p:Option Addr) (c:Nat) (x:Bool×List Int):List Value:=[.bool x.1,.slice p x.2.length c]
theorem Wd.rawL_eq {g:Hp} {w:Wd} {x:Bool×List Int} (h:w.raw g x):[w.b,w.l]=rawL w.p w.c x:=by rw [Wd.b,Wd.l,h.1,h.2.1]
theorem zdg {k:Bool} {Y:Type} {φ:Y→Prop} {val:Y→Value} {O':Y→List As} {R':Y→List Fa}
    (h:∀(x:Big.RQ),Big.qv x=q→(k=true→Big.qok x)→x.1.2.length≤1048576→x.2.2.length≤1048576→Con P f [.agg #[.bool x.1.1,.slice u.p x.1.2.length u.c,.bool x.2.1,.slice v.p x.2.2.length v.c]] O [slF (rI .u32) u.p u.c x.1.2,slF (rI .u32) v.p v.c x.2.2] φ val O' R'):
    Con P f [.agg #[u.b,u.l,v.b,v.l]] O [qF k u v q] φ val O' R':=
  Con.of (X:=Big.RQ) (ψ:=fun x=>Big.qv x=q∧(k=true→Big.qok x)∧x.1.2.length≤1048576∧x.2.2.length≤1048576) (A2:=fun x=>[.agg #[.bool x.1.1,.slice u.p x.1.2.length u.c,.bool x.2.1,.slice v.p x.2.2.length v.c]]) (R2:=fun x=>[slF (rI .u32) u.p u.c x.1.2,slF (rI .u32) v.p v.c x.2.2])
    (fun x hx=>h x hx.1 hx.2.1 hx.2.2.1 hx.2.2.2) fun g r=>by
      obtain ⟨x,a,b,e,ok⟩:=r.1
      refine ⟨x,⟨e,ok,a.2.2.1,b.2.2.1⟩,?_,a.2.2.2,b.2.2.2,trivial⟩
      have h1:=Wd.rawL_eq a;have h2:=Wd.rawL_eq b
      simp only [rawL,List.cons.injEq,and_true] at h1 h2
      rw [h1.1,h1.2,h2.1,h2.2]
theorem zkf {k:Bool} {Y:Type} {φ:Y→Prop} {val:Y→Value} {O':Y→List As} {R':Y→List Fa}
    (h:∀(x:Big.RQ),Big.qv x=q→(k=true→Big.qok x)→x.1.2.length≤1048576→x.2.2.length≤1048576→Big.hq q≤1048576→Con P f [.agg #[.bool x.1.1,.slice u.p x.1.2.length u.c,.bool x.2.1,.slice v.p x.2.2.length v.c]] O [slF (rI .u32) u.p u.c x.1.2,slF (rI .u32) v.p v.c x.2.2] φ val O' R'):
    Con P f [.agg #[u.b,u.l,v.b,v.l]] O [qF k u v q] φ val O' R':=fun w hh g s r ap h1 h2=>
  zdg (fun x a b c d=>h x a b c d (qF_len r.1)) w hh g s r ap h1 h2
theorem con_qr {A:List Value} {z d:Int} (h:Con P f A O R (Y:=Option Addr×Nat×Option Addr×Nat) (fun _=>True) (fun y=> .agg #[.bool (decide (z<0)),.slice y.1 (yf z.natAbs).length y.2.1,.bool (decide (d<0)),.slice y.2.2.1 (yf d.natAbs).length y.2.2.2]) (fun _=>[]) (fun y=>[bigS z y.1 y.2.1,bigS d y.2.2.1 y.2.2.2]))
    (hz:z=q.num) (hd:d=(q.den:Int)) (hl:Big.hq q≤1048576):Con P f A O R (Y:=Wd×Wd) (fun _=>True) (fun w=> .agg #[w.1.b,w.1.l,w.2.b,w.2.l]) (fun _=>[]) (fun w=>[qF true w.1 w.2 q]):=
  h.told (fun y=>(⟨decide (z<0),y.1,(yf z.natAbs).length,y.2.1⟩,⟨decide (d<0),y.2.2.1,(yf d.natAbs).length,y.2.2.2⟩)) (fun _=>rfl) (fun _ _=>trivial) (fun _=>rfl)
    (fun y _ g r=>⟨qF_make (q:=q) ⟨by rw [hz],by rw [hz],hz ▸ r.1⟩ ⟨by rw [hd],by rw [hd],hd ▸ r.2.1⟩ hl,trivial⟩)
theorem zlf {A:List Value} {z d:Int} {k:Value} (h:Con P f A O R (Y:=Option Addr×Nat×Option Addr×Nat) (fun _=>True) (fun y=> .tuple #[.agg #[.bool (decide (z<0)),.slice y.1 (yf z.natAbs).length y.2.1],.agg #[.bool (decide (d<0)),.slice y.2.2.1 (yf d.natAbs).length y.2.2.2],k]) (fun _=>[]) (fun y=>[bigS z y.1 y.2.1,bigS d y.2.2.1 y.2.2.2])):
    Con P f A O R (Y:=Wd×Wd) (fun _=>True) (fun w=> .tuple #[.agg #[w.1.b,w.1.l],.agg #[w.2.b,w.2.l],k]) (fun _=>[]) (fun w=>[zF w.1 z,zF w.2 d]):=
  h.told (fun y=>(⟨decide (z<0),y.1,(yf z.natAbs).length,y.2.1⟩,⟨decide (d<0),y.2.2.1,(yf d.natAbs).length,y.2.2.2⟩)) (fun _=>rfl) (fun _ _=>trivial) (fun _=>rfl)
    (fun y _ g r=>⟨⟨rfl,rfl,r.1⟩,⟨rfl,rfl,r.2.1⟩,trivial⟩)
theorem qF_rawI {s t:Bool} {p1 p2:Option Addr} {n1 c1 n2 c2:Nat} {l1 l2:List Int} (i j:Nat) (hi:R[i]? =some (slF (rI .u32) p1 c1 l1)) (hj:R[j]? =some (slF (rI .u32) p2 c2 l2)) (hn1:l1.length=n1) (hn2:l2.length=n2) (hm1:n1≤1048576) (hm2:n2≤1048576) (hq:Big.qok ((s,l1),(t,l2))):
    ∀g,Holds g R→(qF true ⟨s,p1,n1,c1⟩ ⟨t,p2,n2,c2⟩ (Big.qv ((s,l1),(t,l2)))).on g:=fun g r=>by
  subst hn1;subst hn2
  exact ⟨((s,l1),(t,l2)),⟨rfl,rfl,hm1,Holds.get i hi r⟩,⟨rfl,rfl,hm2,Holds.get j hj r⟩,rfl,fun _=>hq⟩
end
section
variable {P : Program} {c : Cx} {m : Fm} {O : List As} {R : List Fa}
end
section
variable {P : Program} {n : Sz} {m : Fm} {d : Option Tmp} {ty : TypeId} {ps : String} {af : Array Edge} {gd : Option (Nat × Bool)}
theorem zmg {x y z:Operand} {ats:Array TypeId} {k:IntKind} {a b e:Int} (h1:evo m x=some (.int k a)) (h2:evo m y=some (.int k b)) (h3:evo m z=some (.int k e)):PV P n ⟨d,.call ⟨.builtin .min,#[x,y,z],ats⟩,ty,ps,af,gd⟩ m (.int k (min (min a b) e)):=fun ac w f=>by
  have t1:(if b<a then b else a)=min a b:=by by_cases h:b<a <;> simp [h,Int.min_def] <;> omega
  have t0:∀q:Int,(if e<q then e else q)=min q e:=fun q=>by by_cases h:e<q <;> simp [h,Int.min_def] <;> omega
  have t2:=t0 (min a b)
  simp [execOp,resolve,invoke,builtin,Builtin.min_,Builtin.min2,f.ev h1,f.ev h2,f.ev h3,t1,t2]
end
end Go.Proofs.YtjcpbhlijoigfaaGreat.Sp
namespace Go.Proofs.YtjcpbhlijoigfaaGreat.Sp
open Go
set_option linter.unusedVariables false
theorem kr {p:Prop} (h:p:=by kernel_rfl):p:=h
theorem ass {p:Prop} (h:p:=by assumption):p:=h
theorem cbb {p:Prop} (h:p:=by first|rfl|assumption|omega|(simp;done)|(simp;omega)|(simp_all;done)):p:=h
theorem cbo {p:Prop} (h:p:=by first|rfl|assumption|omega):p:=h
theorem cbs {p:Prop} (h:p:=by first|rfl|assumption|(simp_all;done)|omega):p:=h
theorem cbu {p:Prop} (h:p:=by first|(simp_all;done)|(simp_all;omega)|(simp;omega)|omega):p:=h
theorem om {p:Prop} (h:p:=by omega):p:=h
theorem dd {p:Prop} (h:p:=by decide):p:=h
theorem aq {α:Type} {l m:List α}:List.append l m=l++m:=rfl
theorem nq {α:Type} {l:List α}:[]++l=l:=rfl
theorem cq {α:Type} {a:α} {l m:List α}:a :: l++m=a :: (l++m):=rfl
theorem Slc.t2 {cells:List Value} {k:Nat} {cs:List Value} {a b:Value} (h:Slc cells 0 k cs):Slc (a :: b :: cells) 0 (k+2) (a :: b :: cs):= .take (.take h)
theorem Slc.t4 {cells:List Value} {k:Nat} {cs:List Value} {a b c d:Value} (h:Slc cells 0 k cs):Slc (a :: b :: c :: d :: cells) 0 (k+4) (a :: b :: c :: d :: cs):= .t2 (.t2 h)
theorem Slc.t8 {cells:List Value} {k:Nat} {cs:List Value} {a b c d e f g i:Value} (h:Slc cells 0 k cs):Slc (a :: b :: c :: d :: e :: f :: g :: i :: cells) 0 (k+8) (a :: b :: c :: d :: e :: f :: g :: i :: cs):= .t4 (.t4 h)
theorem Slc.s2 {cells:List Value} {k off:Nat} {cs:List Value} {a b:Value} (h:Slc cells off k cs):Slc (a :: b :: cells) (off+2) k cs:= .skip (.skip h)
theorem Slc.s4 {cells:List Value} {k off:Nat} {cs:List Value} {a b c d:Value} (h:Slc cells off k cs):Slc (a :: b :: c :: d :: cells) (off+4) k cs:= .s2 (.s2 h)
theorem Slc.s8 {cells:List Value} {k off:Nat} {cs:List Value} {a b c d e f g i:Value} (h:Slc cells off k cs):Slc (a :: b :: c :: d :: e :: f :: g :: i :: cells) (off+8) k cs:= .s4 (.s4 h)
theorem Upd.t2 {cells news cells':List Value} {a b a' b':Value} (h:Upd cells 0 news cells'):Upd (a :: b :: cells) 0 (a' :: b' :: news) (a' :: b' :: cells'):= .take (.take h)
theorem Upd.t4 {cells news cells':List Value} {a b c d a' b' c' d':Value} (h:Upd cells 0 news cells'):Upd (a :: b :: c :: d :: cells) 0 (a' :: b' :: c' :: d' :: news) (a' :: b' :: c' :: d' :: cells'):= .t2 (.t2 h)
theorem Upd.t8 {cells news cells':List Value} {a b c d e f g i a' b' c' d' e' f' g' i':Value} (h:Upd cells 0 news cells'):Upd (a :: b :: c :: d :: e :: f :: g :: i :: cells) 0 (a' :: b' :: c' :: d' :: e' :: f' :: g' :: i' :: news) (a' :: b' :: c' :: d' :: e' :: f' :: g' :: i' :: cells'):= .t4 (.t4 h)
theorem Upd.s2 {cells news cells':List Value} {off:Nat} {a b:Value} (h:Upd cells off news cells'):Upd (a :: b :: cells) (off+2) news (a :: b :: cells'):= .skip (.skip h)
theorem Upd.s4 {cells news cells':List Value} {off:Nat} {a b c d:Value} (h:Upd cells off news cells'):Upd (a :: b :: c :: d :: cells) (off+4) news (a :: b :: c :: d :: cells'):= .s2 (.s2 h)
theorem Upd.s8 {cells news cells':List Value} {off:Nat} {a b c d e f g i:Value} (h:Upd cells off news cells'):Upd (a :: b :: c :: d :: e :: f :: g :: i :: cells) (off+8) news (a :: b :: c :: d :: e :: f :: g :: i :: cells'):= .s4 (.s4 h)
variable {P : Program} {ops : Array Oper} {Q : Exit → Act → World → Prop} {c : Cx} {n : Sz} {wi k : Nat} {L : Array Bool} {m : Fm} {OW O : List As} {R : List Fa} {op : Op} {t0 : Tmp} {ty : TypeId} {ps : String} {af : Array Edge} {gd : Option (Nat × Bool)}
def ckD (ops:Array Oper) (L:Array Bool) (wi i:Nat):Bool:= !(Nat.beq i wi)&&(Region.free .any ops L i&&(Region.ready .any ops L).contains i)
theorem ckD_out {i:Nat} (h:ckD ops L wi i=true):Nat.beq i wi=false∧Region.free .any ops L i=true∧(Region.ready .any ops L).contains i=true:=by
  unfold ckD at h
  rw [Bool.and_eq_true,Bool.and_eq_true,Bool.not_eq_true'] at h
  exact h
def ckW (ops:Array Oper) (L:Array Bool) (wi i:Nat):Bool:=depB ops wi i&&ckD ops L wi i
theorem ckW_out {i:Nat} (h:ckW ops L wi i=true):depB ops wi i=true∧Nat.beq i wi=false∧Region.free .any ops L i=true∧(Region.ready .any ops L).contains i=true:=by
  unfold ckW at h
  rw [Bool.and_eq_true] at h
  exact ⟨h.1,ckD_out h.2⟩
theorem e_pv (i:Nat) (hi:ops[i]? =some ⟨some t0,op,ty,ps,af,gd⟩) (hw':wnt ops m ⟨some t0,op,ty,ps,af,gd⟩=some true) {v:Value} (h:PV P n ⟨some t0,op,ty,ps,af,gd⟩ m v)
    (kont:RunD P ops Q c n wi k (L.setIfInBounds i true) ((t0,v) :: m) OW O R) (hd:Nat.ble (t0+1) n.sz=true:=by exact rfl) (ck:ckD ops L wi i=true:=by kernel_rfl):RunD P ops Q c n wi (k+1) L m OW O R:=
  d_pv i hi (ckD_out ck).1 (ckD_out ck).2.1 (ckD_out ck).2.2 hw' hd h kont
theorem e_dm (i:Nat) {x:Operand} (hi:ops[i]? =some ⟨some t0,.move x,ty,ps,af,gd⟩) (hw':wnt ops m ⟨some t0,.move x,ty,ps,af,gd⟩=some true) {v:Value} (h:evo m x=some v)
    (kont:RunD P ops Q c n wi k (L.setIfInBounds i true) ((t0,v) :: m) OW O R) (hd:Nat.ble (t0+1) n.sz=true:=by exact rfl) (ck:ckD ops L wi i=true:=by kernel_rfl):RunD P ops Q c n wi (k+1) L m OW O R:=
  d_pv i hi (ckD_out ck).1 (ckD_out ck).2.1 (ckD_out ck).2.2 hw' hd (zW h) kont
theorem e_skip (i:Nat) (hi:ops[i]? =some ⟨some t0,op,ty,ps,af,gd⟩) (hw':wnt ops m ⟨some t0,op,ty,ps,af,gd⟩=some false)
    (kont:RunD P ops Q c n wi k (L.setIfInBounds i true) ((t0,undef) :: m) OW O R) (hd:Nat.ble (t0+1) n.sz=true:=by exact rfl) (ck:ckD ops L wi i=true:=by kernel_rfl):RunD P ops Q c n wi (k+1) L m OW O R:=
  d_skip i hi (ckD_out ck).1 (ckD_out ck).2.1 (ckD_out ck).2.2 hw' hd kont
theorem e_u (i:Nat) (hi:ops[i]? =some ⟨some t0,op,ty,ps,af,gd⟩) (hw':wnt ops m ⟨some t0,op,ty,ps,af,gd⟩=some true) {v:Value} (h:Vl P n ⟨some t0,op,ty,ps,af,gd⟩ m O R (Y:=Unit) (fun _=>True) (fun _=>v) (fun _=>[]))
    (kont:RunD P ops Q c n wi k (L.setIfInBounds i true) ((t0,v) :: m) OW O R) (hd:Nat.ble (t0+1) n.sz=true:=by exact rfl) (ck:ckD ops L wi i=true:=by kernel_rfl):RunD P ops Q c n wi (k+1) L m OW O R:=
  d_u i hi (ckD_out ck).1 (ckD_out ck).2.1 (ckD_out ck).2.2 hw' hd h kont
theorem e_uw (i:Nat) (hi:ops[i]? =some ⟨some t0,op,ty,ps,af,gd⟩) (hw':wnt ops m ⟨some t0,op,ty,ps,af,gd⟩=some true) {v:Value} (h:Vl P n ⟨some t0,op,ty,ps,af,gd⟩ m (OW++O) R (Y:=Unit) (fun _=>True) (fun _=>v) (fun _=>[]))
    (kont:RunD P ops Q c n wi k (L.setIfInBounds i true) ((t0,v) :: m) OW O R) (hd:Nat.ble (t0+1) n.sz=true:=by exact rfl) (ck:ckW ops L wi i=true:=by kernel_rfl):RunD P ops Q c n wi (k+1) L m OW O R:=
  d_uw i hi (ckW_out ck).2.1 (ckW_out ck).1 (ckW_out ck).2.2.1 (ckW_out ck).2.2.2 hw' hd h kont
theorem e_one (i:Nat) (h:RunO P ops Q c n wi k L i m OW O R) (hr:Region.ready .any ops L=[i]:=by kernel_rfl):RunD P ops Q c n wi (k+1) L m OW O R:=zSa i hr h
section
variable {ro : Option Nat} {l : List Oper} {t : Tmp}
theorem e_p {v:Value} (h:PV P n ⟨some t,op,ty,ps,af,gd⟩ m v) (kont:RunL (ro:=ro) P ops Q c n l ((t,v) :: m) O R) (hw:wnt ops m ⟨some t,op,ty,ps,af,gd⟩=some true:=by exact rfl) (hd:Nat.ble (t+1) n.sz=true:=by exact rfl):RunL (ro:=ro) P ops Q c n (⟨some t,op,ty,ps,af,gd⟩ :: l) m O R:=r_pv hw hd h kont
theorem e_mv {x:Operand} {v:Value} (h:evo m x=some v) (kont:RunL (ro:=ro) P ops Q c n l ((t,v) :: m) O R) (hw:wnt ops m ⟨some t,.move x,ty,ps,af,gd⟩=some true:=by exact rfl) (hd:Nat.ble (t+1) n.sz=true:=by exact rfl):RunL (ro:=ro) P ops Q c n (⟨some t,.move x,ty,ps,af,gd⟩ :: l) m O R:=r_pv hw hd (zW h) kont
theorem e_no (kont:RunL (ro:=ro) P ops Q c n l ((t,undef) :: m) O R) (hw:wnt ops m ⟨some t,op,ty,ps,af,gd⟩=some false:=by exact rfl) (hd:Nat.ble (t+1) n.sz=true:=by exact rfl):RunL (ro:=ro) P ops Q c n (⟨some t,op,ty,ps,af,gd⟩ :: l) m O R:=zze hw hd kont
theorem e_ru {v:Value} (h:Vl P n ⟨some t,op,ty,ps,af,gd⟩ m O R (Y:=Unit) (fun _=>True) (fun _=>v) (fun _=>[])) (kont:RunL (ro:=ro) P ops Q c n l ((t,v) :: m) O R) (hw:wnt ops m ⟨some t,op,ty,ps,af,gd⟩=some true:=by exact rfl) (hd:Nat.ble (t+1) n.sz=true:=by exact rfl):RunL (ro:=ro) P ops Q c n (⟨some t,op,ty,ps,af,gd⟩ :: l) m O R:=r_u hw hd h kont
end
end Go.Proofs.YtjcpbhlijoigfaaGreat.Sp
namespace Go.Proofs.YtjcpbhlijoigfaaGreat.Ms
set_option linter.unusedVariables false
abbrev V3:=Int×Int×Int
section
variable {α : Type}
theorem drop_cons {l:List α} {i:Nat} (d:α) (h:i<l.length):l.drop i=l.getD i d :: l.drop (i+1):=by
  rw [List.drop_eq_getElem_cons h];simp [List.getD,List.getElem?_eq_getElem h]
theorem take_snoc {l:List α} {i:Nat} (d:α) (h:i<l.length):l.take (i+1)=l.take i++[l.getD i d]:=by
  rw [List.take_add_one];simp [List.getD,List.getElem?_eq_getElem h]
theorem ext_getD {l m:List α} (d:α) (hl:l.length=m.length) (h:∀j,j<l.length→l.getD j d=m.getD j d):l=m:=by
  refine List.ext_getElem hl fun i h1 h2=> ?_
  have:=h i h1
  simpa [List.getD,List.getElem?_eq_getElem h1,List.getElem?_eq_getElem h2] using this
theorem getD_mem {l:List α} {i:Nat} (d:α) (h:i<l.length):l.getD i d∈l:=by
  simp [List.getD,List.getElem?_eq_getElem h]
theorem mem_getD {l:List α} {x:α} (d:α) (h:x∈l):∃j,j<l.length∧l.getD j d=x:=by
  obtain ⟨j,hj,e⟩:=List.getElem_of_mem h
  exact ⟨j,hj,by simp [List.getD,List.getElem?_eq_getElem hj,e]⟩
theorem any_false {l:List α} {f:α→Bool} (d:α) (h:∀j,j<l.length→f (l.getD j d)=false):l.any f=false:=by
  rw [List.any_eq_false]
  intro x hx
  obtain ⟨j,hj,e⟩:=mem_getD d hx
  have:=h j hj
  rw [e] at this;simp [this]
theorem any_true {l:List α} {f:α→Bool} (d:α) {i:Nat} (hi:i<l.length) (h:f (l.getD i d)=true):l.any f=true:=
  List.any_eq_true.2 ⟨_,getD_mem d hi,h⟩
theorem all_lt_succ {P:Nat→Prop} {i:Nat} (h:∀j,j<i→P j) (hi:P i):∀j,j<i+1→P j:=fun j hj=>by
  by_cases e:j=i
  · subst e;exact hi
  · exact h j (by omega)
end
def farI (n:Int):Bool:=decide (n< -1048576∨1048576<n)
def far (p:V3):Bool:=[p.1,p.2.1,p.2.2].any farI
def badIx (n:Nat) (f:V3):Bool:=decide (f.1<0∨(n:Int)≤f.1∨f.2.1<0∨(n:Int)≤f.2.1∨f.2.2<0∨(n:Int)≤f.2.2)
def deg (f:V3):Bool:=decide (f.1=f.2.1∨f.2.1=f.2.2∨f.2.2=f.1)
structure Good (V F:List V3):Prop where
  nv:V.length≤512
  nf:F.length≤1024
  far:∀p∈V,far p=false
  ix:∀f∈F,badIx V.length f=false
  dg:∀f∈F,deg f=false
theorem Good.at {V F:List V3} (h:Good V F) {i:Nat} (hi:i<F.length):(0≤(F.getD i (0,0,0)).1∧(F.getD i (0,0,0)).1<V.length)∧(0≤(F.getD i (0,0,0)).2.1∧(F.getD i (0,0,0)).2.1<V.length)∧(0≤(F.getD i (0,0,0)).2.2∧(F.getD i (0,0,0)).2.2<V.length)∧
    (F.getD i (0,0,0)).1≠(F.getD i (0,0,0)).2.1∧(F.getD i (0,0,0)).2.1≠(F.getD i (0,0,0)).2.2∧(F.getD i (0,0,0)).2.2≠(F.getD i (0,0,0)).1:=by
  have h1:=h.ix _ (getD_mem (0,0,0) hi)
  have h2:=h.dg _ (getD_mem (0,0,0) hi)
  simp only [badIx,deg,decide_eq_false_iff_not] at h1 h2
  omega
theorem mul_le {a b A B:Int} (ha: -A≤a∧a≤A) (hb: -B≤b∧b≤B): -(A*B)≤a*b∧a*b≤A*B:=by
  have h1:(a*b).natAbs≤A.natAbs*B.natAbs:=by rw [Int.natAbs_mul];exact Nat.mul_le_mul (by omega) (by omega)
  have hA:A=(A.natAbs:Int):=by omega
  have hB:B=(B.natAbs:Int):=by omega
  have h2:A*B=((A.natAbs*B.natAbs:Nat):Int):=by rw [Int.natCast_mul,←hA,←hB]
  omega
def sub (a b:V3):V3:=(a.1 - b.1,a.2.1 - b.2.1,a.2.2 - b.2.2)
end Go.Proofs.YtjcpbhlijoigfaaGreat.Ms
namespace Go.Proofs.YtjcpbhlijoigfaaGreat.Big
end Go.Proofs.YtjcpbhlijoigfaaGreat.Big
namespace Go.Proofs.YtjcpbhlijoigfaaGreat.Pg
set_option linter.unusedVariables false
abbrev P2:=Int×Int
def crs (a b c:P2):Int:=(b.1 - a.1)*(c.2 - a.2) - (b.2 - a.2)*(c.1 - a.1)
def inR (p:P2):Prop:=(-1048576≤p.1∧p.1≤1048576)∧(-1048576≤p.2∧p.2≤1048576)
instance (p:P2):Decidable (inR p):=inferInstanceAs (Decidable (_∧_))
def far (p:P2):Bool:=decide (¬inR p)
theorem far_no {p:P2} (h:¬far p=true):inR p:=by unfold far at h;simpa using h
theorem far_no' {p:P2} (h:far p=false):inR p:=far_no (by rw [h];decide)
theorem mul_b {x y m n:Int} (hx: -m≤x∧x≤m) (hy: -n≤y∧y≤n): -(m*n)≤x*y∧x*y≤m*n:=by
  have h1:x.natAbs≤m.natAbs:=by omega
  have h2:y.natAbs≤n.natAbs:=by omega
  have h3:(x*y).natAbs≤m.natAbs*n.natAbs:=by rw [Int.natAbs_mul];exact Nat.mul_le_mul h1 h2
  have h4:((m.natAbs*n.natAbs:Nat):Int)=m*n:=by
    rw [Int.natCast_mul,Int.natAbs_of_nonneg (by omega),Int.natAbs_of_nonneg (by omega)]
  omega
structure Cb (a b c:P2):Prop where
  p1: -17592186044416≤(b.1 - a.1)*(c.2 - a.2)∧(b.1 - a.1)*(c.2 - a.2)≤17592186044416
  p2: -17592186044416≤(b.2 - a.2)*(c.1 - a.1)∧(b.2 - a.2)*(c.1 - a.1)≤17592186044416
  c: -35184372088832≤crs a b c∧crs a b c≤35184372088832
theorem cb {a b c:P2} (ha:inR a) (hb:inR b) (hc:inR c):Cb a b c:=by
  obtain ⟨⟨a1,a2⟩,a3,a4⟩:=ha
  obtain ⟨⟨b1,b2⟩,b3,b4⟩:=hb
  obtain ⟨⟨c1,c2⟩,c3,c4⟩:=hc
  have h1:=mul_b (x:=b.1 - a.1) (y:=c.2 - a.2) (m:=2097152) (n:=2097152) (by omega) (by omega)
  have h2:=mul_b (x:=b.2 - a.2) (y:=c.1 - a.1) (m:=2097152) (n:=2097152) (by omega) (by omega)
  exact ⟨by omega,by omega,by unfold crs;omega⟩
structure Ab (a b:P2):Prop where
  p1: -1099511627776≤a.1*b.2∧a.1*b.2≤1099511627776
  p2: -1099511627776≤b.1*a.2∧b.1*a.2≤1099511627776
theorem ab {a b:P2} (ha:inR a) (hb:inR b):Ab a b:=by
  obtain ⟨⟨a1,a2⟩,a3,a4⟩:=ha
  obtain ⟨⟨b1,b2⟩,b3,b4⟩:=hb
  have h1:=mul_b (x:=a.1) (y:=b.2) (m:=1048576) (n:=1048576) (by omega) (by omega)
  have h2:=mul_b (x:=b.1) (y:=a.2) (m:=1048576) (n:=1048576) (by omega) (by omega)
  exact ⟨by omega,by omega⟩
theorem sgn_rng (z:Int): -1≤z.sign∧z.sign≤1:=by
  rcases Int.lt_trichotomy z 0 with h|h|h
  · rw [Int.sign_eq_neg_one_of_neg h];omega
  · rw [h];simp
  · rw [Int.sign_eq_one_of_pos h];omega
theorem sgn_mul (z w:Int): -1≤z.sign*w.sign∧z.sign*w.sign≤1:=by
  have h1:=sgn_rng z
  have h2:=sgn_rng w
  have h:=mul_b (x:=z.sign) (y:=w.sign) (m:=1) (n:=1) (by omega) (by omega)
  omega
def betw (a b p:P2):Prop:=min a.1 b.1≤p.1∧p.1≤max a.1 b.1∧min a.2 b.2≤p.2∧p.2≤max a.2 b.2
instance (a b p:P2):Decidable (betw a b p):=inferInstanceAs (Decidable (_∧_))
def wi (a b x:Int):Prop:=a≤x∧x≤b∨b≤x∧x≤a
instance (a b x:Int):Decidable (wi a b x):=inferInstanceAs (Decidable (_∨_))
theorem betw_wi {a b p:P2}:betw a b p↔wi a.1 b.1 p.1∧wi a.2 b.2 p.2:=by unfold betw wi;omega
def onS (a b p:P2):Prop:=crs a b p=0∧betw a b p
instance (a b p:P2):Decidable (onS a b p):=inferInstanceAs (Decidable (_∧_))
def mt0 (a b c d:P2):Prop:=(crs a b c).sign*(crs a b d).sign<0∧(crs c d a).sign*(crs c d b).sign<0
instance (a b c d:P2):Decidable (mt0 a b c d):=inferInstanceAs (Decidable (_∧_))
def mt1 (a b c d:P2):Prop:=onS a b c∨onS a b d∨onS c d a∨onS c d b
instance (a b c d:P2):Decidable (mt1 a b c d):=inferInstanceAs (Decidable (_∨_))
def mt (a b c d:P2):Prop:=mt0 a b c d∨mt1 a b c d
instance (a b c d:P2):Decidable (mt a b c d):=inferInstanceAs (Decidable (_∨_))
def ck1:List P2→List P2→Int
  |_,[]=>0
  |s,a :: l=>if far a then 2 else if a∈s then 7 else ck1 (s++[a]) l
theorem ck1_step {l:List P2} {i:Nat} (h:i<l.length):ck1 (l.take i) (l.drop i)=if far (l.getD i (0,0)) then 2 else if l.getD i (0,0)∈l.take i then 7 else ck1 (l.take (i+1)) (l.drop (i+1)):=by
  rw [Ms.drop_cons (0,0) h,Ms.take_snoc (0,0) h];rfl
theorem ck1_far {l:List P2} {i:Nat} (h:i<l.length) (hf:far (l.getD i (0,0))=true):ck1 (l.take i) (l.drop i)=2:=by rw [ck1_step h,if_pos hf]
theorem ck1_dup {l:List P2} {i:Nat} (h:i<l.length) (hf:far (l.getD i (0,0))=false) (hd:l.getD i (0,0)∈l.take i):ck1 (l.take i) (l.drop i)=7:=by rw [ck1_step h,if_neg (by rw [hf];decide),if_pos hd]
theorem ck1_go {l:List P2} {i:Nat} (h:i<l.length) (hf:far (l.getD i (0,0))=false) (hd:¬l.getD i (0,0)∈l.take i):ck1 (l.take (i+1)) (l.drop (i+1))=ck1 (l.take i) (l.drop i):=by rw [ck1_step h,if_neg (by rw [hf];decide),if_neg hd]
theorem ck1_end {l:List P2} {i:Nat} (h:l.length≤i):ck1 (l.take i) (l.drop i)=0:=by rw [List.drop_eq_nil_of_le h];rfl
theorem ck1_zero {l:List P2}:∀{s:List P2},ck1 s l=0→∀x∈l,inR x:=by
  induction l with
  |nil=>intro s _ x hx;cases hx
  |cons a l ih=>
    intro s h x hx
    unfold ck1 at h
    by_cases hf:far a=true
    · rw [if_pos hf] at h;omega
    rw [if_neg hf] at h
    by_cases hd:a∈s
    · rw [if_pos hd] at h;omega
    rw [if_neg hd] at h
    rcases List.mem_cons.1 hx with rfl|hx
    · exact far_no hf
    · exact ih h x hx
abbrev gt (l:List P2) (i:Nat):P2:=l.getD i (0,0)
def smA (n:Nat) (l:List P2) (i:Nat):Prop:=onS (gt l i) (gt l ((i+1)%n)) (gt l ((i+2)%n))∨onS (gt l ((i+1)%n)) (gt l ((i+2)%n)) (gt l i)
instance (n:Nat) (l:List P2) (i:Nat):Decidable (smA n l i):=inferInstanceAs (Decidable (_∨_))
def smB (n:Nat) (l:List P2) (i j:Nat):Prop:=i+2≤j∧(j+1)%n≠i∧mt (gt l i) (gt l ((i+1)%n)) (gt l j) (gt l ((j+1)%n))
instance (n:Nat) (l:List P2) (i j:Nat):Decidable (smB n l i j):=inferInstanceAs (Decidable (_∧_))
def smI (n:Nat) (l:List P2) (i:Nat):Prop:=¬smA n l i∧∀j,j<n→¬smB n l i j
instance (n:Nat) (l:List P2) (i:Nat):Decidable (smI n l i):=inferInstanceAs (Decidable (_∧_))
def smp (l:List P2):Prop:=∀i,i<l.length→smI l.length l i
instance (l:List P2):Decidable (smp l):=inferInstanceAs (Decidable (∀i,i<l.length→_))
def bad (n:Nat) (l:List P2) (i j:Nat):Prop:=
  if j=i+1 then onS (gt l i) (gt l ((i+1)%n)) (gt l ((j+1)%n))∨onS (gt l j) (gt l ((j+1)%n)) (gt l i)
  else if (j+1)%n=i then onS (gt l i) (gt l ((i+1)%n)) (gt l j)∨onS (gt l j) (gt l ((j+1)%n)) (gt l ((i+1)%n))
  else mt (gt l i) (gt l ((i+1)%n)) (gt l j) (gt l ((j+1)%n))
instance (n:Nat) (l:List P2) (i j:Nat):Decidable (bad n l i j):=inferInstanceAs (Decidable (ite ..))
def smpR (l:List P2):Prop:=∀i,i<l.length→∀j,j<l.length→i<j→¬bad l.length l i j
instance (l:List P2):Decidable (smpR l):=inferInstanceAs (Decidable (∀i,i<l.length→∀j,j<l.length→_))
theorem smp_n {l:List P2} {n:Nat} (hn:l.length=n):smp l↔∀i,i<n→smI n l i:=by subst hn;exact Iff.rfl
def ck (l:List P2):Int:=if l.length<3∨64<l.length then 3 else if ck1 [] l≠0 then ck1 [] l else if smp l then 0 else 11
theorem ck_lim {l:List P2} (h:l.length<3∨64<l.length):ck l=3:=by unfold ck;rw [if_pos h]
theorem ck_one {l:List P2} (h:¬(l.length<3∨64<l.length)) (h2:ck1 [] l≠0):ck l=ck1 [] l:=by unfold ck;rw [if_neg h,if_pos h2]
theorem ck_two {l:List P2} (h:¬(l.length<3∨64<l.length)) (h2:ck1 [] l=0) (h3:¬smp l):ck l=11:=by unfold ck;rw [if_neg h,if_neg (by omega),if_neg h3]
theorem ck_ok {l:List P2} (h:¬(l.length<3∨64<l.length)) (h2:ck1 [] l=0) (h3:smp l):ck l=0:=by unfold ck;rw [if_neg h,if_neg (by omega),if_pos h3]
structure Ok (l:List P2):Prop where
  n3:3≤l.length
  n64:l.length≤64
  rng:∀x∈l,inR x
  smp:smp l
theorem ok {l:List P2} (h:ck l=0):Ok l:=by
  unfold ck at h
  by_cases h1:l.length<3∨64<l.length
  · rw [if_pos h1] at h;omega
  rw [if_neg h1] at h
  by_cases h2:ck1 [] l≠0
  · rw [if_pos h2] at h;exact absurd h h2
  rw [if_neg h2] at h
  by_cases h3:Pg.smp l
  · exact ⟨by omega,by omega,ck1_zero (Decidable.not_not.1 h2),h3⟩
  · rw [if_neg h3] at h;omega
theorem Ok.gt {l:List P2} (h:∀x∈l,inR x) {i:Nat} (hi:i<l.length):inR (l.getD i (0,0)):=h _ (Ms.getD_mem (0,0) hi)
def tm (n:Nat) (l:List P2) (i:Nat):Int:=(gt l i).1*(gt l ((i+1)%n)).2 - (gt l ((i+1)%n)).1*(gt l i).2
def dbN (n:Nat) (l:List P2):Nat→Int
  |0=>0
  |i+1=>dbN n l i+tm n l i
def db (l:List P2):Int:=dbN l.length l l.length
theorem tm_b {l:List P2} {n:Nat} (hn:l.length=n) (h:∀x∈l,inR x) {i:Nat} (hi:i<n): -2199023255552≤tm n l i∧tm n l i≤2199023255552:=by
  subst hn
  have h1:=Ok.gt h hi
  have h2:=Ok.gt h (Nat.mod_lt (i+1) (by omega:0<l.length))
  obtain ⟨p1,p2⟩:=ab h1 h2
  unfold tm gt;omega
theorem dbN_b {l:List P2} {n:Nat} (hn:l.length=n) (h:∀x∈l,inR x):∀{i:Nat},i≤n→ -(2199023255552*(i:Int))≤dbN n l i∧dbN n l i≤2199023255552*(i:Int)
  |0,_=>by unfold dbN;omega
  |i+1,hi=>by
    have h1:=dbN_b hn h (i:=i) (by omega)
    have h2:=tm_b hn h (i:=i) (by omega)
    unfold dbN;omega
def arC (l:List P2):Int:=if 64<l.length then 3 else if l.any far then 2 else 0
def arV (l:List P2):Int:=if 64<l.length then 0 else if l.any far then 0 else db l
theorem any_far {l:List P2} (h:¬l.any far=true):∀x∈l,inR x:=fun x hx=>by
  refine far_no fun hf=>h (List.any_eq_true.2 ⟨x,hx,hf⟩)
theorem ar_lim {l:List P2} (h:64<l.length):arV l=0∧arC l=3:=by unfold arV arC;rw [if_pos h,if_pos h];exact ⟨rfl,rfl⟩
theorem ar_far {l:List P2} (h:¬64<l.length) (h2:l.any far=true):arV l=0∧arC l=2:=by unfold arV arC;rw [if_neg h,if_neg h,if_pos h2,if_pos h2];exact ⟨rfl,rfl⟩
theorem ar_ok {l:List P2} (h:¬64<l.length) (h2:¬l.any far=true):arV l=db l∧arC l=0:=by unfold arV arC;rw [if_neg h,if_neg h,if_neg h2,if_neg h2];exact ⟨rfl,rfl⟩
def hit0 (a b q:P2):Prop:=a.2≤q.2∧q.2<b.2∧0<(crs a b q).sign
instance (a b q:P2):Decidable (hit0 a b q):=inferInstanceAs (Decidable (_∧_))
def hit (a b q:P2):Prop:=if b.2<a.2 then hit0 b a q else hit0 a b q
instance (a b q:P2):Decidable (hit a b q):=inferInstanceAs (Decidable (ite ..))
def hitR (a b q:P2):Prop:=(¬(q.2<a.2↔q.2<b.2))∧(a.2<b.2∧0<crs a b q∨b.2<a.2∧crs a b q<0)
instance (a b q:P2):Decidable (hitR a b q):=inferInstanceAs (Decidable (_∧_))
theorem hit_sw {a b q:P2} (h:b.2<a.2):hit a b q↔hit0 b a q:=by unfold hit;rw [if_pos h]
theorem hit_no {a b q:P2} (h:¬b.2<a.2):hit a b q↔hit0 a b q:=by unfold hit;rw [if_neg h]
theorem crs_sw (a b q:P2):crs b a q= - crs a b q:=by unfold crs;grind
def inN (n:Nat) (l:List P2) (q:P2):Nat→Int
  |0=> -1
  |i+1=>if hit (gt l i) (gt l ((i+1)%n)) q then - inN n l q i else inN n l q i
theorem inN_hit {n:Nat} {l:List P2} {q:P2} {i:Nat} (h:hit (gt l i) (gt l ((i+1)%n)) q):inN n l q (i+1)= - inN n l q i:=by
  show ite .. =_;rw [if_pos h]
theorem inN_not {n:Nat} {l:List P2} {q:P2} {i:Nat} (h:¬hit (gt l i) (gt l ((i+1)%n)) q):inN n l q (i+1)=inN n l q i:=by
  show ite .. =_;rw [if_neg h]
theorem inN_rng (n:Nat) (l:List P2) (q:P2):∀i,inN n l q i=1∨inN n l q i= -1
  |0=> .inr rfl
  |i+1=>by
    have:=inN_rng n l q i
    unfold inN;split <;> omega
def onB (l:List P2) (q:P2):Prop:=∃i,i<l.length∧onS (l.getD i (0,0)) (l.getD ((i+1)%l.length) (0,0)) q
instance (l:List P2) (q:P2):Decidable (onB l q):=inferInstanceAs (Decidable (∃i,i<l.length∧_))
def ins (l:List P2) (q:P2):Int:=if onB l q then 0 else inN l.length l q l.length
theorem ins_on {l:List P2} {n:Nat} (hn:l.length=n) {q:P2} {i:Nat} (hi:i<n) (h:onS (l.getD i (0,0)) (l.getD ((i+1)%n) (0,0)) q):ins l q=0:=by subst hn;unfold ins;rw [if_pos ⟨i,hi,h⟩]
theorem ins_go {l:List P2} {n:Nat} (hn:l.length=n) {q:P2} (h:∀i,i<n→¬onS (l.getD i (0,0)) (l.getD ((i+1)%n) (0,0)) q):ins l q=inN n l q n:=by
  subst hn;unfold ins;rw [if_neg (fun ⟨i,h1,h2⟩=>h i h1 h2)]
theorem ins_rng (l:List P2) (q:P2): -1≤ins l q∧ins l q≤1:=by
  unfold ins;have:=inN_rng l.length l q l.length;split <;> omega
def isC (l:List P2) (q:P2):Int:=if ck l≠0 then ck l else if far q then 2 else 0
def isV (l:List P2) (q:P2):Int:=if ck l≠0 then 0 else if far q then 0 else ins l q
theorem is_bad {l:List P2} {q:P2} (h:ck l≠0):isV l q=0∧isC l q=ck l:=by unfold isV isC;rw [if_pos h,if_pos h];exact ⟨rfl,rfl⟩
theorem is_far {l:List P2} {q:P2} (h:ck l=0) (h2:far q=true):isV l q=0∧isC l q=2:=by unfold isV isC;rw [if_neg (fun k=>k h),if_pos h2,if_neg (fun k=>k h),if_pos h2];exact ⟨rfl,rfl⟩
theorem is_ok {l:List P2} {q:P2} (h:ck l=0) (h2:¬far q=true):isV l q=ins l q∧isC l q=0:=by unfold isV isC;rw [if_neg (fun k=>k h),if_neg h2,if_neg (fun k=>k h),if_neg h2];exact ⟨rfl,rfl⟩
end Go.Proofs.YtjcpbhlijoigfaaGreat.Pg
namespace Go.Proofs.YtjcpbhlijoigfaaGreat.Sp
open Go
set_option linter.unusedVariables false
set_option maxRecDepth 100000
set_option maxHeartbeats 8000000
theorem zgc {ex:Int} {ey:Int} (hwex: -9223372036854775808≤ex∧ex≤9223372036854775807) (hwey: -9223372036854775808≤ey∧ey≤9223372036854775807):Con ye 46 [.agg #[.int .i64 ex,.int .i64 ey]] [] [] (Y:=Unit) (fun y=>True) (fun y=> .bool (Pg.far (ex,ey))) (fun y=>[]) (fun y=>[]):=by
 refine zl Tryz.func46 rfl rfl rfl (fun c=> ?_)
 show RunC _ _ _ _ _ [(0,.agg #[.int .i64 ex,.int .i64 ey])] [] []
 refine zg<|za<|zM rfl rfl (zS rfl rfl) (fun b1=> ?_)
 refine e_p (zc rfl)<|zh<|zd<|zHa (X:=Unit) (fun x=>True) (fun x=>[(2,.bool (decide ((((ex<(-0x100000))∨(0x100000<ex))∨(ey<(-0x100000)))∨(0x100000<ey))))]) (fun x=>[boxA b1 30 [.int .i64 ex,.int .i64 ey]]) (fun x=>[]) ?_ ?_
 ·
  refine za<|e_p (zf ya rfl sz3 rfl rfl)<|e_ru (ze 0 ty3 rfl rfl rfl)<|e_p (zba rfl rfl)<|zV rfl rfl (zW rfl) (fun h2=> ?_) (fun h2=> ?_)
  ·
   refine e_no<|e_no<|e_no<|e_p (zn rfl rfl)<|e_mv rfl<|e_no<|e_no<|e_no<|e_p (zn rfl rfl)<|e_mv rfl<|e_no<|e_no<|e_no<|e_p (zn rfl rfl)<|e_p (zc rfl)<|zh ?_
   exact zga () (show True from by first|trivial|omega|simp_all) ((.e rfl (congrArg Value.bool cbu) .n):SubM _ _) (ho:=((.c (i:=0) rfl .n):PickO _ _ _)) (.n:SelR _ _ _)
  ·
   refine e_p (zf ya rfl sz3 rfl rfl)<|e_ru (ze 0 ty3 rfl rfl rfl)<|e_p (zAa rfl rfl)<|e_p (zn rfl rfl)<|zV rfl rfl (zW rfl) (fun h3=> ?_) (fun h3=> ?_)
   ·
    refine e_no<|e_no<|e_no<|e_p (zn rfl rfl)<|e_mv rfl<|e_no<|e_no<|e_no<|e_p (zn rfl rfl)<|e_p (zc rfl)<|zh ?_
    exact zga () (show True from by first|trivial|omega|simp_all) ((.e rfl (congrArg Value.bool cbu) .n):SubM _ _) (ho:=((.c (i:=0) rfl .n):PickO _ _ _)) (.n:SelR _ _ _)
   ·
    refine e_p (zf ya rfl sz3 rfl rfl)<|e_ru (ze 0 ty3 rfl rfl rfl)<|e_p (zba rfl rfl)<|e_p (zn rfl rfl)<|zV rfl rfl (zW rfl) (fun h4=> ?_) (fun h4=> ?_)
    ·
     refine e_no<|e_no<|e_no<|e_p (zn rfl rfl)<|e_p (zc rfl)<|zh ?_
     exact zga () (show True from by first|trivial|omega|simp_all) ((.e rfl (congrArg Value.bool cbu) .n):SubM _ _) (ho:=((.c (i:=0) rfl .n):PickO _ _ _)) (.n:SelR _ _ _)
    ·
     refine e_p (zf ya rfl sz3 rfl rfl)<|e_ru (ze 0 ty3 rfl rfl rfl)<|e_p (zAa rfl rfl)<|e_p (zn rfl rfl)<|e_p (zc rfl)<|zh ?_
     exact zga () (show True from by first|trivial|omega|simp_all) ((.e rfl (congrArg Value.bool cbu) .n):SubM _ _) (ho:=((.c (i:=0) rfl .n):PickO _ _ _)) (.n:SelR _ _ _)
 ·
  rintro ⟨⟩ -
  try dsimp only
  refine zI ?_
  exact zu Tryz.results46 () trivial (zk rfl) (congrArg Value.bool (by first|rfl|(simp [Pg.far,Pg.inR];omega)|(rw [Bool.eq_iff_iff,decide_eq_true_iff];simp [Pg.far,Pg.inR];omega))) (ho:=(.n:PickO _ _ _)) (.n:SelR _ _ _)
theorem zWa {ex:Int} {ey:Int} {fx:Int} {fy:Int} {gx:Int} {gy:Int} (hre:Pg.inR (ex,ey)) (hrf:Pg.inR (fx,fy)) (hrg:Pg.inR (gx,gy)):Con ye 54 [.agg #[.int .i64 ex,.int .i64 ey],.agg #[.int .i64 fx,.int .i64 fy],.agg #[.int .i64 gx,.int .i64 gy]] [] [] (Y:=Unit) (fun y=>True) (fun y=> .int .i64 ((Pg.crs (ex,ey) (fx,fy) (gx,gy)).sign)) (fun y=>[]) (fun y=>[]):=by
 refine zl Tryz.func54 rfl rfl rfl (fun c=> ?_)
 show RunC _ _ _ _ _ [(0,.agg #[.int .i64 ex,.int .i64 ey]),(1,.agg #[.int .i64 fx,.int .i64 fy]),(2,.agg #[.int .i64 gx,.int .i64 gy])] [] []
 have hue:(-1048576≤ex∧ex≤1048576)∧(-1048576≤ey∧ey≤1048576):=hre
 have huf:(-1048576≤fx∧fx≤1048576)∧(-1048576≤fy∧fy≤1048576):=hrf
 have hug:(-1048576≤gx∧gx≤1048576)∧(-1048576≤gy∧gy≤1048576):=hrg
 obtain ⟨hk1,hk2,hk3⟩:=Pg.cb hre hrf hrg
 dsimp only [Pg.crs] at hk1 hk2 hk3
 refine zg<|za<|zM rfl rfl (zS rfl rfl) (fun b1=> ?_)
 refine zM rfl rfl (zS rfl rfl) (fun b2=> ?_)
 refine zM rfl rfl (zS rfl rfl) (fun b3=> ?_)
 refine e_p (zc rfl)<|zh<|zd<|zg<|za<|e_p (zf ya rfl sz3 rfl rfl)<|e_ru (ze 1 ty3 rfl rfl rfl)<|e_p (zf ya rfl sz3 rfl rfl)<|e_ru (ze 2 ty3 rfl rfl rfl)<|e_p (zka (z:=(fx - ex)) rfl rfl (w64 om))<|e_p (zf ya rfl sz3 rfl rfl)<|e_ru (ze 0 ty3 rfl rfl rfl)<|e_p (zf ya rfl sz3 rfl rfl)<|e_ru (ze 2 ty3 rfl rfl rfl)<|e_p (zka (z:=(gy - ey)) rfl rfl (w64 om))<|e_p (zFa (z:=((fx - ex)*(gy - ey))) rfl rfl (w64 om))<|e_p (zf ya rfl sz3 rfl rfl)<|e_ru (ze 1 ty3 rfl rfl rfl)<|e_p (zf ya rfl sz3 rfl rfl)<|e_ru (ze 2 ty3 rfl rfl rfl)<|e_p (zka (z:=(fy - ey)) rfl rfl (w64 om))<|e_p (zf ya rfl sz3 rfl rfl)<|e_ru (ze 0 ty3 rfl rfl rfl)<|e_p (zf ya rfl sz3 rfl rfl)<|e_ru (ze 2 ty3 rfl rfl rfl)<|e_p (zka (z:=(gx - ex)) rfl rfl (w64 om))<|e_p (zFa (z:=((fy - ey)*(gx - ex))) rfl rfl (w64 om))<|e_p (zka (z:=(((fx - ex)*(gy - ey)) - ((fy - ey)*(gx - ex)))) rfl rfl (w64 om))<|e_p (zc rfl)<|zh<|zd<|zg<|zA<|zg<|za<|e_mv rfl<|e_p (zAa rfl rfl)<|e_p (zc rfl)<|zh<|zd<|zG rfl (fun hpos=> ?_) (fun hpos=> ?_)
 ·
  refine zg<|za<|e_p (zc rfl)<|zh<|zd<|zI<|zp<|zi ?_
  exact zu Tryz.results54 () trivial (zk rfl) (congrArg (Value.int .i64) (Int.sign_eq_one_of_pos (a:=Pg.crs (ex,ey) (fx,fy) (gx,gy)) (by dsimp only [Pg.crs];omega))) (ho:=(.n:PickO _ _ _)) (.n:SelR _ _ _)
 ·
  refine zg<|za<|e_mv rfl<|e_p (zba rfl rfl)<|e_p (zc rfl)<|zh<|zd<|zG rfl (fun hneg=> ?_) (fun hneg=> ?_)
  ·
   refine zg<|za<|e_p (zc rfl)<|zh<|zd<|zI<|zp<|zi ?_
   exact zu Tryz.results54 () trivial (zk rfl) (congrArg (Value.int .i64) (Int.sign_eq_neg_one_of_neg (a:=Pg.crs (ex,ey) (fx,fy) (gx,gy)) (by dsimp only [Pg.crs];omega))) (ho:=(.n:PickO _ _ _)) (.n:SelR _ _ _)
  ·
   refine zw<|zO<|zd<|zg<|za<|e_p (zc rfl)<|zh<|zd<|zI ?_
   exact zu Tryz.results54 () trivial (zk rfl) (congrArg (Value.int .i64) (Int.sign_eq_zero_iff_zero.2 (show Pg.crs (ex,ey) (fx,fy) (gx,gy)=0 by dsimp only [Pg.crs];omega))) (ho:=(.n:PickO _ _ _)) (.n:SelR _ _ _)
theorem zhc {ex:Int} {ey:Int} {fx:Int} {fy:Int} {gx:Int} {gy:Int} (hre:Pg.inR (ex,ey)) (hrf:Pg.inR (fx,fy)) (hrg:Pg.inR (gx,gy)):Con ye 55 [.agg #[.int .i64 ex,.int .i64 ey],.agg #[.int .i64 fx,.int .i64 fy],.agg #[.int .i64 gx,.int .i64 gy]] [] [] (Y:=Unit) (fun y=>True) (fun y=> .int .i64 (Pg.crs (ex,ey) (fx,fy) (gx,gy))) (fun y=>[]) (fun y=>[]):=by
 refine zl Tryz.func55 rfl rfl rfl (fun c=> ?_)
 show RunC _ _ _ _ _ [(0,.agg #[.int .i64 ex,.int .i64 ey]),(1,.agg #[.int .i64 fx,.int .i64 fy]),(2,.agg #[.int .i64 gx,.int .i64 gy])] [] []
 have hue:(-1048576≤ex∧ex≤1048576)∧(-1048576≤ey∧ey≤1048576):=hre
 have huf:(-1048576≤fx∧fx≤1048576)∧(-1048576≤fy∧fy≤1048576):=hrf
 have hug:(-1048576≤gx∧gx≤1048576)∧(-1048576≤gy∧gy≤1048576):=hrg
 obtain ⟨hk1,hk2,hk3⟩:=Pg.cb hre hrf hrg
 dsimp only [Pg.crs] at hk1 hk2 hk3
 refine zg<|za<|zM rfl rfl (zS rfl rfl) (fun b1=> ?_)
 refine zM rfl rfl (zS rfl rfl) (fun b2=> ?_)
 refine zM rfl rfl (zS rfl rfl) (fun b3=> ?_)
 refine e_p (zc rfl)<|zh<|zd<|zg<|za<|e_p (zf ya rfl sz3 rfl rfl)<|e_ru (ze 1 ty3 rfl rfl rfl)<|e_p (zf ya rfl sz3 rfl rfl)<|e_ru (ze 2 ty3 rfl rfl rfl)<|e_p (zka (z:=(fx - ex)) rfl rfl (w64 om))<|e_p (zf ya rfl sz3 rfl rfl)<|e_ru (ze 0 ty3 rfl rfl rfl)<|e_p (zf ya rfl sz3 rfl rfl)<|e_ru (ze 2 ty3 rfl rfl rfl)<|e_p (zka (z:=(gy - ey)) rfl rfl (w64 om))<|e_p (zFa (z:=((fx - ex)*(gy - ey))) rfl rfl (w64 om))<|e_p (zf ya rfl sz3 rfl rfl)<|e_ru (ze 1 ty3 rfl rfl rfl)<|e_p (zf ya rfl sz3 rfl rfl)<|e_ru (ze 2 ty3 rfl rfl rfl)<|e_p (zka (z:=(fy - ey)) rfl rfl (w64 om))<|e_p (zf ya rfl sz3 rfl rfl)<|e_ru (ze 0 ty3 rfl rfl rfl)<|e_p (zf ya rfl sz3 rfl rfl)<|e_ru (ze 2 ty3 rfl rfl rfl)<|e_p (zka (z:=(gx - ex)) rfl rfl (w64 om))<|e_p (zFa (z:=((fy - ey)*(gx - ex))) rfl rfl (w64 om))<|e_p (zka (z:=(((fx - ex)*(gy - ey)) - ((fy - ey)*(gx - ex)))) rfl rfl (w64 om))<|e_p (zc rfl)<|zh<|zd<|zI ?_
 exact zu Tryz.results55 () trivial (zk rfl) rfl (ho:=(.n:PickO _ _ _)) (.n:SelR _ _ _)
theorem zQc {z:Int} (hz: -9223372036854775808≤z∧z≤9223372036854775807):Con ye 65 [.int .i64 z] [] [] (Y:=Unit) (fun y=>True) (fun y=> .int .i64 (z.sign)) (fun y=>[]) (fun y=>[]):=by
 refine zl Tryz.func65 rfl rfl rfl (fun c=> ?_)
 show RunC _ _ _ _ _ [(0,.int .i64 z)] [] []
 refine zg<|za<|e_p (zc rfl)<|zh<|zd<|zg<|zg<|za<|e_mv rfl<|e_p (zba rfl rfl)<|zh<|zd<|zG rfl (fun hneg=> ?_) (fun hneg=> ?_)
 ·
  refine zg<|za<|e_p (zc rfl)<|zh<|zd<|zI<|zi ?_
  exact zu Tryz.results65 () trivial (zk rfl) (congrArg (Value.int .i64) (Int.sign_eq_neg_one_of_neg hneg)) (ho:=(.n:PickO _ _ _)) (.n:SelR _ _ _)
 ·
  refine zw<|zd<|zg<|zg<|za<|e_mv rfl<|e_p (zAa rfl rfl)<|zh<|zd<|zG rfl (fun hpos=> ?_) (fun hpos=> ?_)
  ·
   refine zg<|za<|e_p (zc rfl)<|zh<|zd<|zI<|zi ?_
   exact zu Tryz.results65 () trivial (zk rfl) (congrArg (Value.int .i64) (Int.sign_eq_one_of_pos hpos)) (ho:=(.n:PickO _ _ _)) (.n:SelR _ _ _)
  ·
   refine zw<|zd<|zg<|za<|e_p (zc rfl)<|zh<|zd<|zI ?_
   exact zu Tryz.results65 () trivial (zk rfl) (congrArg (Value.int .i64) (Int.sign_eq_zero_iff_zero.2 (show z=0 by omega))) (ho:=(.n:PickO _ _ _)) (.n:SelR _ _ _)
theorem zMf {ex:Int} {ey:Int} {fx:Int} {fy:Int} {gx:Int} {gy:Int}:Con ye 91 [.agg #[.int .i64 ex,.int .i64 ey],.agg #[.int .i64 fx,.int .i64 fy],.agg #[.int .i64 gx,.int .i64 gy]] [] [] (Y:=Unit) (fun y=>True) (fun y=> .bool (decide (Pg.betw (ex,ey) (fx,fy) (gx,gy)))) (fun y=>[]) (fun y=>[]):=by
 refine zl Tryz.func91 rfl rfl rfl (fun c=> ?_)
 show RunC _ _ _ _ _ [(0,.agg #[.int .i64 ex,.int .i64 ey]),(1,.agg #[.int .i64 fx,.int .i64 fy]),(2,.agg #[.int .i64 gx,.int .i64 gy])] [] []
 refine zg<|za<|zM rfl rfl (zS rfl rfl) (fun b1=> ?_)
 refine zM rfl rfl (zS rfl rfl) (fun b2=> ?_)
 refine zM rfl rfl (zS rfl rfl) (fun b3=> ?_)
 refine e_p (zc rfl)<|zh<|zd<|zHa (X:=Unit) (fun x=>True) (fun x=>[(6,.bool (decide (((((min ex fx)≤gx)∧(gx≤(max ex fx)))∧((min ey fy)≤gy))∧(gy≤(max ey fy)))))]) (fun x=>[boxA b3 30 [.int .i64 gx,.int .i64 gy],boxA b2 30 [.int .i64 fx,.int .i64 fy],boxA b1 30 [.int .i64 ex,.int .i64 ey]]) (fun x=>[]) ?_ ?_
 ·
  refine za<|e_p (zf ya rfl sz3 rfl rfl)<|e_ru (ze 2 ty3 rfl rfl rfl)<|e_p (zf ya rfl sz3 rfl rfl)<|e_ru (ze 1 ty3 rfl rfl rfl)<|e_p (zbg rfl rfl)<|e_p (zf ya rfl sz3 rfl rfl)<|e_ru (ze 0 ty3 rfl rfl rfl)<|e_p (zKa rfl rfl)<|zV rfl rfl (zW rfl) (fun h4=> ?_) (fun h4=> ?_)
  ·
   refine e_p (zf ya rfl sz3 rfl rfl)<|e_ru (ze 0 ty3 rfl rfl rfl)<|e_p (zf ya rfl sz3 rfl rfl)<|e_ru (ze 2 ty3 rfl rfl rfl)<|e_p (zf ya rfl sz3 rfl rfl)<|e_ru (ze 1 ty3 rfl rfl rfl)<|e_p (zUe rfl rfl)<|e_p (zKa rfl rfl)<|e_p (zn rfl rfl)<|zV rfl rfl (zW rfl) (fun h5=> ?_) (fun h5=> ?_)
   ·
    refine e_p (zf ya rfl sz3 rfl rfl)<|e_ru (ze 2 ty3 rfl rfl rfl)<|e_p (zf ya rfl sz3 rfl rfl)<|e_ru (ze 1 ty3 rfl rfl rfl)<|e_p (zbg rfl rfl)<|e_p (zf ya rfl sz3 rfl rfl)<|e_ru (ze 0 ty3 rfl rfl rfl)<|e_p (zKa rfl rfl)<|e_p (zn rfl rfl)<|zV rfl rfl (zW rfl) (fun h6=> ?_) (fun h6=> ?_)
    ·
     refine e_p (zf ya rfl sz3 rfl rfl)<|e_ru (ze 0 ty3 rfl rfl rfl)<|e_p (zf ya rfl sz3 rfl rfl)<|e_ru (ze 2 ty3 rfl rfl rfl)<|e_p (zf ya rfl sz3 rfl rfl)<|e_ru (ze 1 ty3 rfl rfl rfl)<|e_p (zUe rfl rfl)<|e_p (zKa rfl rfl)<|e_p (zn rfl rfl)<|e_p (zc rfl)<|zh ?_
     exact zga () (show True from by first|trivial|omega|simp_all) ((.e rfl (congrArg Value.bool cbu) .n):SubM _ _) (ho:=((.of [0,0,0] rfl):PickO _ _ _)) (.n:SelR _ _ _)
    ·
     refine e_no<|e_no<|e_no<|e_no<|e_no<|e_no<|e_no<|e_no<|e_p (zn rfl rfl)<|e_p (zc rfl)<|zh ?_
     exact zga () (show True from by first|trivial|omega|simp_all) ((.e rfl (congrArg Value.bool cbu) .n):SubM _ _) (ho:=((.of [0,0,0] rfl):PickO _ _ _)) (.n:SelR _ _ _)
   ·
    refine e_no<|e_no<|e_no<|e_no<|e_no<|e_no<|e_no<|e_no<|e_p (zn rfl rfl)<|e_mv rfl<|e_no<|e_no<|e_no<|e_no<|e_no<|e_no<|e_no<|e_no<|e_p (zn rfl rfl)<|e_p (zc rfl)<|zh ?_
    exact zga () (show True from by first|trivial|omega|simp_all) ((.e rfl (congrArg Value.bool cbu) .n):SubM _ _) (ho:=((.of [0,0,0] rfl):PickO _ _ _)) (.n:SelR _ _ _)
  ·
   refine e_no<|e_no<|e_no<|e_no<|e_no<|e_no<|e_no<|e_no<|e_p (zn rfl rfl)<|e_mv rfl<|e_no<|e_no<|e_no<|e_no<|e_no<|e_no<|e_no<|e_no<|e_p (zn rfl rfl)<|e_mv rfl<|e_no<|e_no<|e_no<|e_no<|e_no<|e_no<|e_no<|e_no<|e_p (zn rfl rfl)<|e_p (zc rfl)<|zh ?_
   exact zga () (show True from by first|trivial|omega|simp_all) ((.e rfl (congrArg Value.bool cbu) .n):SubM _ _) (ho:=((.of [0,0,0] rfl):PickO _ _ _)) (.n:SelR _ _ _)
 ·
  rintro ⟨⟩ -
  try dsimp only
  refine zI ?_
  exact zu Tryz.results91 () trivial (zk rfl) (congrArg Value.bool (by first|rfl|(rw [Bool.eq_iff_iff,decide_eq_true_iff];simp [Pg.betw,and_assoc,or_assoc];done)|(rw [Bool.eq_iff_iff,decide_eq_true_iff];simp_all [Pg.betw]))) (ho:=(.n:PickO _ _ _)) (.n:SelR _ _ _)
theorem zmf {ex:Int} {ey:Int} {fx:Int}:Con ye 81 [.int .i64 ex,.int .i64 ey,.int .i64 fx] [] [] (Y:=Unit) (fun y=>True) (fun y=> .bool (decide (Pg.wi ex ey fx))) (fun y=>[]) (fun y=>[]):=by
 refine zl Tryz.func81 rfl rfl rfl (fun c=> ?_)
 show RunC _ _ _ _ _ [(0,.int .i64 ex),(1,.int .i64 ey),(2,.int .i64 fx)] [] []
 refine zg<|za<|e_p (zc rfl)<|zh<|zd<|zHa (X:=Unit) (fun x=>True) (fun x=>[(6,.bool (decide (((ex≤fx)∧(fx≤ey))∨((ey≤fx)∧(fx≤ex)))))]) (fun x=>[]) (fun x=>[]) ?_ ?_
 ·
  refine za<|e_mv rfl<|e_mv rfl<|e_p (zKa rfl rfl)<|zV rfl rfl (zW rfl) (fun h1=> ?_) (fun h1=> ?_)
  ·
   refine e_mv rfl<|e_mv rfl<|e_p (zKa rfl rfl)<|e_p (zn rfl rfl)<|zV rfl rfl (zW rfl) (fun h2=> ?_) (fun h2=> ?_)
   ·
    refine e_no<|e_no<|e_no<|e_no<|e_no<|e_no<|e_no<|e_no<|e_p (zn rfl rfl)<|e_p (zc rfl)<|zh ?_
    exact zga () (show True from by first|trivial|omega|simp_all) ((.e rfl (congrArg Value.bool cbu) .n):SubM _ _) (ho:=(.n:PickO _ _ _)) (.n:SelR _ _ _)
   ·
    refine e_mv rfl<|e_mv rfl<|e_p (zKa rfl rfl)<|zV rfl rfl (zW rfl) (fun h3=> ?_) (fun h3=> ?_)
    ·
     refine e_mv rfl<|e_mv rfl<|e_p (zKa rfl rfl)<|e_p (zn rfl rfl)<|e_p (zn rfl rfl)<|e_p (zc rfl)<|zh ?_
     exact zga () (show True from by first|trivial|omega|simp_all) ((.e rfl (congrArg Value.bool cbu) .n):SubM _ _) (ho:=(.n:PickO _ _ _)) (.n:SelR _ _ _)
    ·
     refine e_no<|e_no<|e_no<|e_p (zn rfl rfl)<|e_p (zn rfl rfl)<|e_p (zc rfl)<|zh ?_
     exact zga () (show True from by first|trivial|omega|simp_all) ((.e rfl (congrArg Value.bool cbu) .n):SubM _ _) (ho:=(.n:PickO _ _ _)) (.n:SelR _ _ _)
  ·
   refine e_no<|e_no<|e_no<|e_p (zn rfl rfl)<|e_mv rfl<|e_mv rfl<|e_mv rfl<|e_p (zKa rfl rfl)<|zV rfl rfl (zW rfl) (fun h4=> ?_) (fun h4=> ?_)
   ·
    refine e_mv rfl<|e_mv rfl<|e_p (zKa rfl rfl)<|e_p (zn rfl rfl)<|e_p (zn rfl rfl)<|e_p (zc rfl)<|zh ?_
    exact zga () (show True from by first|trivial|omega|simp_all) ((.e rfl (congrArg Value.bool cbu) .n):SubM _ _) (ho:=(.n:PickO _ _ _)) (.n:SelR _ _ _)
   ·
    refine e_no<|e_no<|e_no<|e_p (zn rfl rfl)<|e_p (zn rfl rfl)<|e_p (zc rfl)<|zh ?_
    exact zga () (show True from by first|trivial|omega|simp_all) ((.e rfl (congrArg Value.bool cbu) .n):SubM _ _) (ho:=(.n:PickO _ _ _)) (.n:SelR _ _ _)
 ·
  rintro ⟨⟩ -
  try dsimp only
  refine zI ?_
  exact zu Tryz.results81 () trivial (zk rfl) (congrArg Value.bool (by first|rfl|(simp [Pg.wi];done)|simp_all [Pg.wi])) (ho:=(.n:PickO _ _ _)) (.n:SelR _ _ _)
theorem zWb {ex:Int} {ey:Int} {fx:Int} {fy:Int} {gx:Int} {gy:Int} (hre:Pg.inR (ex,ey)) (hrf:Pg.inR (fx,fy)) (hrg:Pg.inR (gx,gy)):Con ye 50 [.agg #[.int .i64 ex,.int .i64 ey],.agg #[.int .i64 fx,.int .i64 fy],.agg #[.int .i64 gx,.int .i64 gy]] [] [] (Y:=Unit) (fun y=>True) (fun y=> .bool (decide (Pg.onS (ex,ey) (fx,fy) (gx,gy)))) (fun y=>[]) (fun y=>[]):=by
 refine zl Tryz.func50 rfl rfl rfl (fun c=> ?_)
 show RunC _ _ _ _ _ [(0,.agg #[.int .i64 ex,.int .i64 ey]),(1,.agg #[.int .i64 fx,.int .i64 fy]),(2,.agg #[.int .i64 gx,.int .i64 gy])] [] []
 refine zg<|za<|zM rfl rfl (zS rfl rfl) (fun b1=> ?_)
 refine zM rfl rfl (zS rfl rfl) (fun b2=> ?_)
 refine zM rfl rfl (zS rfl rfl) (fun b3=> ?_)
 refine e_p (zc rfl)<|zh<|zd<|zHa (X:=Unit) (fun x=>True) (fun x=>[(6,.bool (decide (((Pg.crs (ex,ey) (fx,fy) (gx,gy)).sign=0)∧(Pg.betw (ex,ey) (fx,fy) (gx,gy)))))]) (fun x=>[boxA b3 30 [.int .i64 gx,.int .i64 gy],boxA b2 30 [.int .i64 fx,.int .i64 fy],boxA b1 30 [.int .i64 ex,.int .i64 ey]]) (fun x=>[]) ?_ ?_
 ·
  refine za<|e_ru (zb 2 ty30 rfl rfl (.t2 .nil))<|e_ru (zb 1 ty30 rfl rfl (.t2 .nil))<|e_ru (zb 0 ty30 rfl rfl (.t2 .nil))<|zL rfl rfl (.c rfl (.c rfl (.c rfl .n))) ce54 (zWa (ex:=ex) (ey:=ey) (fx:=fx) (fy:=fy) (gx:=gx) (gy:=gy) (hre:=ass) (hrf:=ass) (hrg:=ass)) (.n)<|e_p (zDa rfl rfl)<|zV rfl rfl (zW rfl) (fun h4=> ?_) (fun h4=> ?_)
  ·
   refine e_ru (zb 2 ty30 rfl rfl (.t2 .nil))<|e_ru (zb 1 ty30 rfl rfl (.t2 .nil))<|e_ru (zb 0 ty30 rfl rfl (.t2 .nil))<|zL rfl rfl (.c rfl (.c rfl (.c rfl .n))) ce91 (zMf (ex:=ex) (ey:=ey) (fx:=fx) (fy:=fy) (gx:=gx) (gy:=gy)) (.n)<|e_p (zn rfl rfl)<|e_p (zc rfl)<|zh ?_
   exact zga () (show True from by first|trivial|omega|simp_all) ((.e rfl (congrArg Value.bool cbu) .n):SubM _ _) (ho:=((.of [0,0,0] rfl):PickO _ _ _)) (.n:SelR _ _ _)
  ·
   refine e_no<|e_no<|e_no<|e_no<|e_p (zn rfl rfl)<|e_p (zc rfl)<|zh ?_
   exact zga () (show True from by first|trivial|omega|simp_all) ((.e rfl (congrArg Value.bool cbu) .n):SubM _ _) (ho:=((.of [0,0,0] rfl):PickO _ _ _)) (.n:SelR _ _ _)
 ·
  rintro ⟨⟩ -
  try dsimp only
  refine zI ?_
  exact zu Tryz.results50 () trivial (zk rfl) (congrArg Value.bool (by first|rfl|(rw [Bool.eq_iff_iff,decide_eq_true_iff];simp [Pg.onS,Int.sign_eq_zero_iff_zero,and_assoc,or_assoc];done)|(rw [Bool.eq_iff_iff,decide_eq_true_iff];simp_all [Pg.onS,Int.sign_eq_zero_iff_zero]))) (ho:=(.n:PickO _ _ _)) (.n:SelR _ _ _)
theorem zae {ex:Int} {ey:Int} {fx:Int} {fy:Int} {gx:Int} {gy:Int} (hre:Pg.inR (ex,ey)) (hrf:Pg.inR (fx,fy)) (hrg:Pg.inR (gx,gy)):Con ye 35 [.agg #[.int .i64 ex,.int .i64 ey],.agg #[.int .i64 fx,.int .i64 fy],.agg #[.int .i64 gx,.int .i64 gy]] [] [] (Y:=Unit) (fun y=>True) (fun y=> .bool (decide (Pg.onS (ex,ey) (fx,fy) (gx,gy)))) (fun y=>[]) (fun y=>[]):=by
 refine zl Tryz.func35 rfl rfl rfl (fun c=> ?_)
 show RunC _ _ _ _ _ [(0,.agg #[.int .i64 ex,.int .i64 ey]),(1,.agg #[.int .i64 fx,.int .i64 fy]),(2,.agg #[.int .i64 gx,.int .i64 gy])] [] []
 refine zg<|za<|zM rfl rfl (zS rfl rfl) (fun b1=> ?_)
 refine zM rfl rfl (zS rfl rfl) (fun b2=> ?_)
 refine zM rfl rfl (zS rfl rfl) (fun b3=> ?_)
 refine e_p (zc rfl)<|zh<|zd<|zHa (X:=Unit) (fun x=>True) (fun x=>[(6,.bool (decide (((Pg.crs (ex,ey) (fx,fy) (gx,gy)=0)∧(Pg.wi ex fx gx))∧(Pg.wi ey fy gy))))]) (fun x=>[boxA b3 30 [.int .i64 gx,.int .i64 gy],boxA b2 30 [.int .i64 fx,.int .i64 fy],boxA b1 30 [.int .i64 ex,.int .i64 ey]]) (fun x=>[]) ?_ ?_
 ·
  refine za<|e_ru (zb 2 ty30 rfl rfl (.t2 .nil))<|e_ru (zb 1 ty30 rfl rfl (.t2 .nil))<|e_ru (zb 0 ty30 rfl rfl (.t2 .nil))<|zL rfl rfl (.c rfl (.c rfl (.c rfl .n))) ce55 (zhc (ex:=ex) (ey:=ey) (fx:=fx) (fy:=fy) (gx:=gx) (gy:=gy) (hre:=ass) (hrf:=ass) (hrg:=ass)) (.n)<|e_p (zDa rfl rfl)<|zV rfl rfl (zW rfl) (fun h4=> ?_) (fun h4=> ?_)
  ·
   refine e_p (zf ya rfl sz3 rfl rfl)<|e_ru (ze 2 ty3 rfl rfl rfl)<|e_p (zf ya rfl sz3 rfl rfl)<|e_ru (ze 1 ty3 rfl rfl rfl)<|e_p (zf ya rfl sz3 rfl rfl)<|e_ru (ze 0 ty3 rfl rfl rfl)<|zL rfl rfl (.c rfl (.c rfl (.c rfl .n))) ce81 (zmf (ex:=ex) (ey:=fx) (fx:=gx)) (.n)<|e_p (zn rfl rfl)<|zV rfl rfl (zW rfl) (fun h5=> ?_) (fun h5=> ?_)
   ·
    refine e_p (zf ya rfl sz3 rfl rfl)<|e_ru (ze 2 ty3 rfl rfl rfl)<|e_p (zf ya rfl sz3 rfl rfl)<|e_ru (ze 1 ty3 rfl rfl rfl)<|e_p (zf ya rfl sz3 rfl rfl)<|e_ru (ze 0 ty3 rfl rfl rfl)<|zL rfl rfl (.c rfl (.c rfl (.c rfl .n))) ce81 (zmf (ex:=ey) (ey:=fy) (fx:=gy)) (.n)<|e_p (zn rfl rfl)<|e_p (zc rfl)<|zh ?_
    exact zga () (show True from by first|trivial|omega|simp_all) ((.e rfl (congrArg Value.bool cbu) .n):SubM _ _) (ho:=((.of [0,0,0] rfl):PickO _ _ _)) (.n:SelR _ _ _)
   ·
    refine e_no<|e_no<|e_no<|e_no<|e_no<|e_no<|e_no<|e_p (zn rfl rfl)<|e_p (zc rfl)<|zh ?_
    exact zga () (show True from by first|trivial|omega|simp_all) ((.e rfl (congrArg Value.bool cbu) .n):SubM _ _) (ho:=((.of [0,0,0] rfl):PickO _ _ _)) (.n:SelR _ _ _)
  ·
   refine e_no<|e_no<|e_no<|e_no<|e_no<|e_no<|e_no<|e_p (zn rfl rfl)<|e_mv rfl<|e_no<|e_no<|e_no<|e_no<|e_no<|e_no<|e_no<|e_p (zn rfl rfl)<|e_p (zc rfl)<|zh ?_
   exact zga () (show True from by first|trivial|omega|simp_all) ((.e rfl (congrArg Value.bool cbu) .n):SubM _ _) (ho:=((.of [0,0,0] rfl):PickO _ _ _)) (.n:SelR _ _ _)
 ·
  rintro ⟨⟩ -
  try dsimp only
  refine zI ?_
  exact zu Tryz.results35 () trivial (zk rfl) (congrArg Value.bool (by first|rfl|(rw [Bool.eq_iff_iff,decide_eq_true_iff];simp [Pg.onS,Pg.betw_wi,and_assoc,or_assoc];done)|(rw [Bool.eq_iff_iff,decide_eq_true_iff];simp_all [Pg.onS,Pg.betw_wi]))) (ho:=(.n:PickO _ _ _)) (.n:SelR _ _ _)
theorem znf {ex:Int} {ey:Int} {fx:Int} {fy:Int} {gx:Int} {gy:Int} {hx:Int} {hy:Int} (hre:Pg.inR (ex,ey)) (hrf:Pg.inR (fx,fy)) (hrg:Pg.inR (gx,gy)) (hrh:Pg.inR (hx,hy)):Con ye 51 [.agg #[.int .i64 ex,.int .i64 ey],.agg #[.int .i64 fx,.int .i64 fy],.agg #[.int .i64 gx,.int .i64 gy],.agg #[.int .i64 hx,.int .i64 hy]] [] [] (Y:=Unit) (fun y=>True) (fun y=> .bool (decide (Pg.mt (ex,ey) (fx,fy) (gx,gy) (hx,hy)))) (fun y=>[]) (fun y=>[]):=by
 refine zl Tryz.func51 rfl rfl rfl (fun c=> ?_)
 show RunC _ _ _ _ _ [(0,.agg #[.int .i64 ex,.int .i64 ey]),(1,.agg #[.int .i64 fx,.int .i64 fy]),(2,.agg #[.int .i64 gx,.int .i64 gy]),(3,.agg #[.int .i64 hx,.int .i64 hy])] [] []
 have hs0:=Pg.sgn_mul (Pg.crs (ex,ey) (fx,fy) (gx,gy)) (Pg.crs (ex,ey) (fx,fy) (hx,hy))
 have hs1:=Pg.sgn_mul (Pg.crs (gx,gy) (hx,hy) (ex,ey)) (Pg.crs (gx,gy) (hx,hy) (fx,fy))
 have hc0:=(Pg.cb hre hrf hrg).c
 have hc1:=(Pg.cb hre hrf hrh).c
 have hc2:=(Pg.cb hrg hrh hre).c
 have hc3:=(Pg.cb hrg hrh hrf).c
 refine zg<|za<|zM rfl rfl (zS rfl rfl) (fun b1=> ?_)
 refine zM rfl rfl (zS rfl rfl) (fun b2=> ?_)
 refine zM rfl rfl (zS rfl rfl) (fun b3=> ?_)
 refine zM rfl rfl (zS rfl rfl) (fun b4=> ?_)
 refine e_p (zc rfl)<|zh<|zd<|zg<|zHa (X:=Unit) (fun x=>True) (fun x=>[(30,.bool (decide ((((Pg.crs (ex,ey) (fx,fy) (gx,gy)).sign*(Pg.crs (ex,ey) (fx,fy) (hx,hy)).sign)<0)∧(((Pg.crs (gx,gy) (hx,hy) (ex,ey)).sign*(Pg.crs (gx,gy) (hx,hy) (fx,fy)).sign)<0)))),(8,.bool false),(7,.pointer (some ⟨b4,0,none⟩)),(6,.pointer (some ⟨b3,0,none⟩)),(5,.pointer (some ⟨b2,0,none⟩)),(4,.pointer (some ⟨b1,0,none⟩))]) (fun x=>[boxA b4 30 [.int .i64 hx,.int .i64 hy],boxA b3 30 [.int .i64 gx,.int .i64 gy],boxA b2 30 [.int .i64 fx,.int .i64 fy],boxA b1 30 [.int .i64 ex,.int .i64 ey]]) (fun x=>[]) ?_ ?_
 ·
  refine zY (OW:=[]) (O:=[boxA b4 30 [.int .i64 hx,.int .i64 hy],boxA b3 30 [.int .i64 gx,.int .i64 gy],boxA b2 30 [.int .i64 fx,.int .i64 fy],boxA b1 30 [.int .i64 ex,.int .i64 ey]]) 100000 mixed (.then (.then .ret)) kr<|e_u 0 rfl rfl (zb 3 ty30 rfl rfl (.t2 .nil))<|e_u 1 rfl rfl (zb 2 ty30 rfl rfl (.t2 .nil))<|e_u 2 rfl rfl (zb 1 ty30 rfl rfl (.t2 .nil))<|e_u 4 rfl rfl (zb 3 ty30 rfl rfl (.t2 .nil))<|e_u 5 rfl rfl (zb 2 ty30 rfl rfl (.t2 .nil))<|e_u 6 rfl rfl (zb 0 ty30 rfl rfl (.t2 .nil))<|e_one 3 (zGa rfl rfl rfl rfl (.c rfl (.c rfl (.c rfl .n))) ce54 (zWa (ex:=ex) (ey:=ey) (fx:=fx) (fy:=fy) (gx:=gx) (gy:=gy) (hre:=ass) (hrf:=ass) (hrg:=ass)) (.n) ?_)
  refine e_one 7 (zGa rfl rfl rfl rfl (.c rfl (.c rfl (.c rfl .n))) ce54 (zWa (ex:=ex) (ey:=ey) (fx:=fx) (fy:=fy) (gx:=hx) (gy:=hy) (hre:=ass) (hrf:=ass) (hrg:=ass)) (.n) ?_)
  refine e_pv 8 rfl rfl (zFa (z:=((Pg.crs (ex,ey) (fx,fy) (gx,gy)).sign*(Pg.crs (ex,ey) (fx,fy) (hx,hy)).sign)) rfl rfl (w64 om))<|e_pv 9 rfl rfl (zba rfl rfl)<|zPb 10 rfl rfl kr kr rfl rfl (zW rfl) (fun h5=> ?_) (fun h5=> ?_)
  ·
   refine e_u 11 rfl rfl (zb 1 ty30 rfl rfl (.t2 .nil))<|e_u 12 rfl rfl (zb 0 ty30 rfl rfl (.t2 .nil))<|e_u 13 rfl rfl (zb 3 ty30 rfl rfl (.t2 .nil))<|e_u 15 rfl rfl (zb 1 ty30 rfl rfl (.t2 .nil))<|e_u 16 rfl rfl (zb 0 ty30 rfl rfl (.t2 .nil))<|e_u 17 rfl rfl (zb 2 ty30 rfl rfl (.t2 .nil))<|e_one 14 (zGa rfl rfl rfl rfl (.c rfl (.c rfl (.c rfl .n))) ce54 (zWa (ex:=gx) (ey:=gy) (fx:=hx) (fy:=hy) (gx:=ex) (gy:=ey) (hre:=ass) (hrf:=ass) (hrg:=ass)) (.n) ?_)
   refine e_one 18 (zGa rfl rfl rfl rfl (.c rfl (.c rfl (.c rfl .n))) ce54 (zWa (ex:=gx) (ey:=gy) (fx:=hx) (fy:=hy) (gx:=fx) (gy:=fy) (hre:=ass) (hrf:=ass) (hrg:=ass)) (.n) ?_)
   refine e_pv 19 rfl rfl (zFa (z:=((Pg.crs (gx,gy) (hx,hy) (ex,ey)).sign*(Pg.crs (gx,gy) (hx,hy) (fx,fy)).sign)) rfl rfl (w64 om))<|e_pv 20 rfl rfl (zba rfl rfl)<|e_pv 21 rfl rfl (zn rfl rfl)<|zU kr ?_
   exact zga () (show True from by first|trivial|omega|simp_all) ((.e rfl (congrArg Value.bool cbu) (.of rfl)):SubM _ _) (ho:=((.of [0,0,0,0] rfl):PickO _ _ _)) (.n:SelR _ _ _)
  ·
   refine e_skip 11 rfl rfl<|e_skip 12 rfl rfl<|e_skip 13 rfl rfl<|e_skip 14 rfl rfl<|e_skip 15 rfl rfl<|e_skip 16 rfl rfl<|e_skip 17 rfl rfl<|e_skip 18 rfl rfl<|e_skip 19 rfl rfl<|e_skip 20 rfl rfl<|e_pv 21 rfl rfl (zn rfl rfl)<|zU kr ?_
   exact zga () (show True from by first|trivial|omega|simp_all) ((.e rfl (congrArg Value.bool cbu) (.of rfl)):SubM _ _) (ho:=((.of [0,0,0,0] rfl):PickO _ _ _)) (.n:SelR _ _ _)
 ·
  rintro ⟨⟩ -
  try dsimp only
  refine zG rfl (fun hm=> ?_) (fun hm=> ?_)
  ·
   refine zg<|za<|e_p (zc rfl)<|zh<|zd<|zI<|zi ?_
   exact zu Tryz.results51 () trivial (zk rfl) (congrArg Value.bool (decide_eq_true (Or.inl hm))) (ho:=(.n:PickO _ _ _)) (.n:SelR _ _ _)
  ·
   refine zw<|zd<|zHa (X:=Unit) (fun x=>True) (fun x=>[(8,.bool (decide ((((Pg.onS (ex,ey) (fx,fy) (gx,gy))∨(Pg.onS (ex,ey) (fx,fy) (hx,hy)))∨(Pg.onS (gx,gy) (hx,hy) (ex,ey)))∨(Pg.onS (gx,gy) (hx,hy) (fx,fy)))))]) (fun x=>[boxA b4 30 [.int .i64 hx,.int .i64 hy],boxA b3 30 [.int .i64 gx,.int .i64 gy],boxA b2 30 [.int .i64 fx,.int .i64 fy],boxA b1 30 [.int .i64 ex,.int .i64 ey]]) (fun x=>[]) ?_ ?_
   ·
    refine za<|e_ru (zb 3 ty30 rfl rfl (.t2 .nil))<|e_ru (zb 2 ty30 rfl rfl (.t2 .nil))<|e_ru (zb 1 ty30 rfl rfl (.t2 .nil))<|zL rfl rfl (.c rfl (.c rfl (.c rfl .n))) ce50 (zWb (ex:=ex) (ey:=ey) (fx:=fx) (fy:=fy) (gx:=gx) (gy:=gy) (hre:=ass) (hrf:=ass) (hrg:=ass)) (.n)<|zV rfl rfl (zW rfl) (fun h6=> ?_) (fun h6=> ?_)
    ·
     refine e_no<|e_no<|e_no<|e_no<|e_p (zn rfl rfl)<|e_mv rfl<|e_no<|e_no<|e_no<|e_no<|e_p (zn rfl rfl)<|e_mv rfl<|e_no<|e_no<|e_no<|e_no<|e_p (zn rfl rfl)<|e_p (zc rfl)<|zh ?_
     exact zga () (show True from by first|trivial|omega|simp_all) ((.e rfl (congrArg Value.bool cbu) .n):SubM _ _) (ho:=((.of [0,0,0,0] rfl):PickO _ _ _)) (.n:SelR _ _ _)
    ·
     refine e_ru (zb 3 ty30 rfl rfl (.t2 .nil))<|e_ru (zb 2 ty30 rfl rfl (.t2 .nil))<|e_ru (zb 0 ty30 rfl rfl (.t2 .nil))<|zL rfl rfl (.c rfl (.c rfl (.c rfl .n))) ce50 (zWb (ex:=ex) (ey:=ey) (fx:=fx) (fy:=fy) (gx:=hx) (gy:=hy) (hre:=ass) (hrf:=ass) (hrg:=ass)) (.n)<|e_p (zn rfl rfl)<|zV rfl rfl (zW rfl) (fun h7=> ?_) (fun h7=> ?_)
     ·
      refine e_no<|e_no<|e_no<|e_no<|e_p (zn rfl rfl)<|e_mv rfl<|e_no<|e_no<|e_no<|e_no<|e_p (zn rfl rfl)<|e_p (zc rfl)<|zh ?_
      exact zga () (show True from by first|trivial|omega|simp_all) ((.e rfl (congrArg Value.bool cbu) .n):SubM _ _) (ho:=((.of [0,0,0,0] rfl):PickO _ _ _)) (.n:SelR _ _ _)
     ·
      refine e_ru (zb 1 ty30 rfl rfl (.t2 .nil))<|e_ru (zb 0 ty30 rfl rfl (.t2 .nil))<|e_ru (zb 3 ty30 rfl rfl (.t2 .nil))<|zL rfl rfl (.c rfl (.c rfl (.c rfl .n))) ce50 (zWb (ex:=gx) (ey:=gy) (fx:=hx) (fy:=hy) (gx:=ex) (gy:=ey) (hre:=ass) (hrf:=ass) (hrg:=ass)) (.n)<|e_p (zn rfl rfl)<|zV rfl rfl (zW rfl) (fun h8=> ?_) (fun h8=> ?_)
      ·
       refine e_no<|e_no<|e_no<|e_no<|e_p (zn rfl rfl)<|e_p (zc rfl)<|zh ?_
       exact zga () (show True from by first|trivial|omega|simp_all) ((.e rfl (congrArg Value.bool cbu) .n):SubM _ _) (ho:=((.of [0,0,0,0] rfl):PickO _ _ _)) (.n:SelR _ _ _)
      ·
       refine e_ru (zb 1 ty30 rfl rfl (.t2 .nil))<|e_ru (zb 0 ty30 rfl rfl (.t2 .nil))<|e_ru (zb 2 ty30 rfl rfl (.t2 .nil))<|zL rfl rfl (.c rfl (.c rfl (.c rfl .n))) ce50 (zWb (ex:=gx) (ey:=gy) (fx:=hx) (fy:=hy) (gx:=fx) (gy:=fy) (hre:=ass) (hrf:=ass) (hrg:=ass)) (.n)<|e_p (zn rfl rfl)<|e_p (zc rfl)<|zh ?_
       exact zga () (show True from by first|trivial|omega|simp_all) ((.e rfl (congrArg Value.bool cbu) .n):SubM _ _) (ho:=((.of [0,0,0,0] rfl):PickO _ _ _)) (.n:SelR _ _ _)
   ·
    rintro ⟨⟩ -
    try dsimp only
    refine zI ?_
    exact zu Tryz.results51 () trivial (zk rfl) (congrArg Value.bool (by rw [Bool.eq_iff_iff,decide_eq_true_iff];show Pg.mt0 _ _ _ _∨Pg.mt1 _ _ _ _↔_;rw [or_iff_right (show ¬Pg.mt0 _ _ _ _ from hm)];simp [Pg.mt1,or_assoc])) (ho:=(.n:PickO _ _ _)) (.n:SelR _ _ _)
end Go.Proofs.YtjcpbhlijoigfaaGreat.Sp
namespace Go.Proofs.YtjcpbhlijoigfaaGreat.Sp
open Go
set_option linter.unusedVariables false
set_option maxRecDepth 100000
set_option maxHeartbeats 8000000
theorem zng {p:Option Addr} {n:Nat} {cap:Nat} {l:List Pg.P2} {ex:Int} {ey:Int} (hn:l.length=n):Con ye 90 [.slice p n cap,.agg #[.int .i64 ex,.int .i64 ey]] [] [slF (rI2 .i64) p cap l] (Y:=Int) (fun y=>(0≤y↔(ex,ey)∈l)) (fun y=> .int .i64 y) (fun y=>[]) (fun y=>[]):=by
 refine zl Tryz.func90 rfl rfl rfl (fun c=> ?_)
 show RunC _ _ _ _ _ [(0,.slice p n cap),(1,.agg #[.int .i64 ex,.int .i64 ey])] [] [slF (rI2 .i64) p cap l]
 refine zda 0 rfl (fun hL0=> ?_)
 refine zg<|za<|zM rfl rfl (zS rfl rfl) (fun b1=> ?_)
 refine e_p (zc rfl)<|zh<|zd<|zg<|zg<|za<|e_mv rfl<|e_p (zN yb rfl)<|e_mv rfl<|zh<|zd<|zA<|zpa (X:=Nat) (fun x:Nat=>x≤n∧∀j,j<x→¬((ex,ey)=(l.getD j (0,0)))) (fun x=>[(8,.int .i64 ((x:Nat):Int)),(7,.int .i64 ((n:Nat):Int)),(3,.pointer (some ⟨b1,0,none⟩)),(0,.slice p n cap)]) (fun x=>[boxA b1 30 [.int .i64 ex,.int .i64 ey]]) (fun x=>[slF (rI2 .i64) p cap l]) (fun x:Nat=>n - x) 0 (show 0≤n∧∀j,j<0→¬((ex,ey)=(l.getD j (0,0))) from by exact ⟨Nat.zero_le _,fun j h=>by omega⟩) ((.e rfl (by first|rfl|(congr 1;omega)|simp_all) (.of rfl)):SubM _ _) (ho:=((.c (i:=0) rfl .n):PickO _ _ _)) ((.c (j:=0) rfl .n):SelR _ _ _) ?_
 rintro i hI
 replace hI:i≤n∧∀j,j<i→¬((ex,ey)=(l.getD j (0,0))):=hI
 try dsimp only
 obtain ⟨hi,hall⟩:=hI
 refine zg<|za<|e_p (zba rfl rfl)<|zh<|zd<|zg<|zG rfl (fun h2=> ?_) (fun h2=> ?_)
 ·
  refine zw<|zd<|zg<|zA<|zg<|za<|e_mv rfl<|e_p (zc rfl)<|zh<|zd<|zg<|zY (OW:=[]) (O:=[boxA b1 30 [.int .i64 ex,.int .i64 ey]]) 100000 mixed (.then (.block (.then (.then (.block (.then .ret)))))) kr<|e_u 0 rfl rfl (zb 0 ty30 rfl rfl (.t2 .nil))<|e_dm 1 rfl rfl rfl<|e_dm 2 rfl rfl rfl<|zca (x0:=(l.getD i (0,0))) 3 rfl rfl kr kr 0 i rfl yb sz30 rfl rfl rfl cbs rfl rfl (gD (d:=(0,0)) om) (fun b3 o4 hok5=> ?_)
  obtain ⟨hok5x,hok5y⟩:=hok5
  replace hok5x:=zD.1 hok5x
  replace hok5y:=zD.1 hok5y
  refine e_u 4 rfl rfl (zJ (j:=0) 0 ty30 rfl rfl rfl (.t2 .nil))<|e_pv 5 rfl rfl (zDe (p:=ex=(l.getD i (0,0)).1∧ey=(l.getD i (0,0)).2) kr rfl rfl (zCe ya kr (zYe dd ty3 rfl rfl (zMc Tryz.underlying3) (zYe dd ty3 rfl rfl (zMc Tryz.underlying3) zhg))) (by simp [Bool.decide_and]))<|zU kr<|zd<|zG rfl (fun hb=> ?_) (fun hb=> ?_)
  ·
   refine zg<|za<|e_mv rfl<|e_p (zc rfl)<|zh<|zd<|zI<|zp<|zi<|zi<|zp<|zi ?_
   exact zu Tryz.results90 ((i:Nat):Int) (⟨fun _=>by have h9:(ex,ey)=(l.getD i (0,0)):=(by first|exact hb|exact Prod.ext hb.1 hb.2);rw [h9];exact Ms.getD_mem (0,0) om,fun _=>by omega⟩) (zk rfl) rfl (ho:=(.n:PickO _ _ _)) (.n:SelR _ _ _)
  ·
   refine zw<|zO<|zd<|za<|e_p (zK (z:=(((i+1):Nat):Int)) rfl rfl (w64 om))<|e_mv rfl<|zh<|zha (i+1) (show (i+1)≤n∧∀j,j<(i+1)→¬((ex,ey)=(l.getD j (0,0))) from by exact ⟨by omega,Ms.all_lt_succ (P:=fun j=>¬((ex,ey)=(l.getD j (0,0)))) hall (fun k=>hb (by first|exact k|exact ⟨congrArg Prod.fst k,congrArg Prod.snd k⟩))⟩) (by show n - (i+1)<n - i;omega) ((.of rfl):SubM _ _) (ho:=((.c (i:=0) rfl .n):PickO _ _ _)) ((.c (j:=1) rfl .n):SelR _ _ _)
 ·
  refine zna<|zj<|zj<|zy<|zd<|zg<|za<|e_p (zc rfl)<|zh<|zd<|zI ?_
  exact zu Tryz.results90 (-1) (⟨fun h=>by omega,fun h=>by obtain ⟨j,h1,h2⟩:=Ms.mem_getD (0,0) h;exact absurd h2.symm (hall j om)⟩) (zk rfl) rfl (ho:=(.n:PickO _ _ _)) (.n:SelR _ _ _)
theorem zog {p:Option Addr} {n:Nat} {cap:Nat} {l:List Pg.P2} {ex:Int} {ey:Int} (hn:l.length=n):Con ye 49 [.slice p n cap,.agg #[.int .i64 ex,.int .i64 ey]] [] [slF (rI2 .i64) p cap l] (Y:=Unit) (fun y=>True) (fun y=> .bool (decide ((ex,ey)∈l))) (fun y=>[]) (fun y=>[]):=by
 refine zl Tryz.func49 rfl rfl rfl (fun c=> ?_)
 show RunC _ _ _ _ _ [(0,.slice p n cap),(1,.agg #[.int .i64 ex,.int .i64 ey])] [] [slF (rI2 .i64) p cap l]
 refine zda 0 rfl (fun hL0=> ?_)
 refine zg<|za<|zM rfl rfl (zS rfl rfl) (fun b1=> ?_)
 refine e_p (zc rfl)<|zh<|zd<|zg<|za<|e_mv rfl<|e_ru (zb 0 ty30 rfl rfl (.t2 .nil))<|zC rfl rfl (.c rfl (.c rfl .n)) ce90 (zng (p:=p) (n:=n) (cap:=cap) (l:=l) (ex:=ex) (ey:=ey) (hn:=ass)) (.c (j:=0) rfl .n) ?_
 rintro r2 hr
 dsimp only [aq,nq,cq]
 replace hr:(0≤r2↔(ex,ey)∈l):=hr
 refine e_p (zBa rfl rfl)<|e_p (zc rfl)<|zh<|zd<|zI ?_
 exact zu Tryz.results49 () trivial (zk rfl) (congrArg Value.bool (decide_eq_decide.2 hr.symm)) (ho:=(.n:PickO _ _ _)) (.n:SelR _ _ _)
theorem zof {p:Option Addr} {n:Nat} {cap:Nat} {l:List (Pg.P2)} (hn:l.length=n):Con ye 89 [.slice p n cap,.func (.func 46) #[] #[]] [] [slF (rI2 .i64) p cap l] (Y:=Int) (fun y=>(0≤y↔l.any Pg.far=true)) (fun y=> .int .i64 y) (fun y=>[]) (fun y=>[]):=by
 refine zl Tryz.func89 rfl rfl rfl (fun c=> ?_)
 show RunC _ _ _ _ _ [(0,.slice p n cap),(1,.func (.func 46) #[] #[])] [] [slF (rI2 .i64) p cap l]
 refine zda 0 rfl (fun hL0=> ?_)
 refine zg<|za<|e_p (zc rfl)<|zh<|zd<|zg<|zg<|za<|e_mv rfl<|e_p (zN yb rfl)<|e_mv rfl<|zh<|zd<|zA<|zpa (X:=Nat) (fun x:Nat=>x≤n∧∀j,j<x→Pg.far (l.getD j (0,0))=false) (fun x=>[(8,.int .i64 ((x:Nat):Int)),(7,.int .i64 ((n:Nat):Int)),(0,.slice p n cap),(1,.func (.func 46) #[] #[])]) (fun x=>[]) (fun x=>[slF (rI2 .i64) p cap l]) (fun x:Nat=>n - x) 0 (show 0≤n∧∀j,j<0→Pg.far (l.getD j (0,0))=false from by exact ⟨by omega,fun j h=>by omega⟩) ((.e rfl (by first|rfl|(congr 1;omega)|simp_all) (.of rfl)):SubM _ _) (ho:=(.n:PickO _ _ _)) ((.c (j:=0) rfl .n):SelR _ _ _) ?_
 rintro i hI
 replace hI:i≤n∧∀j,j<i→Pg.far (l.getD j (0,0))=false:=hI
 try dsimp only
 obtain ⟨hi,hall⟩:=hI
 refine zg<|za<|e_p (zba rfl rfl)<|zh<|zd<|zg<|zG rfl (fun h1=> ?_) (fun h1=> ?_)
 ·
  refine zw<|zd<|zg<|zA<|zg<|za<|e_mv rfl<|e_p (zc rfl)<|zh<|zd<|zg<|za<|e_mv rfl<|e_mv rfl<|e_mv rfl<|zZ (x0:=(l.getD i (0,0))) 0 i rfl yb sz30 rfl rfl rfl cbs rfl rfl (gD (d:=(0,0)) om) (fun b2 o3 hok4=> ?_)
  obtain ⟨hok4x,hok4y⟩:=hok4
  replace hok4x:=zD.1 hok4x
  replace hok4y:=zD.1 hok4y
  refine e_ru (zJ (j:=0) 0 ty30 rfl rfl rfl (.t2 .nil))<|zAc (first:=[]) (cap:=[]) rfl rfl rfl (.c rfl .n) ce46 (zgc (ex:=(l.getD i (0,0)).1) (ey:=(l.getD i (0,0)).2) (hwex:=cbb) (hwey:=cbb)) (.n) ?_
  rintro ⟨⟩ -
  dsimp only [aq,nq,cq]
  refine zh<|zd<|zXa rfl (fun hb=> ?_) (fun hb=> ?_)
  ·
   refine zg<|za<|e_mv rfl<|e_p (zc rfl)<|zh<|zd<|zI<|zp<|zi<|zi<|zp<|zi ?_
   exact zu Tryz.results89 ((i:Nat):Int) (⟨fun _=>Ms.any_true (0,0) (i:=i) om (by first|exact hb|simpa using hb),fun _=>by omega⟩) (zk rfl) rfl (ho:=(.n:PickO _ _ _)) (.n:SelR _ _ _)
  ·
   refine zw<|zO<|zd<|za<|e_p (zK (z:=(((i+1):Nat):Int)) rfl rfl (w64 om))<|e_mv rfl<|zh<|zha (i+1) (show (i+1)≤n∧∀j,j<(i+1)→Pg.far (l.getD j (0,0))=false from by exact ⟨by omega,Ms.all_lt_succ hall (by first|exact hb|simpa using hb)⟩) (by show n - (i+1)<n - i;omega) ((.of rfl):SubM _ _) (ho:=(.n:PickO _ _ _)) ((.c (j:=1) rfl .n):SelR _ _ _)
 ·
  refine zna<|zj<|zj<|zy<|zd<|zg<|za<|e_p (zc rfl)<|zh<|zd<|zI ?_
  exact zu Tryz.results89 (-1) (⟨fun h=>by omega,fun h=>by rw [Ms.any_false (0,0) (fun j hj=>hall j om)] at h;cases h⟩) (zk rfl) rfl (ho:=(.n:PickO _ _ _)) (.n:SelR _ _ _)
theorem zpf {p:Option Addr} {n:Nat} {cap:Nat} {l:List (Pg.P2)} (hn:l.length=n):Con ye 45 [.slice p n cap,.func (.func 46) #[] #[]] [] [slF (rI2 .i64) p cap l] (Y:=Unit) (fun y=>True) (fun y=> .bool (l.any Pg.far)) (fun y=>[]) (fun y=>[]):=by
 refine zl Tryz.func45 rfl rfl rfl (fun c=> ?_)
 show RunC _ _ _ _ _ [(0,.slice p n cap),(1,.func (.func 46) #[] #[])] [] [slF (rI2 .i64) p cap l]
 refine zda 0 rfl (fun hL0=> ?_)
 refine zg<|za<|e_p (zc rfl)<|zh<|zd<|zg<|za<|e_mv rfl<|e_mv rfl<|zC rfl rfl (.c rfl (.c rfl .n)) ce89 (zof (p:=p) (n:=n) (cap:=cap) (l:=l) (hn:=ass)) (.c (j:=0) rfl .n) ?_
 rintro r1 hr
 dsimp only [aq,nq,cq]
 replace hr:(0≤r1↔l.any Pg.far=true):=hr
 refine e_p (zBa rfl rfl)<|e_p (zc rfl)<|zh<|zd<|zI ?_
 exact zu Tryz.results45 () trivial (zk rfl) (congrArg Value.bool (by rw [Bool.eq_iff_iff,decide_eq_true_iff];exact hr.symm)) (ho:=(.n:PickO _ _ _)) (.n:SelR _ _ _)
end Go.Proofs.YtjcpbhlijoigfaaGreat.Sp
namespace Go.Proofs.YtjcpbhlijoigfaaGreat.Sp
open Go
set_option linter.unusedVariables false
set_option maxRecDepth 100000
set_option maxHeartbeats 8000000
theorem zic {p:Option Addr} {n:Nat} {cap:Nat} {l:List Pg.P2} (hn:l.length=n):Con ye 15 [.slice p n cap] [] [slF (rI2 .i64) p cap l] (Y:=Unit) (fun y=>True) (fun y=> .int .i64 (Pg.ck l)) (fun y=>[]) (fun y=>[]):=by
 refine zl Tryz.func15 rfl rfl rfl (fun c=> ?_)
 show RunC _ _ _ _ _ [(0,.slice p n cap)] [] [slF (rI2 .i64) p cap l]
 refine zda 0 rfl (fun hL0=> ?_)
 refine zg<|za<|e_p (zc rfl)<|zh<|zd<|zg<|za<|e_mv rfl<|e_p (zN yb rfl)<|e_p (zc rfl)<|zh<|zd<|zg<|zHa (X:=Unit) (fun x=>True) (fun x=>[(18,.bool (decide ((((n:Nat):Int)<3)∨(64<((n:Nat):Int))))),(3,.int .i64 ((n:Nat):Int)),(2,.int .i64 0),(0,.slice p n cap)]) (fun x=>[]) (fun x=>[slF (rI2 .i64) p cap l]) ?_ ?_
 ·
  refine za<|e_mv rfl<|e_p (zba rfl rfl)<|zV rfl rfl (zW rfl) (fun h1=> ?_) (fun h1=> ?_)
  ·
   refine e_no<|e_no<|e_p (zn rfl rfl)<|zh ?_
   exact zga () (show True from by first|trivial|omega|simp_all) ((.e rfl (congrArg Value.bool cbu) (.of rfl)):SubM _ _) (ho:=(.n:PickO _ _ _)) ((.c (j:=0) rfl .n):SelR _ _ _)
  ·
   refine e_mv rfl<|e_p (zAa rfl rfl)<|e_p (zn rfl rfl)<|zh ?_
   exact zga () (show True from by first|trivial|omega|simp_all) ((.e rfl (congrArg Value.bool cbu) (.of rfl)):SubM _ _) (ho:=(.n:PickO _ _ _)) ((.c (j:=0) rfl .n):SelR _ _ _)
 ·
  rintro ⟨⟩ -
  try dsimp only
  refine zG rfl (fun hlim=> ?_) (fun hlim=> ?_)
  ·
   refine zg<|za<|e_p (zc rfl)<|zh<|zd<|zI<|zi ?_
   exact zu yg () trivial (zk rfl) (by rw [Pg.ck_lim om]) (ho:=(.n:PickO _ _ _)) (.n:SelR _ _ _)
  ·
   have hlm:¬(l.length<3∨64<l.length):=by omega
   refine zw<|zd<|zg<|zg<|za<|e_mv rfl<|e_p (zN yb rfl)<|e_mv rfl<|zh<|zd<|zA<|zpa (X:=Nat) (fun x:Nat=>x≤n∧Pg.ck1 (l.take x) (l.drop x)=Pg.ck1 [] l) (fun x=>[(21,.int .i64 ((x:Nat):Int)),(20,.int .i64 ((n:Nat):Int)),(19,.slice p n cap),(3,.int .i64 ((n:Nat):Int)),(0,.slice p n cap)]) (fun x=>[]) (fun x=>[slF (rI2 .i64) p cap l]) (fun x:Nat=>n - x) 0 (show 0≤n∧Pg.ck1 (l.take 0) (l.drop 0)=Pg.ck1 [] l from by exact ⟨Nat.zero_le _,rfl⟩) ((.e rfl (by first|rfl|(congr 1;omega)|simp_all) (.of rfl)):SubM _ _) (ho:=(.n:PickO _ _ _)) ((.c (j:=0) rfl .n):SelR _ _ _) ?_
   rintro i hI
   replace hI:i≤n∧Pg.ck1 (l.take i) (l.drop i)=Pg.ck1 [] l:=hI
   try dsimp only
   obtain ⟨hi,hck⟩:=hI
   refine zg<|za<|e_p (zba rfl rfl)<|zh<|zd<|zg<|zG rfl (fun h2=> ?_) (fun h2=> ?_)
   ·
    have hnp:0<n:=by omega
    have hg64: -9223372036854775808≤0:=by omega
    refine zw<|zd<|zg<|zA<|zg<|za<|e_mv rfl<|zZ (x0:=(l.getD i (0,0))) 0 i rfl yb sz30 rfl rfl rfl cbs rfl rfl (gD (d:=(0,0)) om) (fun b3 o4 hok5=> ?_)
    obtain ⟨hok5x,hok5y⟩:=hok5
    replace hok5x:=zD.1 hok5x
    replace hok5y:=zD.1 hok5y
    refine e_ru (zJ (j:=0) 0 ty30 rfl rfl rfl (.t2 .nil))<|zM rfl rfl (zo zr30 rfl) (fun b6=> ?_)
    refine e_p (zc rfl)<|zm 0 rfl rfl rfl rfl rfl sz30 rfl (.t2 .nil) .z<|zh<|zd<|zg<|zg<|za<|e_ru (zb 0 ty30 rfl rfl (.t2 .nil))<|zL rfl rfl (.c rfl .n) ce46 (zgc (ex:=(l.getD i (0,0)).1) (ey:=(l.getD i (0,0)).2) (hwex:=cbo) (hwey:=cbo)) (.n)<|zh<|zd<|zXa rfl (fun hfar=> ?_) (fun hfar=> ?_)
    ·
     refine zg<|za<|e_p (zc rfl)<|zh<|zd<|zI<|zi<|zp<|zi<|zi<|zp<|zi ?_
     exact zu yg () trivial (zk rfl) (by rw [Pg.ck_one hlm (by rw [← hck,Pg.ck1_far om hfar];decide),←hck,Pg.ck1_far om hfar]) (ho:=(.n:PickO _ _ _)) (.n:SelR _ _ _)
    ·
     refine zw<|zd<|zg<|zY (OW:=[]) (O:=[boxA b6 30 [.int .i64 ((l.getD i (0,0)).1),.int .i64 ((l.getD i (0,0)).2)]]) 100000 mixed (.then (.block (.then (.then (.block (.then .ret)))))) kr<|e_dm 0 rfl rfl rfl<|e_dm 1 rfl rfl rfl<|e_pv 2 rfl rfl (zub (hi:=i) yb sz30 rfl (.s rfl) (.inr ⟨_,rfl⟩) om)<|zFb (zbc 1 rfl i om) (fun _ _=> ?_)
     refine e_u 3 rfl rfl (zb 0 ty30 rfl rfl (.t2 .nil))<|e_one 4 (zGa rfl rfl rfl rfl (.c rfl (.c rfl .n)) ce49 (zog (p:=p) (n:=i) (cap:=cap) (l:=(l.take i)) (ex:=(l.getD i (0,0)).1) (ey:=(l.getD i (0,0)).2) (hn:=by first|rfl|assumption|(rw [List.length_take];omega))) (.c (j:=0) rfl .n) ?_)
     refine zU kr<|zd<|zG rfl (fun hdup=> ?_) (fun hdup=> ?_)
     ·
      refine zg<|za<|e_p (zc rfl)<|zh<|zd<|zI<|zp<|zi<|zi<|zp<|zi ?_
      exact zu yg () trivial (zk rfl) (by rw [Pg.ck_one hlm (by rw [← hck,Pg.ck1_dup om hfar hdup];decide),←hck,Pg.ck1_dup om hfar hdup]) (ho:=(.n:PickO _ _ _)) (.n:SelR _ _ _)
     ·
      refine zw<|zO<|zd<|za<|e_p (zK (z:=(((i+1):Nat):Int)) rfl rfl (w64 om))<|e_mv rfl<|zh<|zha (i+1) (show (i+1)≤n∧Pg.ck1 (l.take (i+1)) (l.drop (i+1))=Pg.ck1 [] l from by exact ⟨by omega,(Pg.ck1_go om hfar hdup).trans hck⟩) (by show n - (i+1)<n - i;omega) ((.of rfl):SubM _ _) (ho:=(.n:PickO _ _ _)) ((.c (j:=2) rfl .n):SelR _ _ _)
   ·
    have hz1:Pg.ck1 [] l=0:=by rw [← hck];exact Pg.ck1_end om
    have hrng:=Pg.ck1_zero hz1
    refine zna<|zj<|zj<|zy<|zd<|zg<|zg<|za<|e_mv rfl<|e_p (zN yb rfl)<|e_mv rfl<|zh<|zd<|zA<|zpa (X:=Nat) (fun x:Nat=>x≤n∧∀w,w<x→Pg.smI n l w) (fun x=>[(36,.int .i64 ((x:Nat):Int)),(35,.int .i64 ((n:Nat):Int)),(3,.int .i64 ((n:Nat):Int)),(0,.slice p n cap)]) (fun x=>[]) (fun x=>[slF (rI2 .i64) p cap l]) (fun x:Nat=>n - x) 0 (show 0≤n∧∀w,w<0→Pg.smI n l w from by exact ⟨Nat.zero_le _,fun w h=>by omega⟩) ((.e rfl (by first|rfl|(congr 1;omega)|simp_all) (.of rfl)):SubM _ _) (ho:=(.n:PickO _ _ _)) ((.c (j:=0) rfl .n):SelR _ _ _) ?_
    rintro k hI
    replace hI:k≤n∧∀w,w<k→Pg.smI n l w:=hI
    try dsimp only
    obtain ⟨hk,hall⟩:=hI
    refine zg<|za<|e_p (zba rfl rfl)<|zh<|zd<|zg<|zG rfl (fun h7=> ?_) (fun h7=> ?_)
    ·
     have hm1:(k+1)%n<n:=Nat.mod_lt _ om
     have hm2:(k+2)%n<n:=Nat.mod_lt _ om
     have hg0:Pg.inR (l.getD k (0,0)):=Pg.Ok.gt hrng om
     have hg1:Pg.inR (l.getD ((k+1)%n) (0,0)):=Pg.Ok.gt hrng (by rw [hn];exact Nat.mod_lt _ om)
     have hg2:Pg.inR (l.getD ((k+2)%n) (0,0)):=Pg.Ok.gt hrng (by rw [hn];exact Nat.mod_lt _ om)
     refine zw<|zd<|zg<|zA<|zg<|za<|e_mv rfl<|e_p (zc rfl)<|zh<|zd<|zg<|zY (OW:=[]) (O:=[]) 21 mixed (.then (.block (.then (.then (.block (.then .ret)))))) kr<|e_dm 0 rfl rfl rfl<|e_dm 1 rfl rfl rfl<|zca (x0:=(l.getD k (0,0))) 2 rfl rfl kr kr 0 k rfl yb sz30 rfl rfl rfl cbs rfl rfl (gD (d:=(0,0)) om) (fun b8 o9 hok10=> ?_)
     obtain ⟨hok10x,hok10y⟩:=hok10
     replace hok10x:=zD.1 hok10x
     replace hok10y:=zD.1 hok10y
     refine e_u 3 rfl rfl (zJ (j:=0) 0 ty30 rfl rfl rfl (.t2 .nil))<|e_dm 4 rfl rfl rfl<|e_dm 5 rfl rfl rfl<|e_pv 6 rfl rfl (zK (z:=(((k+1):Nat):Int)) rfl rfl (w64 om))<|e_dm 7 rfl rfl rfl<|e_pv 8 rfl rfl (zxa (z:=((((k+1)%n):Nat):Int)) rfl rfl om (remN om om))<|zca (x0:=(l.getD ((k+1)%n) (0,0))) 9 rfl rfl kr kr 1 ((k+1)%n) rfl yb sz30 rfl rfl rfl cbs rfl rfl (gD (d:=(0,0)) om) (fun b11 o12 hok13=> ?_)
     obtain ⟨hok13x,hok13y⟩:=hok13
     replace hok13x:=zD.1 hok13x
     replace hok13y:=zD.1 hok13y
     refine e_u 10 rfl rfl (zJ (j:=0) 0 ty30 rfl rfl rfl (.t2 .nil))<|e_dm 11 rfl rfl rfl<|e_dm 12 rfl rfl rfl<|e_pv 13 rfl rfl (zK (z:=(((k+2):Nat):Int)) rfl rfl (w64 om))<|e_dm 14 rfl rfl rfl<|e_pv 15 rfl rfl (zxa (z:=((((k+2)%n):Nat):Int)) rfl rfl om (remN om om))<|zca (x0:=(l.getD ((k+2)%n) (0,0))) 16 rfl rfl kr kr 2 ((k+2)%n) rfl yb sz30 rfl rfl rfl cbs rfl rfl (gD (d:=(0,0)) om) (fun b14 o15 hok16=> ?_)
     obtain ⟨hok16x,hok16y⟩:=hok16
     replace hok16x:=zD.1 hok16x
     replace hok16y:=zD.1 hok16y
     refine e_u 17 rfl rfl (zJ (j:=0) 0 ty30 rfl rfl rfl (.t2 .nil))<|zNc (m':=[(56,.agg #[.int .i64 ((l.getD ((k+2)%n) (0,0)).1),.int .i64 ((l.getD ((k+2)%n) (0,0)).2)]),(49,.agg #[.int .i64 ((l.getD ((k+1)%n) (0,0)).1),.int .i64 ((l.getD ((k+1)%n) (0,0)).2)]),(42,.agg #[.int .i64 ((l.getD k (0,0)).1),.int .i64 ((l.getD k (0,0)).2)]),(6,.int .i64 ((k:Nat):Int)),(36,.int .i64 ((k:Nat):Int)),(35,.int .i64 ((n:Nat):Int)),(3,.int .i64 ((n:Nat):Int)),(0,.slice p n cap)]) (R':=[slF (rI2 .i64) p cap l]) ((.of rfl):SubM _ _) (List.Perm.refl _) (List.Perm.refl _) ((.c (j:=3) rfl .n):SelR _ _ _) ?_
     obtain ⟨qd1,hqd1⟩:∃z:Int,z=(l.getD ((k+2)%n) (0,0)).1:=⟨_,rfl⟩
     rw [← hqd1]
     obtain ⟨qd2,hqd2⟩:∃z:Int,z=(l.getD ((k+2)%n) (0,0)).2:=⟨_,rfl⟩
     rw [← hqd2]
     obtain ⟨qd3,hqd3⟩:∃z:Int,z=(l.getD ((k+1)%n) (0,0)).1:=⟨_,rfl⟩
     rw [← hqd3]
     obtain ⟨qd4,hqd4⟩:∃z:Int,z=(l.getD ((k+1)%n) (0,0)).2:=⟨_,rfl⟩
     rw [← hqd4]
     refine zoa (X:=Nat×Nat×Nat) (k':=0) (L':=(lb 24 16777215)) (fun (u18_1,u19_1,u20_1)=>([(9,.pointer (some ⟨u20_1,0,none⟩)),(8,.pointer (some ⟨u19_1,0,none⟩)),(7,.pointer (some ⟨u18_1,0,none⟩)),(6,.int .i64 ((k:Nat):Int)),(36,.int .i64 ((k:Nat):Int)),(35,.int .i64 ((n:Nat):Int)),(3,.int .i64 ((n:Nat):Int)),(0,.slice p n cap)],[boxA u20_1 30 [.int .i64 qd1,.int .i64 qd2],boxA u19_1 30 [.int .i64 qd3,.int .i64 qd4],boxA u18_1 30 [.int .i64 ((l.getD k (0,0)).1),.int .i64 ((l.getD k (0,0)).2)]],[],[slF (rI2 .i64) p cap l])) ?_ (fun hD0=> ?_)
     ·
      rintro ⟨u18_1,u19_1,u20_1⟩
      dsimp only
      refine zU kr ?_
      subst hqd1 hqd2 hqd3 hqd4
      refine zd<|zg<|zHa (X:=Unit) (fun x=>True) (fun x=>[(66,.bool (decide ((Pg.onS (((l.getD k (0,0)).1),((l.getD k (0,0)).2)) (((l.getD ((k+1)%n) (0,0)).1),((l.getD ((k+1)%n) (0,0)).2)) (((l.getD ((k+2)%n) (0,0)).1),((l.getD ((k+2)%n) (0,0)).2)))∨(Pg.onS (((l.getD ((k+1)%n) (0,0)).1),((l.getD ((k+1)%n) (0,0)).2)) (((l.getD ((k+2)%n) (0,0)).1),((l.getD ((k+2)%n) (0,0)).2)) (((l.getD k (0,0)).1),((l.getD k (0,0)).2)))))),(8,.pointer (some ⟨u19_1,0,none⟩)),(7,.pointer (some ⟨u18_1,0,none⟩)),(6,.int .i64 ((k:Nat):Int)),(36,.int .i64 ((k:Nat):Int)),(35,.int .i64 ((n:Nat):Int)),(3,.int .i64 ((n:Nat):Int)),(0,.slice p n cap)]) (fun x=>[boxA u20_1 30 [.int .i64 ((l.getD ((k+2)%n) (0,0)).1),.int .i64 ((l.getD ((k+2)%n) (0,0)).2)],boxA u19_1 30 [.int .i64 ((l.getD ((k+1)%n) (0,0)).1),.int .i64 ((l.getD ((k+1)%n) (0,0)).2)],boxA u18_1 30 [.int .i64 ((l.getD k (0,0)).1),.int .i64 ((l.getD k (0,0)).2)]]) (fun x=>[slF (rI2 .i64) p cap l]) ?_ ?_
      ·
       refine za<|e_ru (zb 2 ty30 rfl rfl (.t2 .nil))<|e_ru (zb 1 ty30 rfl rfl (.t2 .nil))<|e_ru (zb 0 ty30 rfl rfl (.t2 .nil))<|zL rfl rfl (.c rfl (.c rfl (.c rfl .n))) ce50 (zWb (ex:=(l.getD k (0,0)).1) (ey:=(l.getD k (0,0)).2) (fx:=((l.getD ((k+1)%n) (0,0)).1)) (fy:=((l.getD ((k+1)%n) (0,0)).2)) (gx:=((l.getD ((k+2)%n) (0,0)).1)) (gy:=((l.getD ((k+2)%n) (0,0)).2)) (hre:=cbo) (hrf:=cbo) (hrg:=cbo)) (.n)<|zV rfl rfl (zW rfl) (fun h17=> ?_) (fun h17=> ?_)
       ·
        refine e_no<|e_no<|e_no<|e_no<|e_p (zn rfl rfl)<|zh ?_
        exact zga () (show True from by first|trivial|omega|simp_all) ((.e rfl (congrArg Value.bool cbu) (.of rfl)):SubM _ _) (ho:=((.of [0,0,0] rfl):PickO _ _ _)) ((.c (j:=0) rfl .n):SelR _ _ _)
       ·
        refine e_ru (zb 1 ty30 rfl rfl (.t2 .nil))<|e_ru (zb 0 ty30 rfl rfl (.t2 .nil))<|e_ru (zb 2 ty30 rfl rfl (.t2 .nil))<|zL rfl rfl (.c rfl (.c rfl (.c rfl .n))) ce50 (zWb (ex:=((l.getD ((k+1)%n) (0,0)).1)) (ey:=((l.getD ((k+1)%n) (0,0)).2)) (fx:=((l.getD ((k+2)%n) (0,0)).1)) (fy:=((l.getD ((k+2)%n) (0,0)).2)) (gx:=(l.getD k (0,0)).1) (gy:=(l.getD k (0,0)).2) (hre:=cbo) (hrf:=cbo) (hrg:=cbo)) (.n)<|e_p (zn rfl rfl)<|zh ?_
        exact zga () (show True from by first|trivial|omega|simp_all) ((.e rfl (congrArg Value.bool cbu) (.of rfl)):SubM _ _) (ho:=((.of [0,0,0] rfl):PickO _ _ _)) ((.c (j:=0) rfl .n):SelR _ _ _)
      ·
       rintro ⟨⟩ -
       try dsimp only
       refine zG rfl (fun hA=> ?_) (fun hA=> ?_)
       ·
        refine zg<|za<|e_p (zc rfl)<|zh<|zd<|zI<|zi<|zp<|zi<|zi<|zp<|zi ?_
        exact zu yg () trivial (zk rfl) (by rw [Pg.ck_two hlm hz1 (fun h=>((Pg.smp_n hn).1 h k om).1 hA)]) (ho:=(.n:PickO _ _ _)) (.n:SelR _ _ _)
       ·
        refine zw<|zd<|zg<|za<|e_mv rfl<|e_p (zK (z:=(((k+2):Nat):Int)) rfl rfl (w64 om))<|e_p (zc rfl)<|zh<|zd<|zA<|zpa (X:=Nat) (fun x:Nat=>k+2≤x∧∀w,w<x→¬Pg.smB n l k w) (fun x=>[(10,.int .i64 ((x:Nat):Int)),(8,.pointer (some ⟨u19_1,0,none⟩)),(7,.pointer (some ⟨u18_1,0,none⟩)),(6,.int .i64 ((k:Nat):Int)),(36,.int .i64 ((k:Nat):Int)),(35,.int .i64 ((n:Nat):Int)),(3,.int .i64 ((n:Nat):Int)),(0,.slice p n cap)]) (fun x=>[boxA u20_1 30 [.int .i64 ((l.getD ((k+2)%n) (0,0)).1),.int .i64 ((l.getD ((k+2)%n) (0,0)).2)],boxA u19_1 30 [.int .i64 ((l.getD ((k+1)%n) (0,0)).1),.int .i64 ((l.getD ((k+1)%n) (0,0)).2)],boxA u18_1 30 [.int .i64 ((l.getD k (0,0)).1),.int .i64 ((l.getD k (0,0)).2)]]) (fun x=>[slF (rI2 .i64) p cap l]) (fun x:Nat=>n - x) (k+2) (show k+2≤(k+2)∧∀w,w<(k+2)→¬Pg.smB n l k w from by exact ⟨Nat.le_refl _,fun w hw hb=>by have:=hb.1;omega⟩) ((.of rfl):SubM _ _) (ho:=((.of [0,0,0] rfl):PickO _ _ _)) ((.c (j:=0) rfl .n):SelR _ _ _) ?_
        rintro j hJ
        replace hJ:k+2≤j∧∀w,w<j→¬Pg.smB n l k w:=hJ
        try dsimp only
        obtain ⟨hj2,hB2⟩:=hJ
        refine zg<|zg<|za<|e_mv rfl<|e_mv rfl<|e_p (zba rfl rfl)<|zh<|zd<|zG rfl (fun h18=> ?_) (fun h18=> ?_)
        ·
         have hm3:(j+1)%n<n:=Nat.mod_lt _ om
         obtain ⟨hg3,hg4⟩:Pg.inR (l.getD j (0,0))∧Pg.inR (l.getD ((j+1)%n) (0,0)):=⟨Pg.Ok.gt hrng om,Pg.Ok.gt hrng (by rw [hn];exact Nat.mod_lt _ om)⟩
         refine zw<|zd<|zg<|zA<|zHa (X:=Unit) (fun x=>True) (fun x=>[(95,.bool (decide ((((((j+1)%n):Nat):Int)≠((k:Nat):Int))∧(Pg.mt (((l.getD k (0,0)).1),((l.getD k (0,0)).2)) (((l.getD ((k+1)%n) (0,0)).1),((l.getD ((k+1)%n) (0,0)).2)) (((l.getD j (0,0)).1),((l.getD j (0,0)).2)) (((l.getD ((j+1)%n) (0,0)).1),((l.getD ((j+1)%n) (0,0)).2)))))),(10,.int .i64 ((j:Nat):Int)),(8,.pointer (some ⟨u19_1,0,none⟩)),(7,.pointer (some ⟨u18_1,0,none⟩)),(6,.int .i64 ((k:Nat):Int)),(36,.int .i64 ((k:Nat):Int)),(35,.int .i64 ((n:Nat):Int)),(3,.int .i64 ((n:Nat):Int)),(0,.slice p n cap)]) (fun x=>[boxA u20_1 30 [.int .i64 ((l.getD ((k+2)%n) (0,0)).1),.int .i64 ((l.getD ((k+2)%n) (0,0)).2)],boxA u19_1 30 [.int .i64 ((l.getD ((k+1)%n) (0,0)).1),.int .i64 ((l.getD ((k+1)%n) (0,0)).2)],boxA u18_1 30 [.int .i64 ((l.getD k (0,0)).1),.int .i64 ((l.getD k (0,0)).2)]]) (fun x=>[slF (rI2 .i64) p cap l]) ?_ ?_
         ·
          refine zY (OW:=[]) (O:=[boxA u20_1 30 [.int .i64 ((l.getD ((k+2)%n) (0,0)).1),.int .i64 ((l.getD ((k+2)%n) (0,0)).2)],boxA u19_1 30 [.int .i64 ((l.getD ((k+1)%n) (0,0)).1),.int .i64 ((l.getD ((k+1)%n) (0,0)).2)],boxA u18_1 30 [.int .i64 ((l.getD k (0,0)).1),.int .i64 ((l.getD k (0,0)).2)]]) 100000 mixed (.then (.block (.then (.then (.block (.block (.then (.then (.block (.then .ret)))))))))) kr<|e_dm 0 rfl rfl rfl<|e_pv 1 rfl rfl (zK (z:=(((j+1):Nat):Int)) rfl rfl (w64 om))<|e_dm 2 rfl rfl rfl<|e_pv 3 rfl rfl (zxa (z:=((((j+1)%n):Nat):Int)) rfl rfl om (remN om om))<|e_dm 4 rfl rfl rfl<|e_pv 5 rfl rfl (zdb rfl rfl)<|zPb 6 rfl rfl kr kr rfl rfl (zW rfl) (fun h19=> ?_) (fun h19=> ?_)
          ·
           refine e_u 7 rfl rfl (zb 2 ty30 rfl rfl (.t2 .nil))<|e_u 8 rfl rfl (zb 1 ty30 rfl rfl (.t2 .nil))<|e_dm 9 rfl rfl rfl<|e_dm 10 rfl rfl rfl<|zca (x0:=(l.getD j (0,0))) 11 rfl rfl kr kr 0 j rfl yb sz30 rfl rfl rfl cbs rfl rfl (gD (d:=(0,0)) om) (fun b20 o21 hok22=> ?_)
           obtain ⟨hok22x,hok22y⟩:=hok22
           replace hok22x:=zD.1 hok22x
           replace hok22y:=zD.1 hok22y
           refine e_u 12 rfl rfl (zJ (j:=0) 0 ty30 rfl rfl rfl (.t2 .nil))<|e_dm 13 rfl rfl rfl<|e_dm 14 rfl rfl rfl<|e_pv 15 rfl rfl (zK (z:=(((j+1):Nat):Int)) rfl rfl (w64 om))<|e_dm 16 rfl rfl rfl<|e_pv 17 rfl rfl (zxa (z:=((((j+1)%n):Nat):Int)) rfl rfl om (remN om om))<|zca (x0:=(l.getD ((j+1)%n) (0,0))) 18 rfl rfl kr kr 1 ((j+1)%n) rfl yb sz30 rfl rfl rfl cbs rfl rfl (gD (d:=(0,0)) om) (fun b23 o24 hok25=> ?_)
           obtain ⟨hok25x,hok25y⟩:=hok25
           replace hok25x:=zD.1 hok25x
           replace hok25y:=zD.1 hok25y
           refine e_u 19 rfl rfl (zJ (j:=0) 0 ty30 rfl rfl rfl (.t2 .nil))<|e_one 20 (zGa rfl rfl rfl rfl (.c rfl (.c rfl (.c rfl (.c rfl .n)))) ce51 (znf (ex:=(l.getD k (0,0)).1) (ey:=(l.getD k (0,0)).2) (fx:=((l.getD ((k+1)%n) (0,0)).1)) (fy:=((l.getD ((k+1)%n) (0,0)).2)) (gx:=(l.getD j (0,0)).1) (gy:=(l.getD j (0,0)).2) (hx:=(l.getD ((j+1)%n) (0,0)).1) (hy:=(l.getD ((j+1)%n) (0,0)).2) (hre:=cbo) (hrf:=cbo) (hrg:=cbo) (hrh:=cbo)) (.n) ?_)
           refine e_pv 21 rfl rfl (zn rfl rfl)<|zU kr ?_
           exact zga () (show True from by first|trivial|omega|simp_all) ((.e rfl (congrArg Value.bool cbu) (.of rfl)):SubM _ _) (ho:=((.of [0,0,0] rfl):PickO _ _ _)) ((.c (j:=2) rfl .n):SelR _ _ _)
          ·
           refine e_skip 7 rfl rfl<|e_skip 8 rfl rfl<|e_skip 9 rfl rfl<|e_skip 10 rfl rfl<|e_skip 11 rfl rfl<|e_skip 12 rfl rfl<|e_skip 13 rfl rfl<|e_skip 14 rfl rfl<|e_skip 15 rfl rfl<|e_skip 16 rfl rfl<|e_skip 17 rfl rfl<|e_skip 18 rfl rfl<|e_skip 19 rfl rfl<|e_skip 20 rfl rfl<|e_pv 21 rfl rfl (zn rfl rfl)<|zU kr ?_
           exact zga () (show True from by first|trivial|omega|simp_all) ((.e rfl (congrArg Value.bool cbu) (.of rfl)):SubM _ _) (ho:=((.of [0,0,0] rfl):PickO _ _ _)) ((.c (j:=0) rfl .n):SelR _ _ _)
         ·
          rintro ⟨⟩ -
          try dsimp only
          refine zG rfl (fun hB=> ?_) (fun hB=> ?_)
          ·
           refine zg<|za<|e_p (zc rfl)<|zh<|zd<|zI<|zp<|zi<|zi<|zp<|zp<|zi<|zi<|zp<|zi ?_
           exact zu yg () trivial (zk rfl) (by rw [Pg.ck_two hlm hz1 (fun h=>((Pg.smp_n hn).1 h k om).2 j om ⟨by omega,by omega,hB.2⟩)]) (ho:=(.n:PickO _ _ _)) (.n:SelR _ _ _)
          ·
           refine zw<|zO<|zd<|za<|e_mv rfl<|e_p (zK (z:=(((j+1):Nat):Int)) rfl rfl (w64 om))<|e_p (zc rfl)<|zh<|zha (j+1) (show k+2≤(j+1)∧∀w,w<(j+1)→¬Pg.smB n l k w from by exact ⟨by omega,Ms.all_lt_succ hB2 (fun hb=>hB ⟨by have:=hb.2.1;omega,hb.2.2⟩)⟩) (by show n - (j+1)<n - j;omega) ((.of rfl):SubM _ _) (ho:=((.of [0,0,0] rfl):PickO _ _ _)) ((.c (j:=0) rfl .n):SelR _ _ _)
        ·
         refine zna<|zj<|zj<|zy<|zO<|zd<|za<|e_p (zK (z:=(((k+1):Nat):Int)) rfl rfl (w64 om))<|e_mv rfl<|zh<|zha (k+1) (show (k+1)≤n∧∀w,w<(k+1)→Pg.smI n l w from by exact ⟨by omega,Ms.all_lt_succ hall ⟨hA,fun w hw=>hB2 w om⟩⟩) (by show n - (k+1)<n - k;omega) ((.of rfl):SubM _ _) (ho:=(.n:PickO _ _ _)) ((.c (j:=0) rfl .n):SelR _ _ _)
     refine zoa (X:=Nat×Nat×Nat) (k':=1) (L':=(lb 24 8388607)) (fun (u18_1,u19_1,u20_1)=>([(9,.pointer (some ⟨u20_1,0,none⟩)),(8,.pointer (some ⟨u19_1,0,none⟩)),(7,.pointer (some ⟨u18_1,0,none⟩)),(56,.agg #[.int .i64 qd1,.int .i64 qd2]),(6,.int .i64 ((k:Nat):Int)),(36,.int .i64 ((k:Nat):Int)),(35,.int .i64 ((n:Nat):Int)),(3,.int .i64 ((n:Nat):Int)),(0,.slice p n cap)],[boxA u19_1 30 [.int .i64 qd3,.int .i64 qd4],boxA u18_1 30 [.int .i64 ((l.getD k (0,0)).1),.int .i64 ((l.getD k (0,0)).2)],boxA u20_1 30 [.int .i64 0,.int .i64 0]],[],[slF (rI2 .i64) p cap l])) ?_ (fun hD1=> ?_)
     ·
      rintro ⟨u18_1,u19_1,u20_1⟩
      dsimp only
      refine zSa 23 kr ?_
      ·
       refine zpb (zaa (i:=2) rfl)<|zq kr rfl rfl rfl rfl rfl sz30 rfl (.t2 .nil) ?_
       exact zP (hD0 (u18_1,u19_1,u20_1)) kr ((.of rfl):SubM _ _) .rfl .rfl ((.c (j:=0) rfl .n):SelR _ _ _)
     refine zoa (X:=Nat×Nat×Nat) (k':=2) (L':=(lb 24 4194303)) (fun (u18_1,u19_1,u20_1)=>([(9,.pointer (some ⟨u20_1,0,none⟩)),(8,.pointer (some ⟨u19_1,0,none⟩)),(7,.pointer (some ⟨u18_1,0,none⟩)),(56,.agg #[.int .i64 qd1,.int .i64 qd2]),(49,.agg #[.int .i64 qd3,.int .i64 qd4]),(6,.int .i64 ((k:Nat):Int)),(36,.int .i64 ((k:Nat):Int)),(35,.int .i64 ((n:Nat):Int)),(3,.int .i64 ((n:Nat):Int)),(0,.slice p n cap)],[boxA u18_1 30 [.int .i64 ((l.getD k (0,0)).1),.int .i64 ((l.getD k (0,0)).2)],boxA u20_1 30 [.int .i64 0,.int .i64 0],boxA u19_1 30 [.int .i64 0,.int .i64 0]],[],[slF (rI2 .i64) p cap l])) ?_ (fun hD2=> ?_)
     ·
      rintro ⟨u18_1,u19_1,u20_1⟩
      dsimp only
      refine zSa 22 kr ?_
      ·
       refine zpb (zaa (i:=2) rfl)<|zq kr rfl rfl rfl rfl rfl sz30 rfl (.t2 .nil) ?_
       exact zP (hD1 (u18_1,u19_1,u20_1)) kr ((.of rfl):SubM _ _) .rfl .rfl ((.c (j:=0) rfl .n):SelR _ _ _)
     refine zoa (X:=Nat×Nat×Nat) (k':=3) (L':=(lb 24 2097151)) (fun (u18_1,u19_1,u20_1)=>([(9,.pointer (some ⟨u20_1,0,none⟩)),(8,.pointer (some ⟨u19_1,0,none⟩)),(7,.pointer (some ⟨u18_1,0,none⟩)),(56,.agg #[.int .i64 qd1,.int .i64 qd2]),(49,.agg #[.int .i64 qd3,.int .i64 qd4]),(42,.agg #[.int .i64 ((l.getD k (0,0)).1),.int .i64 ((l.getD k (0,0)).2)]),(6,.int .i64 ((k:Nat):Int)),(36,.int .i64 ((k:Nat):Int)),(35,.int .i64 ((n:Nat):Int)),(3,.int .i64 ((n:Nat):Int)),(0,.slice p n cap)],[boxA u20_1 30 [.int .i64 0,.int .i64 0],boxA u19_1 30 [.int .i64 0,.int .i64 0],boxA u18_1 30 [.int .i64 0,.int .i64 0]],[],[slF (rI2 .i64) p cap l])) ?_ (fun hD3=> ?_)
     ·
      rintro ⟨u18_1,u19_1,u20_1⟩
      dsimp only
      refine zSa 21 kr ?_
      ·
       refine zpb (zaa (i:=2) rfl)<|zq kr rfl rfl rfl rfl rfl sz30 rfl (.t2 .nil) ?_
       exact zP (hD2 (u18_1,u19_1,u20_1)) kr ((.of rfl):SubM _ _) .rfl .rfl ((.c (j:=0) rfl .n):SelR _ _ _)
     refine zoa (X:=Nat×Nat) (k':=4) (L':=(lb 24 1048575)) (fun (u18_1,u19_1)=>([(8,.pointer (some ⟨u19_1,0,none⟩)),(7,.pointer (some ⟨u18_1,0,none⟩)),(56,.agg #[.int .i64 qd1,.int .i64 qd2]),(49,.agg #[.int .i64 qd3,.int .i64 qd4]),(42,.agg #[.int .i64 ((l.getD k (0,0)).1),.int .i64 ((l.getD k (0,0)).2)]),(6,.int .i64 ((k:Nat):Int)),(36,.int .i64 ((k:Nat):Int)),(35,.int .i64 ((n:Nat):Int)),(3,.int .i64 ((n:Nat):Int)),(0,.slice p n cap)],[boxA u19_1 30 [.int .i64 0,.int .i64 0],boxA u18_1 30 [.int .i64 0,.int .i64 0]],[],[slF (rI2 .i64) p cap l])) ?_ (fun hD4=> ?_)
     ·
      rintro ⟨u18_1,u19_1⟩
      dsimp only
      refine zSa 20 kr ?_
      ·
       refine zma rfl rfl rfl rfl (zo zr30 rfl) (fun u20_1 _=> ?_)
       exact zP (hD3 (u18_1,u19_1,u20_1)) kr ((.of rfl):SubM _ _) .rfl .rfl ((.c (j:=0) rfl .n):SelR _ _ _)
     refine zoa (X:=Nat×Nat) (k':=4) (L':=(lb 24 1572863)) (fun (u18_1,u20_1)=>([(9,.pointer (some ⟨u20_1,0,none⟩)),(7,.pointer (some ⟨u18_1,0,none⟩)),(56,.agg #[.int .i64 qd1,.int .i64 qd2]),(49,.agg #[.int .i64 qd3,.int .i64 qd4]),(42,.agg #[.int .i64 ((l.getD k (0,0)).1),.int .i64 ((l.getD k (0,0)).2)]),(6,.int .i64 ((k:Nat):Int)),(36,.int .i64 ((k:Nat):Int)),(35,.int .i64 ((n:Nat):Int)),(3,.int .i64 ((n:Nat):Int)),(0,.slice p n cap)],[boxA u20_1 30 [.int .i64 0,.int .i64 0],boxA u18_1 30 [.int .i64 0,.int .i64 0]],[],[slF (rI2 .i64) p cap l])) ?_ (fun hD5=> ?_)
     ·
      rintro ⟨u18_1,u20_1⟩
      dsimp only
      refine zSa 19 kr ?_
      ·
       refine zma rfl rfl rfl rfl (zo zr30 rfl) (fun u19_1 _=> ?_)
       exact zP (hD3 (u18_1,u19_1,u20_1)) kr ((.of rfl):SubM _ _) (zra 1 rfl (zra 0 rfl (zra 0 rfl .nil))) .rfl ((.c (j:=0) rfl .n):SelR _ _ _)
     refine zoa (X:=Nat×Nat) (k':=4) (L':=(lb 24 1835007)) (fun (u19_1,u20_1)=>([(9,.pointer (some ⟨u20_1,0,none⟩)),(8,.pointer (some ⟨u19_1,0,none⟩)),(56,.agg #[.int .i64 qd1,.int .i64 qd2]),(49,.agg #[.int .i64 qd3,.int .i64 qd4]),(42,.agg #[.int .i64 ((l.getD k (0,0)).1),.int .i64 ((l.getD k (0,0)).2)]),(6,.int .i64 ((k:Nat):Int)),(36,.int .i64 ((k:Nat):Int)),(35,.int .i64 ((n:Nat):Int)),(3,.int .i64 ((n:Nat):Int)),(0,.slice p n cap)],[boxA u20_1 30 [.int .i64 0,.int .i64 0],boxA u19_1 30 [.int .i64 0,.int .i64 0]],[],[slF (rI2 .i64) p cap l])) ?_ (fun hD6=> ?_)
     ·
      rintro ⟨u19_1,u20_1⟩
      dsimp only
      refine zSa 18 kr ?_
      ·
       refine zma rfl rfl rfl rfl (zo zr30 rfl) (fun u18_1 _=> ?_)
       exact zP (hD3 (u18_1,u19_1,u20_1)) kr ((.of rfl):SubM _ _) (zra 1 rfl (zra 1 rfl (zra 0 rfl .nil))) .rfl ((.c (j:=0) rfl .n):SelR _ _ _)
     refine zoa (X:=Nat) (k':=5) (L':=(lb 24 524287)) (fun u18_1=>([(7,.pointer (some ⟨u18_1,0,none⟩)),(56,.agg #[.int .i64 qd1,.int .i64 qd2]),(49,.agg #[.int .i64 qd3,.int .i64 qd4]),(42,.agg #[.int .i64 ((l.getD k (0,0)).1),.int .i64 ((l.getD k (0,0)).2)]),(6,.int .i64 ((k:Nat):Int)),(36,.int .i64 ((k:Nat):Int)),(35,.int .i64 ((n:Nat):Int)),(3,.int .i64 ((n:Nat):Int)),(0,.slice p n cap)],[boxA u18_1 30 [.int .i64 0,.int .i64 0]],[],[slF (rI2 .i64) p cap l])) ?_ (fun hD7=> ?_)
     ·
      rintro u18_1
      dsimp only
      refine zGb 19 20 kr ?_ ?_
      ·
       refine zma rfl rfl rfl rfl (zo zr30 rfl) (fun u19_1 _=> ?_)
       exact zP (hD4 (u18_1,u19_1)) kr ((.of rfl):SubM _ _) .rfl .rfl ((.c (j:=0) rfl .n):SelR _ _ _)
      ·
       refine zma rfl rfl rfl rfl (zo zr30 rfl) (fun u20_1 _=> ?_)
       exact zP (hD5 (u18_1,u20_1)) kr ((.of rfl):SubM _ _) .rfl .rfl ((.c (j:=0) rfl .n):SelR _ _ _)
     refine zoa (X:=Nat) (k':=5) (L':=(lb 24 786431)) (fun u19_1=>([(8,.pointer (some ⟨u19_1,0,none⟩)),(56,.agg #[.int .i64 qd1,.int .i64 qd2]),(49,.agg #[.int .i64 qd3,.int .i64 qd4]),(42,.agg #[.int .i64 ((l.getD k (0,0)).1),.int .i64 ((l.getD k (0,0)).2)]),(6,.int .i64 ((k:Nat):Int)),(36,.int .i64 ((k:Nat):Int)),(35,.int .i64 ((n:Nat):Int)),(3,.int .i64 ((n:Nat):Int)),(0,.slice p n cap)],[boxA u19_1 30 [.int .i64 0,.int .i64 0]],[],[slF (rI2 .i64) p cap l])) ?_ (fun hD8=> ?_)
     ·
      rintro u19_1
      dsimp only
      refine zGb 18 20 kr ?_ ?_
      ·
       refine zma rfl rfl rfl rfl (zo zr30 rfl) (fun u18_1 _=> ?_)
       exact zP (hD4 (u18_1,u19_1)) kr ((.of rfl):SubM _ _) (zra 1 rfl (zra 0 rfl .nil)) .rfl ((.c (j:=0) rfl .n):SelR _ _ _)
      ·
       refine zma rfl rfl rfl rfl (zo zr30 rfl) (fun u20_1 _=> ?_)
       exact zP (hD6 (u19_1,u20_1)) kr ((.of rfl):SubM _ _) .rfl .rfl ((.c (j:=0) rfl .n):SelR _ _ _)
     refine zoa (X:=Nat) (k':=5) (L':=(lb 24 1310719)) (fun u20_1=>([(9,.pointer (some ⟨u20_1,0,none⟩)),(56,.agg #[.int .i64 qd1,.int .i64 qd2]),(49,.agg #[.int .i64 qd3,.int .i64 qd4]),(42,.agg #[.int .i64 ((l.getD k (0,0)).1),.int .i64 ((l.getD k (0,0)).2)]),(6,.int .i64 ((k:Nat):Int)),(36,.int .i64 ((k:Nat):Int)),(35,.int .i64 ((n:Nat):Int)),(3,.int .i64 ((n:Nat):Int)),(0,.slice p n cap)],[boxA u20_1 30 [.int .i64 0,.int .i64 0]],[],[slF (rI2 .i64) p cap l])) ?_ (fun hD9=> ?_)
     ·
      rintro u20_1
      dsimp only
      refine zGb 18 19 kr ?_ ?_
      ·
       refine zma rfl rfl rfl rfl (zo zr30 rfl) (fun u18_1 _=> ?_)
       exact zP (hD5 (u18_1,u20_1)) kr ((.of rfl):SubM _ _) (zra 1 rfl (zra 0 rfl .nil)) .rfl ((.c (j:=0) rfl .n):SelR _ _ _)
      ·
       refine zma rfl rfl rfl rfl (zo zr30 rfl) (fun u19_1 _=> ?_)
       exact zP (hD6 (u19_1,u20_1)) kr ((.of rfl):SubM _ _) (zra 1 rfl (zra 0 rfl .nil)) .rfl ((.c (j:=0) rfl .n):SelR _ _ _)
     refine zKc 18 19 20 kr ?_ ?_ ?_
     ·
      refine zma rfl rfl rfl rfl (zo zr30 rfl) (fun u18_1 _=> ?_)
      exact zP (hD7 u18_1) kr ((.of rfl):SubM _ _) .rfl .rfl ((.c (j:=0) rfl .n):SelR _ _ _)
     ·
      refine zma rfl rfl rfl rfl (zo zr30 rfl) (fun u19_1 _=> ?_)
      exact zP (hD8 u19_1) kr ((.of rfl):SubM _ _) .rfl .rfl ((.c (j:=0) rfl .n):SelR _ _ _)
     ·
      refine zma rfl rfl rfl rfl (zo zr30 rfl) (fun u20_1 _=> ?_)
      exact zP (hD9 u20_1) kr ((.of rfl):SubM _ _) .rfl .rfl ((.c (j:=0) rfl .n):SelR _ _ _)
    ·
     refine zna<|zj<|zj<|zy<|zd<|zg<|za<|e_p (zc rfl)<|zh<|zd<|zI ?_
     exact zu yg () trivial (zk rfl) (by rw [Pg.ck_ok hlm hz1 ((Pg.smp_n hn).2 (fun w hw=>hall w om))]) (ho:=(.n:PickO _ _ _)) (.n:SelR _ _ _)
theorem zRc {p:Option Addr} {n:Nat} {cap:Nat} {l:List Pg.P2} (hn:l.length=n) (h64:n≤64) (hrng:∀x∈l,Pg.inR x):Con ye 47 [.slice p n cap] [] [slF (rI2 .i64) p cap l] (Y:=Unit) (fun y=>True) (fun y=> .int .i64 (Pg.db l)) (fun y=>[]) (fun y=>[]):=by
 refine zl Tryz.func47 rfl rfl rfl (fun c=> ?_)
 show RunC _ _ _ _ _ [(0,.slice p n cap)] [] [slF (rI2 .i64) p cap l]
 refine zda 0 rfl (fun hL0=> ?_)
 refine zg<|za<|e_p (zc rfl)<|zh<|zd<|zg<|za<|e_p (zc rfl)<|zh<|zd<|zg<|zg<|za<|e_mv rfl<|e_p (zN yb rfl)<|e_mv rfl<|zh<|zd<|zA<|zpa (X:=Nat) (fun x:Nat=>x≤n) (fun x=>[(3,.int .i64 (Pg.dbN n l x)),(9,.int .i64 ((x:Nat):Int)),(8,.int .i64 ((n:Nat):Int)),(7,.slice p n cap),(2,.int .i64 0),(0,.slice p n cap)]) (fun x=>[]) (fun x=>[slF (rI2 .i64) p cap l]) (fun x:Nat=>n - x) 0 (show 0≤n from by exact Nat.zero_le _) ((.e rfl (by first|rfl|(congr 1;omega)|simp_all) (.e rfl (by first|rfl|(congr 1;omega)|simp_all) (.of rfl))):SubM _ _) (ho:=(.n:PickO _ _ _)) ((.c (j:=0) rfl .n):SelR _ _ _) ?_
 rintro k hI
 replace hI:k≤n:=hI
 try dsimp only
 refine zg<|za<|e_p (zba rfl rfl)<|zh<|zd<|zg<|zG rfl (fun h1=> ?_) (fun h1=> ?_)
 ·
  have hm1:(k+1)%n<n:=Nat.mod_lt _ om
  have hg0:Pg.inR (l.getD k (0,0)):=Pg.Ok.gt hrng om
  have hg1:Pg.inR (l.getD ((k+1)%n) (0,0)):=Pg.Ok.gt hrng om
  obtain ⟨hp1,hp2⟩:=Pg.ab hg0 hg1
  have hb1:=Pg.dbN_b hn hrng (i:=k) om
  refine zw<|zd<|zg<|zA<|zg<|za<|e_mv rfl<|zZ (x0:=(l.getD k (0,0))) 0 k rfl yb sz30 rfl rfl rfl cbs rfl rfl (gD (d:=(0,0)) om) (fun b2 o3 hok4=> ?_)
  obtain ⟨hok4x,hok4y⟩:=hok4
  replace hok4x:=zD.1 hok4x
  replace hok4y:=zD.1 hok4y
  refine e_ru (zJ (j:=0) 0 ty30 rfl rfl rfl (.t2 .nil))<|zM rfl rfl (zo zr30 rfl) (fun b5=> ?_)
  refine e_p (zc rfl)<|zm 0 rfl rfl rfl rfl rfl sz30 rfl (.t2 .nil) .z<|zh<|zd<|zg<|za<|e_mv rfl<|e_mv rfl<|e_p (zK (z:=(((k+1):Nat):Int)) rfl rfl (w64 om))<|e_mv rfl<|e_p (zN yb rfl)<|e_p (zxa (z:=((((k+1)%n):Nat):Int)) rfl rfl om (remN om om))<|zZ (x0:=(l.getD ((k+1)%n) (0,0))) 1 ((k+1)%n) rfl yb sz30 rfl rfl rfl cbs rfl rfl (gD (d:=(0,0)) om) (fun b6 o7 hok8=> ?_)
  obtain ⟨hok8x,hok8y⟩:=hok8
  replace hok8x:=zD.1 hok8x
  replace hok8y:=zD.1 hok8y
  refine e_ru (zJ (j:=0) 0 ty30 rfl rfl rfl (.t2 .nil))<|zM rfl rfl (zo zr30 rfl) (fun b9=> ?_)
  refine zm 0 rfl rfl rfl rfl rfl sz30 rfl (.t2 .nil) .z<|zh<|zd<|za<|e_mv rfl<|e_p (zf ya rfl sz3 rfl rfl)<|e_ru (ze 1 ty3 rfl rfl rfl)<|e_p (zf ya rfl sz3 rfl rfl)<|e_ru (ze 0 ty3 rfl rfl rfl)<|e_p (zFa (z:=((l.getD k (0,0)).1*(l.getD ((k+1)%n) (0,0)).2)) rfl rfl (w64 om))<|e_p (zf ya rfl sz3 rfl rfl)<|e_ru (ze 0 ty3 rfl rfl rfl)<|e_p (zf ya rfl sz3 rfl rfl)<|e_ru (ze 1 ty3 rfl rfl rfl)<|e_p (zFa (z:=((l.getD ((k+1)%n) (0,0)).1*(l.getD k (0,0)).2)) rfl rfl (w64 om))<|e_p (zka (z:=(((l.getD k (0,0)).1*(l.getD ((k+1)%n) (0,0)).2) - ((l.getD ((k+1)%n) (0,0)).1*(l.getD k (0,0)).2))) rfl rfl (w64 om))<|e_p (zK (z:=((Pg.dbN n l k)+(((l.getD k (0,0)).1*(l.getD ((k+1)%n) (0,0)).2) - ((l.getD ((k+1)%n) (0,0)).1*(l.getD k (0,0)).2)))) rfl rfl (w64 om))<|e_p (zc rfl)<|zh<|zO<|zd<|za<|e_p (zK (z:=(((k+1):Nat):Int)) rfl rfl (w64 om))<|e_mv rfl<|zh<|zha (k+1) (show (k+1)≤n from by show k+1≤n;omega) (by show n - (k+1)<n - k;omega) ((.e rfl (by first|rfl|(congr 1;omega)|simp_all) (.of rfl)):SubM _ _) (ho:=(.n:PickO _ _ _)) ((.c (j:=2) rfl .n):SelR _ _ _)
 ·
  refine zna<|zj<|zj<|zy<|zd<|zg<|za<|e_mv rfl<|e_p (zc rfl)<|zh<|zd<|zI ?_
  exact zu Tryz.results47 () trivial (zk rfl) (by rw [show k=n by omega,Pg.db,hn]) (ho:=(.n:PickO _ _ _)) (.n:SelR _ _ _)
theorem zNf {p:Option Addr} {n:Nat} {cap:Nat} {l:List Pg.P2} (hn:l.length=n):Con ye 13 [.slice p n cap] [] [slF (rI2 .i64) p cap l] (Y:=Unit) (fun y=>True) (fun y=> .tuple #[.int .i64 (Pg.arV l),.int .i64 (Pg.arC l)]) (fun y=>[]) (fun y=>[]):=by
 refine zl Tryz.func13 rfl rfl rfl (fun c=> ?_)
 show RunC _ _ _ _ _ [(0,.slice p n cap)] [] [slF (rI2 .i64) p cap l]
 refine zda 0 rfl (fun hL0=> ?_)
 refine zg<|za<|e_p (zc rfl)<|e_p (zc rfl)<|zh<|zd<|zg<|zg<|za<|e_mv rfl<|e_p (zN yb rfl)<|e_p (zAa rfl rfl)<|zh<|zd<|zG rfl (fun hlim=> ?_) (fun hlim=> ?_)
 ·
  refine zg<|za<|e_p (zc rfl)<|e_p (zc rfl)<|zh<|zd<|zI<|zi ?_
  obtain ⟨hv1,hv2⟩:=Pg.ar_lim (l:=l) om
  exact zza Tryz.results13 () trivial (zk rfl) (zk rfl) (by rw [hv1,hv2]) (ho:=(.n:PickO _ _ _)) (.n:SelR _ _ _)
 ·
  refine zw<|zd<|zg<|zg<|za<|e_mv rfl<|zL rfl rfl (.c rfl (.c rfl .n)) ce45 (zpf (p:=p) (n:=n) (cap:=cap) (l:=l) (hn:=ass)) (.c (j:=0) rfl .n)<|zh<|zd<|zXa rfl (fun hfar=> ?_) (fun hfar=> ?_)
  ·
   refine zg<|za<|e_p (zc rfl)<|e_p (zc rfl)<|zh<|zd<|zI<|zi ?_
   obtain ⟨hv1,hv2⟩:=Pg.ar_far (l:=l) om hfar
   exact zza Tryz.results13 () trivial (zk rfl) (zk rfl) (by rw [hv1,hv2]) (ho:=(.n:PickO _ _ _)) (.n:SelR _ _ _)
  ·
   have hrng:=Pg.any_far (l:=l) (by rw [hfar];decide)
   refine zw<|zd<|zg<|za<|e_mv rfl<|zL rfl rfl (.c rfl .n) ce47 (zRc (p:=p) (n:=n) (cap:=cap) (l:=l) (hn:=ass) (h64:=cbo) (hrng:=cbo)) (.c (j:=0) rfl .n)<|e_p (zc rfl)<|e_p (zc rfl)<|zh<|zd<|zI ?_
   obtain ⟨hv1,hv2⟩:=Pg.ar_ok (l:=l) om (by rw [hfar];decide)
   exact zza Tryz.results13 () trivial (zk rfl) (zk rfl) (by rw [hv1,hv2]) (ho:=(.n:PickO _ _ _)) (.n:SelR _ _ _)
end Go.Proofs.YtjcpbhlijoigfaaGreat.Sp
namespace Go.Proofs.YtjcpbhlijoigfaaGreat.Sp
open Go
set_option linter.unusedVariables false
set_option maxRecDepth 100000
set_option maxHeartbeats 8000000
theorem zsc {p:Option Addr} {n:Nat} {cap:Nat} {l:List Pg.P2} {hx:Int} {hy:Int} (hn:l.length=n) (hwhx: -9223372036854775808≤hx∧hx≤9223372036854775807) (hwhy: -9223372036854775808≤hy∧hy≤9223372036854775807):Con ye 17 [.slice p n cap,.agg #[.int .i64 hx,.int .i64 hy]] [] [slF (rI2 .i64) p cap l] (Y:=Unit) (fun y=>True) (fun y=> .tuple #[.int .i64 (Pg.isV l (hx,hy)),.int .i64 (Pg.isC l (hx,hy))]) (fun y=>[]) (fun y=>[]):=by
 refine zl Tryz.func17 rfl rfl rfl (fun c=> ?_)
 show RunC _ _ _ _ _ [(0,.slice p n cap),(1,.agg #[.int .i64 hx,.int .i64 hy])] [] [slF (rI2 .i64) p cap l]
 refine zda 0 rfl (fun hL0=> ?_)
 refine zg<|za<|zM rfl rfl (zS rfl rfl) (fun b1=> ?_)
 refine e_p (zc rfl)<|e_p (zc rfl)<|zh<|zd<|zg<|zg<|za<|e_mv rfl<|zL rfl rfl (.c rfl .n) ce15 (zic (p:=p) (n:=n) (cap:=cap) (l:=l) (hn:=ass)) (.c (j:=0) rfl .n)<|e_p (zc rfl)<|zh<|zd<|zg<|za<|e_mv rfl<|e_p (zdb rfl rfl)<|zh<|zd<|zG rfl (fun hbad=> ?_) (fun hbad=> ?_)
 ·
  refine zg<|za<|e_mv rfl<|e_p (zc rfl)<|e_p (zc rfl)<|zh<|zd<|zI<|zi ?_
  obtain ⟨hv1,hv2⟩:=Pg.is_bad (q:=(hx,hy)) hbad
  exact zza yh () trivial (zk rfl) (zk rfl) (by rw [hv1,hv2]) (ho:=(.n:PickO _ _ _)) (.n:SelR _ _ _)
 ·
  have hz:=Decidable.not_not.1 hbad
  have hok:=Pg.ok hz
  have hrng:=hok.rng
  have h64:=hok.n64
  refine zw<|zd<|zg<|zg<|za<|e_ru (zb 0 ty30 rfl rfl (.t2 .nil))<|zL rfl rfl (.c rfl .n) ce46 (zgc (ex:=hx) (ey:=hy) (hwex:=ass) (hwey:=ass)) (.n)<|zh<|zd<|zXa rfl (fun hfar=> ?_) (fun hfar=> ?_)
  ·
   refine zg<|za<|e_p (zc rfl)<|e_p (zc rfl)<|zh<|zd<|zI<|zi ?_
   obtain ⟨hv1,hv2⟩:=Pg.is_far hz hfar
   exact zza yh () trivial (zk rfl) (zk rfl) (by rw [hv1,hv2]) (ho:=(.n:PickO _ _ _)) (.n:SelR _ _ _)
  ·
   have hrh:=Pg.far_no' hfar
   refine zw<|zd<|zg<|za<|e_p (zc rfl)<|zh<|zd<|zg<|zg<|za<|e_mv rfl<|e_p (zN yb rfl)<|e_mv rfl<|zh<|zd<|zA<|zpa (X:=Nat) (fun x:Nat=>x≤n∧∀w,w<x→¬Pg.onS (l.getD w (0,0)) (l.getD ((w+1)%n) (0,0)) (hx,hy)) (fun x=>[(7,.int .i64 (Pg.inN n l (hx,hy) x)),(20,.int .i64 ((x:Nat):Int)),(19,.int .i64 ((n:Nat):Int)),(18,.slice p n cap),(3,.pointer (some ⟨b1,0,none⟩)),(0,.slice p n cap)]) (fun x=>[boxA b1 30 [.int .i64 hx,.int .i64 hy]]) (fun x=>[slF (rI2 .i64) p cap l]) (fun x:Nat=>n - x) 0 (show 0≤n∧∀w,w<0→¬Pg.onS (l.getD w (0,0)) (l.getD ((w+1)%n) (0,0)) (hx,hy) from by exact ⟨Nat.zero_le _,fun w h=>by omega⟩) ((.e rfl (by first|rfl|(congr 1;omega)|simp_all) (.e rfl (by first|rfl|(congr 1;omega)|simp_all) (.of rfl))):SubM _ _) (ho:=((.c (i:=0) rfl .n):PickO _ _ _)) ((.c (j:=0) rfl .n):SelR _ _ _) ?_
   rintro k hI
   replace hI:k≤n∧∀w,w<k→¬Pg.onS (l.getD w (0,0)) (l.getD ((w+1)%n) (0,0)) (hx,hy):=hI
   try dsimp only
   obtain ⟨hk,hall⟩:=hI
   refine zg<|za<|e_p (zba rfl rfl)<|zh<|zd<|zg<|zG rfl (fun h2=> ?_) (fun h2=> ?_)
   ·
    have hm1:(k+1)%n<n:=Nat.mod_lt _ om
    have hg0:Pg.inR (l.getD k (0,0)):=Pg.Ok.gt hrng om
    have hg1:Pg.inR (l.getD ((k+1)%n) (0,0)):=Pg.Ok.gt hrng om
    have hi1:=Pg.inN_rng n l (hx,hy) k
    refine zw<|zd<|zg<|zA<|zg<|za<|e_mv rfl<|zZ (x0:=(l.getD k (0,0))) 0 k rfl yb sz30 rfl rfl rfl cbs rfl rfl (gD (d:=(0,0)) om) (fun b3 o4 hok5=> ?_)
    obtain ⟨hok5x,hok5y⟩:=hok5
    replace hok5x:=zD.1 hok5x
    replace hok5y:=zD.1 hok5y
    refine e_ru (zJ (j:=0) 0 ty30 rfl rfl rfl (.t2 .nil))<|zM rfl rfl (zo zr30 rfl) (fun b6=> ?_)
    refine e_p (zc rfl)<|zm 0 rfl rfl rfl rfl rfl sz30 rfl (.t2 .nil) .z<|zh<|zd<|zg<|za<|e_mv rfl<|e_mv rfl<|e_p (zK (z:=(((k+1):Nat):Int)) rfl rfl (w64 om))<|e_mv rfl<|e_p (zN yb rfl)<|e_p (zxa (z:=((((k+1)%n):Nat):Int)) rfl rfl om (remN om om))<|zZ (x0:=(l.getD ((k+1)%n) (0,0))) 1 ((k+1)%n) rfl yb sz30 rfl rfl rfl cbs rfl rfl (gD (d:=(0,0)) om) (fun b7 o8 hok9=> ?_)
    obtain ⟨hok9x,hok9y⟩:=hok9
    replace hok9x:=zD.1 hok9x
    replace hok9y:=zD.1 hok9y
    refine e_ru (zJ (j:=0) 0 ty30 rfl rfl rfl (.t2 .nil))<|zM rfl rfl (zo zr30 rfl) (fun b10=> ?_)
    refine zm 0 rfl rfl rfl rfl rfl sz30 rfl (.t2 .nil) .z<|zh<|zd<|zg<|zg<|za<|e_ru (zb 1 ty30 rfl rfl (.t2 .nil))<|e_ru (zb 0 ty30 rfl rfl (.t2 .nil))<|e_ru (zb 2 ty30 rfl rfl (.t2 .nil))<|zL rfl rfl (.c rfl (.c rfl (.c rfl .n))) ce50 (zWb (ex:=(l.getD k (0,0)).1) (ey:=(l.getD k (0,0)).2) (fx:=(l.getD ((k+1)%n) (0,0)).1) (fy:=(l.getD ((k+1)%n) (0,0)).2) (gx:=hx) (gy:=hy) (hre:=cbo) (hrf:=cbo) (hrg:=cbo)) (.n)<|zh<|zd<|zG rfl (fun hon=> ?_) (fun hon=> ?_)
    ·
     refine zg<|za<|e_p (zc rfl)<|e_p (zc rfl)<|zh<|zd<|zI<|zi<|zp<|zi<|zi<|zp<|zi ?_
     obtain ⟨hv1,hv2⟩:=Pg.is_ok (q:=(hx,hy)) hz (by rw [hfar];decide)
     exact zza yh () trivial (zk rfl) (zk rfl) (by rw [hv1,hv2,Pg.ins_on hn (i:=k) om hon]) (ho:=(.n:PickO _ _ _)) (.n:SelR _ _ _)
    ·
     refine zw<|zd<|zg<|zg<|za<|e_p (zf ya rfl sz3 rfl rfl)<|e_ru (ze 1 ty3 rfl rfl rfl)<|e_p (zf ya rfl sz3 rfl rfl)<|e_ru (ze 0 ty3 rfl rfl rfl)<|e_p (zAa rfl rfl)<|zh<|zd<|zG rfl (fun hsw=> ?_) (fun hsw=> ?_)
     ·
      refine za<|e_ru (zb 0 ty30 rfl rfl (.t2 .nil))<|e_ru (zb 1 ty30 rfl rfl (.t2 .nil))<|zm 1 rfl rfl rfl rfl rfl sz30 rfl (.t2 .nil) (.s .z)<|zm 0 rfl rfl rfl rfl rfl sz30 rfl (.t2 .nil) .z<|zh<|zd<|zHa (X:=Unit) (fun x=>True) (fun x=>[(62,.bool (decide ((((l.getD ((k+1)%n) (0,0)).2≤hy)∧(hy<(l.getD k (0,0)).2))∧(0<(Pg.crs (((l.getD ((k+1)%n) (0,0)).1),((l.getD ((k+1)%n) (0,0)).2)) (((l.getD k (0,0)).1),((l.getD k (0,0)).2)) (hx,hy)).sign)))),(7,.int .i64 (Pg.inN n l (hx,hy) k)),(20,.int .i64 ((k:Nat):Int)),(19,.int .i64 ((n:Nat):Int)),(18,.slice p n cap),(3,.pointer (some ⟨b1,0,none⟩)),(0,.slice p n cap)]) (fun x=>[boxA b10 30 [.int .i64 ((l.getD k (0,0)).1),.int .i64 ((l.getD k (0,0)).2)],boxA b6 30 [.int .i64 ((l.getD ((k+1)%n) (0,0)).1),.int .i64 ((l.getD ((k+1)%n) (0,0)).2)],boxA b1 30 [.int .i64 hx,.int .i64 hy]]) (fun x=>[atF b7 o8 [.int .i64 ((l.getD ((k+1)%n) (0,0)).1),.int .i64 ((l.getD ((k+1)%n) (0,0)).2)],atF b3 o4 [.int .i64 ((l.getD k (0,0)).1),.int .i64 ((l.getD k (0,0)).2)],slF (rI2 .i64) p cap l]) ?_ ?_
      ·
       refine za<|e_p (zf ya rfl sz3 rfl rfl)<|e_ru (ze 1 ty3 rfl rfl rfl)<|e_p (zf ya rfl sz3 rfl rfl)<|e_ru (ze 2 ty3 rfl rfl rfl)<|e_p (zKa rfl rfl)<|zV rfl rfl (zW rfl) (fun h11=> ?_) (fun h11=> ?_)
       ·
        refine e_p (zf ya rfl sz3 rfl rfl)<|e_ru (ze 2 ty3 rfl rfl rfl)<|e_p (zf ya rfl sz3 rfl rfl)<|e_ru (ze 0 ty3 rfl rfl rfl)<|e_p (zba rfl rfl)<|e_p (zn rfl rfl)<|zV rfl rfl (zW rfl) (fun h12=> ?_) (fun h12=> ?_)
        ·
         refine e_ru (zb 1 ty30 rfl rfl (.t2 .nil))<|e_ru (zb 0 ty30 rfl rfl (.t2 .nil))<|e_ru (zb 2 ty30 rfl rfl (.t2 .nil))<|zL rfl rfl (.c rfl (.c rfl (.c rfl .n))) ce54 (zWa (ex:=(l.getD ((k+1)%n) (0,0)).1) (ey:=(l.getD ((k+1)%n) (0,0)).2) (fx:=(l.getD k (0,0)).1) (fy:=(l.getD k (0,0)).2) (gx:=hx) (gy:=hy) (hre:=cbo) (hrf:=cbo) (hrg:=cbo)) (.n)<|e_p (zAa rfl rfl)<|e_p (zn rfl rfl)<|zh ?_
         exact zga () (show True from by first|trivial|omega|simp_all) ((.e rfl (congrArg Value.bool cbu) (.of rfl)):SubM _ _) (ho:=((.of [0,0,0] rfl):PickO _ _ _)) ((.of [0,1,2] rfl):SelR _ _ _)
        ·
         refine e_no<|e_no<|e_no<|e_no<|e_no<|e_p (zn rfl rfl)<|zh ?_
         exact zga () (show True from by first|trivial|omega|simp_all) ((.e rfl (congrArg Value.bool cbu) (.of rfl)):SubM _ _) (ho:=((.of [0,0,0] rfl):PickO _ _ _)) ((.of [0,1,2] rfl):SelR _ _ _)
       ·
        refine e_no<|e_no<|e_no<|e_no<|e_no<|e_p (zn rfl rfl)<|e_mv rfl<|e_no<|e_no<|e_no<|e_no<|e_no<|e_p (zn rfl rfl)<|zh ?_
        exact zga () (show True from by first|trivial|omega|simp_all) ((.e rfl (congrArg Value.bool cbu) (.of rfl)):SubM _ _) (ho:=((.of [0,0,0] rfl):PickO _ _ _)) ((.of [0,1,2] rfl):SelR _ _ _)
      ·
       rintro ⟨⟩ -
       try dsimp only
       refine zG rfl (fun hhit=> ?_) (fun hhit=> ?_)
       ·
        refine za<|e_mv rfl<|e_p (zvd (z:=(-(Pg.inN n l (hx,hy) k))) rfl (w64 om))<|e_p (zc rfl)<|zh<|zO<|zd<|za<|e_p (zK (z:=(((k+1):Nat):Int)) rfl rfl (w64 om))<|e_mv rfl<|zh<|zha (k+1) (show (k+1)≤n∧∀w,w<(k+1)→¬Pg.onS (l.getD w (0,0)) (l.getD ((w+1)%n) (0,0)) (hx,hy) from by exact ⟨by omega,Ms.all_lt_succ hall hon⟩) (by show n - (k+1)<n - k;omega) ((.e rfl (by rw [Pg.inN_hit ((Pg.hit_sw hsw).2 ⟨hhit.1.1,hhit.1.2,hhit.2⟩)]) (.of rfl)):SubM _ _) (ho:=((.c (i:=2) rfl .n):PickO _ _ _)) ((.c (j:=2) rfl .n):SelR _ _ _)
       ·
        refine zw<|zO<|zd<|za<|e_p (zK (z:=(((k+1):Nat):Int)) rfl rfl (w64 om))<|e_mv rfl<|zh<|zha (k+1) (show (k+1)≤n∧∀w,w<(k+1)→¬Pg.onS (l.getD w (0,0)) (l.getD ((w+1)%n) (0,0)) (hx,hy) from by exact ⟨by omega,Ms.all_lt_succ hall hon⟩) (by show n - (k+1)<n - k;omega) ((.e rfl (by rw [Pg.inN_not (fun h=>hhit (by have h2:=(Pg.hit_sw hsw).1 h;exact ⟨⟨h2.1,h2.2.1⟩,h2.2.2⟩))]) (.of rfl)):SubM _ _) (ho:=((.c (i:=2) rfl .n):PickO _ _ _)) ((.c (j:=2) rfl .n):SelR _ _ _)
     ·
      refine zw<|zd<|zHa (X:=Unit) (fun x=>True) (fun x=>[(62,.bool (decide ((((l.getD k (0,0)).2≤hy)∧(hy<(l.getD ((k+1)%n) (0,0)).2))∧(0<(Pg.crs (((l.getD k (0,0)).1),((l.getD k (0,0)).2)) (((l.getD ((k+1)%n) (0,0)).1),((l.getD ((k+1)%n) (0,0)).2)) (hx,hy)).sign)))),(7,.int .i64 (Pg.inN n l (hx,hy) k)),(20,.int .i64 ((k:Nat):Int)),(19,.int .i64 ((n:Nat):Int)),(18,.slice p n cap),(3,.pointer (some ⟨b1,0,none⟩)),(0,.slice p n cap)]) (fun x=>[boxA b10 30 [.int .i64 ((l.getD ((k+1)%n) (0,0)).1),.int .i64 ((l.getD ((k+1)%n) (0,0)).2)],boxA b6 30 [.int .i64 ((l.getD k (0,0)).1),.int .i64 ((l.getD k (0,0)).2)],boxA b1 30 [.int .i64 hx,.int .i64 hy]]) (fun x=>[atF b7 o8 [.int .i64 ((l.getD ((k+1)%n) (0,0)).1),.int .i64 ((l.getD ((k+1)%n) (0,0)).2)],atF b3 o4 [.int .i64 ((l.getD k (0,0)).1),.int .i64 ((l.getD k (0,0)).2)],slF (rI2 .i64) p cap l]) ?_ ?_
      ·
       refine za<|e_p (zf ya rfl sz3 rfl rfl)<|e_ru (ze 1 ty3 rfl rfl rfl)<|e_p (zf ya rfl sz3 rfl rfl)<|e_ru (ze 2 ty3 rfl rfl rfl)<|e_p (zKa rfl rfl)<|zV rfl rfl (zW rfl) (fun h13=> ?_) (fun h13=> ?_)
       ·
        refine e_p (zf ya rfl sz3 rfl rfl)<|e_ru (ze 2 ty3 rfl rfl rfl)<|e_p (zf ya rfl sz3 rfl rfl)<|e_ru (ze 0 ty3 rfl rfl rfl)<|e_p (zba rfl rfl)<|e_p (zn rfl rfl)<|zV rfl rfl (zW rfl) (fun h14=> ?_) (fun h14=> ?_)
        ·
         refine e_ru (zb 1 ty30 rfl rfl (.t2 .nil))<|e_ru (zb 0 ty30 rfl rfl (.t2 .nil))<|e_ru (zb 2 ty30 rfl rfl (.t2 .nil))<|zL rfl rfl (.c rfl (.c rfl (.c rfl .n))) ce54 (zWa (ex:=(l.getD k (0,0)).1) (ey:=(l.getD k (0,0)).2) (fx:=(l.getD ((k+1)%n) (0,0)).1) (fy:=(l.getD ((k+1)%n) (0,0)).2) (gx:=hx) (gy:=hy) (hre:=cbo) (hrf:=cbo) (hrg:=cbo)) (.n)<|e_p (zAa rfl rfl)<|e_p (zn rfl rfl)<|zh ?_
         exact zga () (show True from by first|trivial|omega|simp_all) ((.e rfl (congrArg Value.bool cbu) (.of rfl)):SubM _ _) (ho:=((.of [0,0,0] rfl):PickO _ _ _)) ((.of [0,1,2] rfl):SelR _ _ _)
        ·
         refine e_no<|e_no<|e_no<|e_no<|e_no<|e_p (zn rfl rfl)<|zh ?_
         exact zga () (show True from by first|trivial|omega|simp_all) ((.e rfl (congrArg Value.bool cbu) (.of rfl)):SubM _ _) (ho:=((.of [0,0,0] rfl):PickO _ _ _)) ((.of [0,1,2] rfl):SelR _ _ _)
       ·
        refine e_no<|e_no<|e_no<|e_no<|e_no<|e_p (zn rfl rfl)<|e_mv rfl<|e_no<|e_no<|e_no<|e_no<|e_no<|e_p (zn rfl rfl)<|zh ?_
        exact zga () (show True from by first|trivial|omega|simp_all) ((.e rfl (congrArg Value.bool cbu) (.of rfl)):SubM _ _) (ho:=((.of [0,0,0] rfl):PickO _ _ _)) ((.of [0,1,2] rfl):SelR _ _ _)
      ·
       rintro ⟨⟩ -
       try dsimp only
       refine zG rfl (fun hhit=> ?_) (fun hhit=> ?_)
       ·
        refine za<|e_mv rfl<|e_p (zvd (z:=(-(Pg.inN n l (hx,hy) k))) rfl (w64 om))<|e_p (zc rfl)<|zh<|zO<|zd<|za<|e_p (zK (z:=(((k+1):Nat):Int)) rfl rfl (w64 om))<|e_mv rfl<|zh<|zha (k+1) (show (k+1)≤n∧∀w,w<(k+1)→¬Pg.onS (l.getD w (0,0)) (l.getD ((w+1)%n) (0,0)) (hx,hy) from by exact ⟨by omega,Ms.all_lt_succ hall hon⟩) (by show n - (k+1)<n - k;omega) ((.e rfl (by rw [Pg.inN_hit ((Pg.hit_no hsw).2 ⟨hhit.1.1,hhit.1.2,hhit.2⟩)]) (.of rfl)):SubM _ _) (ho:=((.c (i:=2) rfl .n):PickO _ _ _)) ((.c (j:=2) rfl .n):SelR _ _ _)
       ·
        refine zw<|zO<|zd<|za<|e_p (zK (z:=(((k+1):Nat):Int)) rfl rfl (w64 om))<|e_mv rfl<|zh<|zha (k+1) (show (k+1)≤n∧∀w,w<(k+1)→¬Pg.onS (l.getD w (0,0)) (l.getD ((w+1)%n) (0,0)) (hx,hy) from by exact ⟨by omega,Ms.all_lt_succ hall hon⟩) (by show n - (k+1)<n - k;omega) ((.e rfl (by rw [Pg.inN_not (fun h=>hhit (by have h2:=(Pg.hit_no hsw).1 h;exact ⟨⟨h2.1,h2.2.1⟩,h2.2.2⟩))]) (.of rfl)):SubM _ _) (ho:=((.c (i:=2) rfl .n):PickO _ _ _)) ((.c (j:=2) rfl .n):SelR _ _ _)
   ·
    refine zna<|zj<|zj<|zy<|zd<|zg<|za<|e_mv rfl<|e_p (zc rfl)<|e_p (zc rfl)<|zh<|zd<|zI ?_
    obtain ⟨hv1,hv2⟩:=Pg.is_ok (q:=(hx,hy)) hz (by rw [hfar];decide)
    exact zza yh () trivial (zk rfl) (zk rfl) (by rw [hv1,hv2,Pg.ins_go hn (fun w hw=>hall w om),show k=n by omega]) (ho:=(.n:PickO _ _ _)) (.n:SelR _ _ _)
end Go.Proofs.YtjcpbhlijoigfaaGreat.Sp
namespace Go.Proofs.YtjcpbhlijoigfaaGreat.Pg
set_option linter.unusedVariables false
abbrev T3:=Int×Int×Int
def sg (l:List P2):Int:=if db l<0 then -1 else 1
theorem sg_neg {l:List P2} (h:db l<0):sg l= -1:=by unfold sg;rw [if_pos h]
theorem sg_pos {l:List P2} (h:¬db l<0):sg l=1:=by unfold sg;rw [if_neg h]
theorem sg_rng (l:List P2):sg l=1∨sg l= -1:=by unfold sg;split;exact .inr rfl;exact .inl rfl
def sx (m i:Nat):Nat:=if i+1<m then i+1 else 0
def px (m i:Nat):Nat:=if i=0 then m - 1 else i - 1
abbrev nt (L:List Nat) (i:Nat):Nat:=L.getD i 0
structure Rg (n:Nat) (L B N:List Nat):Prop where
  lb:B.length=64
  ln:N.length=64
  n64:n≤64
  lt:∀i,i<L.length→nt L i<n
  srt:∀i j,i<j→j<L.length→nt L i<nt L j
  nx:∀i,i<L.length→N.getD (nt L i) 0=nt L (sx L.length i)
  bf:∀i,i<L.length→B.getD (nt L i) 0=nt L (px L.length i)
theorem sx_c (m i:Nat):i+1<m∧sx m i=i+1∨m≤i+1∧sx m i=0:=by unfold sx;split <;> omega
theorem px_c (m i:Nat):i=0∧px m i=m - 1∨0<i∧px m i=i - 1:=by unfold px;split <;> omega
def er (i x:Nat):Nat:=if x<i then x else x+1
theorem er_c (i x:Nat):x<i∧er i x=x∨i≤x∧er i x=x+1:=by unfold er;split <;> omega
theorem er_sx {m i j:Nat} (hi:i<m) (h2:2≤m) (hj:j<m - 1):(er i j=px m i→sx m i=er i (sx (m - 1) j))∧(er i j≠px m i→sx m (er i j)=er i (sx (m - 1) j)):=by
  have h1:=sx_c m i
  have h3:=px_c m i
  have h4:=er_c i j
  have h5:=sx_c (m - 1) j
  have h6:=er_c i (sx (m - 1) j)
  have h7:=sx_c m (er i j)
  constructor <;> intro h <;> omega
theorem er_px {m i j:Nat} (hi:i<m) (h2:2≤m) (hj:j<m - 1):(er i j=sx m i→px m i=er i (px (m - 1) j))∧(er i j≠sx m i→px m (er i j)=er i (px (m - 1) j)):=by
  have h1:=px_c m i
  have h3:=sx_c m i
  have h4:=er_c i j
  have h5:=px_c (m - 1) j
  have h6:=er_c i (px (m - 1) j)
  have h7:=px_c m (er i j)
  constructor <;> intro h <;> omega
theorem sx_lt {m i:Nat} (h:i<m):sx m i<m:=by unfold sx;split <;> omega
theorem px_lt {m i:Nat} (h:i<m):px m i<m:=by unfold px;split <;> omega
theorem Rg.inj {n:Nat} {L B N:List Nat} (h:Rg n L B N) {i j:Nat} (hi:i<L.length) (hj:j<L.length) (e:nt L i=nt L j):i=j:=by
  rcases Nat.lt_trichotomy i j with k|k|k
  · have:=h.srt i j k hj;omega
  · exact k
  · have:=h.srt j i k hi;omega
theorem Rg.at {n:Nat} {L B N:List Nat} (h:Rg n L B N) {i v:Nat} (hi:i<L.length) (e:nt L i=v):v<n∧N.getD v 0=nt L (sx L.length i)∧B.getD v 0=nt L (px L.length i)∧N.getD v 0<n∧B.getD v 0<n:=by
  subst e
  have h1:=h.nx i hi
  have h2:=h.bf i hi
  have h3:=h.lt _ (sx_lt hi)
  have h4:=h.lt _ (px_lt hi)
  exact ⟨h.lt i hi,h1,h2,by omega,by omega⟩
theorem getD_set {l:List Nat} {i j x:Nat} (h:j<l.length):(l.set j x).getD i 0=if i=j then x else l.getD i 0:=by
  rw [List.getD_eq_getElem?_getD,List.getElem?_set,List.getD_eq_getElem?_getD]
  by_cases e:j=i
  · subst e;rw [if_pos rfl,if_pos rfl,if_pos h];rfl
  · rw [if_neg e,if_neg (fun k=>e k.symm)]
theorem getD_erase {L:List Nat} {i j:Nat}:nt (L.eraseIdx i) j=nt L (er i j):=by
  unfold nt er
  rw [List.getD_eq_getElem?_getD,List.getElem?_eraseIdx]
  split
  · rw [List.getD_eq_getElem?_getD]
  · rw [List.getD_eq_getElem?_getD]
def cutN (B N:List Nat) (v:Nat):List Nat:=N.set (B.getD v 0) (N.getD v 0)
def cutB (B N:List Nat) (v:Nat):List Nat:=B.set ((cutN B N v).getD v 0) (B.getD v 0)
theorem cutN_v {n:Nat} {L B N:List Nat} (h:Rg n L B N) {i v:Nat} (hi:i<L.length) (e:nt L i=v) (h2:2≤L.length):(cutN B N v).getD v 0=N.getD v 0:=by
  obtain ⟨hv,hn,hb,hn2,hb2⟩:=h.at hi e
  have n64:=h.n64
  have ln:=h.ln
  unfold cutN
  rw [getD_set (by omega),if_neg]
  intro k
  rw [hb] at k
  have:=h.inj hi (px_lt hi) (by rw [e];exact k)
  have:=px_c L.length i
  omega
theorem Rg.cut {n:Nat} {L B N:List Nat} (h:Rg n L B N) {i v:Nat} (hi:i<L.length) (e:nt L i=v) (h2:2≤L.length):Rg n (L.eraseIdx i) (cutB B N v) (cutN B N v):=by
  obtain ⟨hv,hn,hb,hn2,hb2⟩:=h.at hi e
  have n64:=h.n64
  have lb:=h.lb
  have ln:=h.ln
  have hlen:(L.eraseIdx i).length=L.length - 1:=by rw [List.length_eraseIdx,if_pos hi]
  have hne:¬v=B.getD v 0:=by
    intro k
    rw [hb] at k
    have:=h.inj hi (px_lt hi) (by rw [e];exact k)
    unfold px at this;split at this <;> omega
  have hN:∀w,(cutN B N v).getD w 0=if w=B.getD v 0 then N.getD v 0 else N.getD w 0:=fun w=>by
    unfold cutN;rw [getD_set (by omega)]
  have hNv:(cutN B N v).getD v 0=N.getD v 0:=by rw [hN,if_neg hne]
  have hB:∀w,(cutB B N v).getD w 0=if w=N.getD v 0 then B.getD v 0 else B.getD w 0:=fun w=>by
    unfold cutB;rw [hNv,getD_set (by omega)]
  refine ⟨by unfold cutB;rw [List.length_set];exact lb,by unfold cutN;rw [List.length_set];exact ln,n64,fun j hj=> ?_,fun j k hjk hk=> ?_,fun j hj=> ?_,fun j hj=> ?_⟩
  · rw [getD_erase];have:=er_c i j;exact h.lt _ (by omega)
  · rw [getD_erase, getD_erase]
    have:=er_c i j
    have:=er_c i k
    exact h.srt _ _ (by omega) (by omega)
  · rw [hlen] at hj
    have hj3:er i j<L.length:=by have:=er_c i j;omega
    obtain ⟨e1,e2⟩:=er_sx hi h2 hj
    rw [getD_erase,hN,hb,hlen,getD_erase]
    by_cases k:nt L (er i j)=nt L (px L.length i)
    · rw [if_pos k,hn,e1 (h.inj hj3 (px_lt hi) k)]
    · rw [if_neg k,h.nx _ hj3,e2 (fun q=>k (by rw [q]))]
  · rw [hlen] at hj
    have hj3:er i j<L.length:=by have:=er_c i j;omega
    obtain ⟨e1,e2⟩:=er_px hi h2 hj
    rw [getD_erase,hB,hn,hlen,getD_erase]
    by_cases k:nt L (er i j)=nt L (sx L.length i)
    · rw [if_pos k,hb,e1 (h.inj hj3 (sx_lt hi) k)]
    · rw [if_neg k,h.bf _ hj3,e2 (fun q=>k (by rw [q]))]
theorem range_nt {n i:Nat} (h:i<n):nt (List.range n) i=i:=by
  unfold nt;rw [List.getD_eq_getElem?_getD,List.getElem?_range h];rfl
theorem Rg.mk0 {n:Nat} {B N:List Nat} (h64:n≤64) (hB:B.length=64) (hN:N.length=64) (h:∀w,w<n→B.getD w 0=(w+n - 1)%n∧N.getD w 0=(w+1)%n):Rg n (List.range n) B N:=by
  have hl:(List.range n).length=n:=List.length_range
  refine ⟨hB,hN,h64,fun i hi=> ?_,fun i j hij hj=> ?_,fun i hi=> ?_,fun i hi=> ?_⟩
  · rw [hl] at hi;rw [range_nt hi];exact hi
  · rw [hl] at hj;rw [range_nt (by omega),range_nt hj];exact hij
  · rw [hl] at hi
    rw [range_nt hi,hl,range_nt (sx_lt hi),(h i hi).2]
    have:=sx_c n i
    rcases this with ⟨h1,h2⟩|⟨h1,h2⟩
    · rw [h2,Nat.mod_eq_of_lt h1]
    · rw [h2,show i+1=n by omega,Nat.mod_self]
  · rw [hl] at hi
    rw [range_nt hi,hl,range_nt (px_lt hi),(h i hi).1]
    have:=px_c n i
    rcases this with ⟨h1,h2⟩|⟨h1,h2⟩
    · rw [h2,h1,Nat.zero_add,Nat.mod_eq_of_lt (by omega)]
    · rw [h2,show i+n - 1=n+(i - 1) by omega,Nat.add_mod_left,Nat.mod_eq_of_lt (by omega)]
theorem md_c {x m:Nat} (h:x<2*m):x<m∧x%m=x∨m≤x∧x%m=x - m:=by
  by_cases k:x<m
  · exact .inl ⟨k,Nat.mod_eq_of_lt k⟩
  · refine .inr ⟨by omega, ?_⟩
    rw [Nat.mod_eq_sub_mod (by omega),Nat.mod_eq_of_lt (by omega)]
theorem sx_md {m x:Nat} (hm:0<m):sx m (x%m)=(x+1)%m:=by
  have h1:=Nat.mod_lt x hm
  have h2:(x+1)%m=(x%m+1)%m:=by rw [Nat.mod_add_mod]
  rw [h2]
  rcases sx_c m (x%m) with ⟨h3,h4⟩|⟨h3,h4⟩
  · rw [h4,Nat.mod_eq_of_lt h3]
  · rw [h4,show x%m+1=m by omega,Nat.mod_self]
theorem Rg.nxm {n:Nat} {L B N:List Nat} (h:Rg n L B N) (x:Nat) (hm:0<L.length):N.getD (nt L (x%L.length)) 0=nt L ((x+1)%L.length):=by
  rw [h.nx _ (Nat.mod_lt _ hm),sx_md hm]
theorem Rg.nx2 {n:Nat} {L B N:List Nat} (h:Rg n L B N) {i v:Nat} (hi:i<L.length) (e:nt L i=v):N.getD (N.getD v 0) 0=nt L ((i+2+0)%L.length):=by
  have h1:=h.nxm i (by omega)
  have h2:=h.nxm (i+1) (by omega)
  rw [Nat.mod_eq_of_lt hi,e] at h1
  rw [h1,h2]
theorem stop_iff {n:Nat} {L B N:List Nat} (h:Rg n L B N) {i t:Nat} (hi:i<L.length) (h3:3≤L.length) (ht:t≤L.length - 3):nt L ((i+2+t)%L.length)=nt L (px L.length i)↔t=L.length - 3:=by
  have h1:=md_c (x:=i+2+t) (m:=L.length) (by omega)
  have h2:=px_c L.length i
  constructor
  · intro e
    have:=h.inj (Nat.mod_lt _ (by omega)) (px_lt hi) e
    omega
  · intro e
    rw [show (i+2+t)%L.length=px L.length i by omega]
def corn (l:List P2) (s:Int) (L:List Nat) (i:Nat):Int:=s*(crs (gt l (nt L (px L.length i))) (gt l (nt L i)) (gt l (nt L (sx L.length i)))).sign
def in3 (s:Int) (a b c q:P2):Prop:=0≤s*(crs a b q).sign∧0≤s*(crs b c q).sign∧0≤s*(crs c a q).sign
instance (s:Int) (a b c q:P2):Decidable (in3 s a b c q):=inferInstanceAs (Decidable (_∧_))
def in3I (l:List P2) (s:Int) (L:List Nat) (i t:Nat):Prop:=in3 s (gt l (nt L (px L.length i))) (gt l (nt L i)) (gt l (nt L (sx L.length i))) (gt l (nt L ((i+2+t)%L.length)))
instance (l:List P2) (s:Int) (L:List Nat) (i t:Nat):Decidable (in3I l s L i t):=inferInstanceAs (Decidable (in3 ..))
def earI (l:List P2) (s:Int) (L:List Nat) (i:Nat):Prop:=0<corn l s L i∧∀t,t<L.length - 3→¬in3I l s L i t
instance (l:List P2) (s:Int) (L:List Nat) (i:Nat):Decidable (earI l s L i):=inferInstanceAs (Decidable (_∧_))
theorem s_mul {s z:Int} (hs:s=1∨s= -1): -1≤s*z.sign∧s*z.sign≤1:=by
  have:=sgn_rng z
  rcases hs with rfl|rfl <;> omega
def fst (m:Nat) (P:Nat→Prop) [DecidablePred P]:Option Nat:=(List.range m).find? (fun i=>decide (P i))
theorem fst_some {m k:Nat} {P:Nat→Prop} [DecidablePred P] (hk:k<m) (hp:P k) (hn:∀j,j<k→¬P j):fst m P=some k:=by
  unfold fst
  rw [List.find?_eq_some_iff_append]
  refine ⟨by simpa using hp,List.range k,(List.range' (k+1) (m - k - 1)),?_,fun a ha=> ?_⟩
  · refine List.ext_getElem (by simp; omega) fun i h1 h2 => ?_
    rw [List.getElem_range,List.getElem_append]
    split
    · rw [List.getElem_range]
    · rw [List.getElem_cons]
      have hlk:(List.range k).length=k:=List.length_range
      have h1':i<m:=by simpa using h1
      split
      · omega
      · rw [List.getElem_range'];omega
  · have:=hn a (by simpa using ha);simpa using this
theorem fst_none {m:Nat} {P:Nat→Prop} [DecidablePred P] (hn:∀j,j<m→¬P j):fst m P=none:=by
  unfold fst
  rw [List.find?_eq_none]
  intro a ha
  have:=hn a (by simpa using ha);simpa using this
def Fst (L:List Nat) (P:Nat→Prop) (r:Int):Prop:=(∃k,k<L.length∧r=((nt L k:Nat):Int)∧P k∧∀j,j<k→¬P j)∨(r= -1∧∀j,j<L.length→¬P j)
structure Fs (n:Nat) (L:List Nat) (P:Nat→Prop) (v k:Nat):Prop where
  vn:v≤n
  km:k≤L.length
  lo:∀j,j<k→nt L j<v
  hi:∀j,k≤j→j<L.length→v≤nt L j
  no:∀j,j<k→¬P j
def Gn (n:Nat) (L:List Nat) (G:List Bool):Prop:=G.length=n∧∀v,v<n→(G.getD v false=true↔∀i,i<L.length→nt L i≠v)
theorem Fs.zero {n:Nat} {L:List Nat} {P:Nat→Prop}:Fs n L P 0 0:=⟨Nat.zero_le _,Nat.zero_le _,fun j h=>absurd h (by omega),fun j _ _=>Nat.zero_le _,fun j h=>absurd h (by omega)⟩
theorem Fs.skip {n:Nat} {L:List Nat} {P:Nat→Prop} {v k:Nat} {G:List Bool} (h:Fs n L P v k) (hg:Gn n L G) (hv:v<n) (hb:G.getD v false=true):Fs n L P (v+1) k:=by
  have h1:=(hg.2 v hv).1 hb
  refine ⟨hv,h.km,fun j hj=>Nat.lt_succ_of_lt (h.lo j hj),fun j hj hl=> ?_,h.no⟩
  have:=h.hi j hj hl
  have:=h1 j hl
  omega
theorem Fs.here {n:Nat} {L B N:List Nat} {P:Nat→Prop} {v k:Nat} {G:List Bool} (h:Fs n L P v k) (hr:Rg n L B N) (hg:Gn n L G) (hv:v<n) (hb:¬G.getD v false=true):k<L.length∧nt L k=v:=by
  have h1:∃i,i<L.length∧nt L i=v:=by
    refine Decidable.byContradiction fun hc=>hb ((hg.2 v hv).2 fun i hi he=>hc ⟨i,hi,he⟩)
  obtain ⟨i,hi,he⟩:=h1
  have h2:k≤i:=Decidable.byContradiction fun hc=>by have:=h.lo i (by omega);omega
  have h3:=h.hi k (Nat.le_refl _) (by omega)
  by_cases e:k=i
  · subst e;exact ⟨hi,he⟩
  · have:=hr.srt k i (by omega) hi;omega
theorem Fs.next {n:Nat} {L B N:List Nat} {P:Nat→Prop} {v k:Nat} (h:Fs n L P v k) (hr:Rg n L B N) (hv:v<n) (hk:k<L.length∧nt L k=v) (hp:¬P k):Fs n L P (v+1) (k+1):=by
  refine ⟨hv,hk.1,fun j hj=> ?_,fun j hj hl=> ?_,fun j hj=> ?_⟩
  · by_cases e : j = k
    · subst e;omega
    · have:=h.lo j (by omega);omega
  · have:=hr.srt k j (by omega) hl;omega
  · by_cases e : j = k
    · subst e;exact hp
    · exact h.no j (by omega)
theorem Fs.fin {n:Nat} {L B N:List Nat} {P:Nat→Prop} {k:Nat} (h:Fs n L P n k) (hr:Rg n L B N):∀j,j<L.length→¬P j:=fun j hj=>by
  by_cases e:j<k
  · exact h.no j e
  · have := h.hi j (by omega) hj
    have:=hr.lt j hj
    omega
theorem Gn.zero {n:Nat}:Gn n (List.range n) (List.replicate n false):=by
  refine ⟨List.length_replicate,fun v hv=> ?_⟩
  rw [List.getD_eq_getElem?_getD,List.getElem?_replicate,if_pos hv]
  simp only [Option.getD_some,List.length_range]
  exact ⟨fun h=>(by cases h),fun h=>absurd (range_nt hv) (h v hv)⟩
theorem Gn.set {n:Nat} {L B N:List Nat} {G:List Bool} {k v:Nat} (h:Gn n L G) (hr:Rg n L B N) (hk:k<L.length) (e:nt L k=v):Gn n (L.eraseIdx k) (G.set v true):=by
  have hv:v<n:=e ▸ hr.lt k hk
  have hlen:(L.eraseIdx k).length=L.length - 1:=by rw [List.length_eraseIdx,if_pos hk]
  refine ⟨by rw [List.length_set];exact h.1,fun w hw=> ?_⟩
  rw [List.getD_eq_getElem?_getD,List.getElem?_set,hlen]
  have h1:=h.1
  by_cases ew:v=w
  · subst ew
    rw [if_pos rfl,if_pos (by omega)]
    refine ⟨fun _ i hi hc=> ?_,fun _=>rfl⟩
    rw [getD_erase] at hc
    have h3:=er_c k i
    have:=hr.inj (i:=er k i) (j:=k) (by omega) hk (by rw [hc,e])
    omega
  · rw [if_neg ew, ← List.getD_eq_getElem?_getD, h.2 w hw]
    constructor
    · intro hc i hi
      rw [getD_erase]
      have h3:=er_c k i
      exact hc _ (by omega)
    · intro hc i hi he
      by_cases ek:i=k
      · subst ek;exact ew (e.symm.trans he)
      · by_cases el : i < k
        · have h4 := hc i (by omega)
          rw [getD_erase] at h4
          have h3:=er_c k i
          rw [show er k i=i by omega] at h4;exact h4 he
        · have h4 := hc (i - 1) (by omega)
          rw [getD_erase] at h4
          have h3:=er_c k (i - 1)
          rw [show er k (i - 1)=i by omega] at h4;exact h4 he
def tri (L:List Nat) (i:Nat):T3:=(((nt L (px L.length i):Nat):Int),((nt L i:Nat):Int),((nt L (sx L.length i):Nat):Int))
def ears (l:List P2) (s:Int):Nat→List Nat→List T3→Option (List T3)
  |0,L,out=>some (out++[(((nt L 0:Nat):Int),((nt L 1:Nat):Int),((nt L 2:Nat):Int))])
  |f+1,L,out=>match fst L.length (earI l s L) with
    |none=>none
    |some i=>ears l s f (L.eraseIdx i) (out++[tri L i])
theorem ears_some {l:List P2} {s:Int} {L:List Nat} {out:List T3} {k:Nat} (h3:3<L.length) (hk:k<L.length) (hp:earI l s L k) (hn:∀j,j<k→¬earI l s L j):ears l s (L.length - 3) L out=ears l s ((L.eraseIdx k).length - 3) (L.eraseIdx k) (out++[tri L k]):=by
  have hlen:(L.eraseIdx k).length=L.length - 1:=by rw [List.length_eraseIdx,if_pos hk]
  rw [show L.length - 3=(L.length - 4)+1 by omega,hlen,show L.length - 1 - 3=L.length - 4 by omega]
  conv=>lhs;unfold ears
  rw [fst_some hk hp hn]
theorem ears_none {l:List P2} {s:Int} {L:List Nat} {out:List T3} (h3:3<L.length) (hn:∀j,j<L.length→¬earI l s L j):ears l s (L.length - 3) L out=none:=by
  rw [show L.length - 3=(L.length - 4)+1 by omega]
  unfold ears
  rw [fst_none hn]
theorem ears_end {l:List P2} {s:Int} {L:List Nat} {out:List T3} (h3:L.length=3):ears l s (L.length - 3) L out=some (out++[(((nt L 0:Nat):Int),((nt L 1:Nat):Int),((nt L 2:Nat):Int))]):=by
  rw [h3];rfl
def earO (l:List P2):Option (List T3):=ears l (sg l) (l.length - 3) (List.range l.length) []
def erC (l:List P2):Int:=if ck l≠0 then ck l else if (earO l).isSome then 0 else 11
def erV (l:List P2):List T3:=if ck l≠0 then [] else (earO l).getD []
theorem er_bad {l:List P2} (h:ck l≠0):erV l=[]∧erC l=ck l:=by unfold erV erC;rw [if_pos h,if_pos h];exact ⟨rfl,rfl⟩
theorem er_none {l:List P2} (h:ck l=0) (h2:earO l=none):erV l=[]∧erC l=11:=by unfold erV erC;rw [if_neg (fun k=>k h),if_neg (fun k=>k h),h2];exact ⟨rfl,rfl⟩
theorem er_some {l:List P2} {o:List T3} (h:ck l=0) (h2:earO l=some o):erV l=o∧erC l=0:=by unfold erV erC;rw [if_neg (fun k=>k h),if_neg (fun k=>k h),h2];exact ⟨rfl,rfl⟩
end Go.Proofs.YtjcpbhlijoigfaaGreat.Pg
namespace Go.Proofs.YtjcpbhlijoigfaaGreat.Sp
open Go
set_option linter.unusedVariables false
section
variable {P : Program} {c : Cx} {n : Sz} {Q : Exit → Act → World → Prop} {m : Fm} {O : List As} {R : List Fa} {α : Type} {d : Option Tmp} {ty : TypeId} {ps : String} {af : Array Edge} {gd : Option (Nat × Bool)}
theorem RowOn.drop {T:TypeId} {r:Rp α} {p:Option Addr} {cap:Nat} {l:List α} {g h:Hp} (k:Nat) (hk:k≤l.length) (s:RowOn T r p cap l g h):RowOn T r (newP p cap k r.sz) (cap - k) (l.drop k) g h:=by
  rcases s with ⟨h1,h2,h3,h4⟩|⟨b,off,cells,e1,e2,e3,e4,e5,e6⟩
  · subst h3; simp at hk; subst hk
    exact .inl ⟨by unfold newP;rw [h1];split <;> rfl,by omega,rfl,h4⟩
  · by_cases e : cap = k
    · refine .inr ⟨b, off, cells, by unfold newP; rw [if_pos e, e1], by rw [List.length_drop]; omega, by omega, ?_, e5, fun i x h => ?_⟩
      · rw [e,Nat.sub_self,Nat.zero_mul];omega
      · rw [List.getElem?_drop] at h
        have:=(List.getElem?_eq_some_iff.1 h).1;omega
    · refine .inr ⟨b, off + k * r.sz, cells, ?_, by rw [List.length_drop]; omega, by omega, ?_, e5, fun i x h => ?_⟩
      · unfold newP; rw [if_neg e, e1]
        by_cases z:k*r.sz=0
        · rw [z];simp [Addr.add]
        · simp [Addr.add,z]
      · have : (cap - k) * r.sz + k * r.sz = cap * r.sz := by rw [← Nat.add_mul]; congr 1; omega
        omega
      · rw [List.getElem?_drop] at h
        obtain ⟨γ,a1,a2⟩:=e6 (k+i) x h
        refine ⟨γ,⟨a1.1,fun j v hv=> ?_⟩,a2⟩
        have:=a1.2 j v hv
        rw [Nat.add_mul] at this
        rw [show off+k*r.sz+i*r.sz+j=off+(k*r.sz+i*r.sz)+j by omega];exact this
end
end Go.Proofs.YtjcpbhlijoigfaaGreat.Sp
namespace Go.Proofs.YtjcpbhlijoigfaaGreat.Sp
open Go
set_option linter.unusedVariables false
abbrev Tr:=Option Addr×Nat×Nat
section
variable {P : Program} {c : Cx} {n : Sz} {m : Fm} {O : List As} {R : List Fa} {α : Type} {r : Rp α} {Z : List Tr} {ls : List (List α)} {d : Option Tmp} {ty : TypeId} {ps : String} {af : Array Edge} {gd : Option (Nat × Bool)}
theorem zQ {x:Operand} {b o:Nat} (h:evo m x=some (.pointer (some ⟨b,o,none⟩))):PV P n ⟨d,.nilCheck x,ty,ps,af,gd⟩ m (.pointer (some ⟨b,o,none⟩)):=fun a w f=>by
  simp [execOp,f.ev h]
end
end Go.Proofs.YtjcpbhlijoigfaaGreat.Sp
namespace Go.Proofs.YtjcpbhlijoigfaaGreat.Sp
open Go
set_option linter.unusedVariables false
abbrev nv (x:Nat):Value:= .int .i64 (x:Int)
def rgC (p:Option Addr) (n cap:Nat) (B N:List Nat) (k s:Int):List Value:= .slice p n cap :: (B.map nv++(N.map nv++[.int .i64 k,.int .i64 s]))
section
variable {P : Program} {n : Sz} {m : Fm} {d : Option Tmp} {ty : TypeId} {ps : String} {af : Array Edge} {gd : Option (Nat × Bool)}
theorem zfa {s e:TypeId} {x ix:Operand} {b o len i:Nat} {kk:IntKind} (hu:P.underlying s=some (.array len e)) (ht:(P.info? e).map (·.size)=some 1)
    (h:evo m x=some (.pointer (some ⟨b,o,none⟩))) (hi:evo m ix=some (.int kk (i:Int))) (hl:i<len):PV P n ⟨d,.indexAddr s x ix,ty,ps,af,gd⟩ m (.pointer (some ⟨b,o+i,none⟩)):=zT hu ht h hi hl (by rw [Nat.mul_one])
end
section
variable {p : Option Addr} {n cap : Nat} {B N : List Nat} {k s : Int} {j x : Nat}
theorem rg_B (hB:B.length=64) (hN:N.length=64) (hj:j<64):(rgC p n cap B N k s)[1+j]? =some (nv (B.getD j 0)):=by
  unfold rgC
  rw [Nat.add_comm,List.getElem?_cons_succ,List.getElem?_append_left (by rw [List.length_map];omega),List.getElem?_map,List.getD_eq_getElem?_getD,List.getElem?_eq_getElem (by omega)]
  rfl
theorem rg_N (hB:B.length=64) (hN:N.length=64) (hj:j<64):(rgC p n cap B N k s)[65+j]? =some (nv (N.getD j 0)):=by
  unfold rgC
  rw [show 65+j=(64+j)+1 by omega,List.getElem?_cons_succ,List.getElem?_append_right (by rw [List.length_map];omega),List.length_map,hB,Nat.add_sub_cancel_left,List.getElem?_append_left (by rw [List.length_map];omega),List.getElem?_map,List.getD_eq_getElem?_getD,List.getElem?_eq_getElem (by omega)]
  rfl
theorem rg_k (hB:B.length=64) (hN:N.length=64):(rgC p n cap B N k s)[129]? =some (.int .i64 k):=by
  unfold rgC
  rw [List.getElem?_cons_succ,List.getElem?_append_right (by rw [List.length_map];omega),List.length_map,hB,List.getElem?_append_right (by rw [List.length_map];omega),List.length_map,hN]
  rfl
theorem rg_s (hB:B.length=64) (hN:N.length=64):(rgC p n cap B N k s)[130]? =some (.int .i64 s):=by
  unfold rgC
  rw [List.getElem?_cons_succ,List.getElem?_append_right (by rw [List.length_map];omega),List.length_map,hB,List.getElem?_append_right (by rw [List.length_map];omega),List.length_map,hN]
  rfl
theorem upd_set {l:List Value} {o:Nat} {v:Value} (h:o<l.length):Upd l o [v] (l.set o v):=by
  refine ⟨h,?_⟩
  rw [List.set_eq_take_append_cons_drop,if_pos h];simp
theorem rg_len (hB:B.length=64) (hN:N.length=64):(rgC p n cap B N k s).length=131:=by unfold rgC;simp [hB,hN]
theorem rg_setB (hB:B.length=64) (hN:N.length=64) (hj:j<64):Upd (rgC p n cap B N k s) (1+j) [nv x] (rgC p n cap (B.set j x) N k s):=by
  have h:=upd_set (l:=rgC p n cap B N k s) (o:=1+j) (v:=nv x) (by rw [rg_len hB hN];omega)
  have e:(rgC p n cap B N k s).set (1+j) (nv x)=rgC p n cap (B.set j x) N k s:=by
    unfold rgC
    rw [Nat.add_comm,List.set_cons_succ,List.set_append_left _ _ (by rw [List.length_map];omega),List.map_set]
  rwa [e] at h
theorem rg_setN (hB:B.length=64) (hN:N.length=64) (hj:j<64):Upd (rgC p n cap B N k s) (65+j) [nv x] (rgC p n cap B (N.set j x) k s):=by
  have h:=upd_set (l:=rgC p n cap B N k s) (o:=65+j) (v:=nv x) (by rw [rg_len hB hN];omega)
  have e:(rgC p n cap B N k s).set (65+j) (nv x)=rgC p n cap B (N.set j x) k s:=by
    unfold rgC
    rw [show 65+j=(64+j)+1 by omega,List.set_cons_succ,List.set_append_right _ _ (by rw [List.length_map];omega),List.length_map,hB,Nat.add_sub_cancel_left,List.set_append_left _ _ (by rw [List.length_map];omega),List.map_set]
  rwa [e] at h
theorem rg_setk {k':Int} (hB:B.length=64) (hN:N.length=64):Upd (rgC p n cap B N k s) 129 [.int .i64 k'] (rgC p n cap B N k' s):=by
  have h:=upd_set (l:=rgC p n cap B N k s) (o:=129) (v:= .int .i64 k') (by rw [rg_len hB hN];omega)
  have e:(rgC p n cap B N k s).set 129 (.int .i64 k')=rgC p n cap B N k' s:=by
    unfold rgC
    rw [List.set_cons_succ,List.set_append_right _ _ (by rw [List.length_map];omega),List.length_map,hB,List.set_append_right _ _ (by rw [List.length_map];omega),List.length_map,hN]
    rfl
  rwa [e] at h
end
theorem rgl {p:Prop} (h:p:=by first|assumption|(simp only [List.length_set];assumption)):p:=h
end Go.Proofs.YtjcpbhlijoigfaaGreat.Sp
namespace Go.Proofs.YtjcpbhlijoigfaaGreat.Sp
open Go
set_option linter.unusedVariables false
set_option maxRecDepth 100000
set_option maxHeartbeats 8000000
theorem zFe {b:Nat} {p:Option Addr} {n:Nat} {cap:Nat} {l:List Pg.P2} {B:List Nat} {N:List Nat} {kk:Int} {s:Int} {L:List Nat} {v:Nat} {i:Nat} (hn:l.length=n) (hg:Pg.Rg n L B N) (hrng:∀x∈l,Pg.inR x) (hs:s=1∨s= -1) (hi:i<L.length) (hv:Pg.nt L i=v):Con ye 82 [.pointer (some ⟨b,0,none⟩),.int .i64 ((v:Nat):Int)] [boxA b 98 (rgC p n cap B N kk s)] [slF (rI2 .i64) p cap l] (Y:=Unit) (fun y=>True) (fun y=> .int .i64 (Pg.corn l s L i)) (fun y=>[boxA b 98 (rgC p n cap B N kk s)]) (fun y=>[]):=by
 refine zl Tryz.func82 rfl rfl rfl (fun c=> ?_)
 show RunC _ _ _ _ _ [(0,.pointer (some ⟨b,0,none⟩)),(1,.int .i64 ((v:Nat):Int))] [boxA b 98 (rgC p n cap B N kk s)] [slF (rI2 .i64) p cap l]
 refine zda 0 rfl (fun hL0=> ?_)
 have hLB:=hg.lb
 have hLN:=hg.ln
 have hn64:=hg.n64
 obtain ⟨hvn,hvN,hvB,hvN2,hvB2⟩:=hg.at hi hv
 have hq0:Pg.inR (l.getD (B.getD v 0) (0,0)):=Pg.Ok.gt hrng om
 have hq1:Pg.inR (l.getD v (0,0)):=Pg.Ok.gt hrng om
 have hq2:Pg.inR (l.getD (N.getD v 0) (0,0)):=Pg.Ok.gt hrng om
 have hsm:=Pg.s_mul (z:=Pg.crs ((l.getD (B.getD v 0) (0,0)).1,(l.getD (B.getD v 0) (0,0)).2) ((l.getD v (0,0)).1,(l.getD v (0,0)).2) ((l.getD (N.getD v 0) (0,0)).1,(l.getD (N.getD v 0) (0,0)).2)) hs
 refine zg<|za<|e_p (zc rfl)<|zh<|zd<|zg<|zY (OW:=[]) (O:=[boxA b 98 (rgC p n cap B N kk s)]) 100000 mixed (.then .ret) kr<|e_dm 0 rfl rfl rfl<|e_pv 1 rfl rfl (zQ rfl)<|e_pv 2 rfl rfl (zf yc rfl sz3 rfl rfl)<|e_u 3 rfl rfl (ze 0 ty3 rfl rfl (rg_s rgl rgl))<|e_dm 4 rfl rfl rfl<|e_pv 5 rfl rfl (zQ rfl)<|e_pv 6 rfl rfl (zf yc rfl sz22 rfl rfl)<|e_u 7 rfl rfl (ze 0 ty22 rfl rfl rfl)<|e_dm 8 rfl rfl rfl<|e_dm 9 rfl rfl rfl<|e_pv 10 rfl rfl (zQ rfl)<|e_pv 11 rfl rfl (zf yc rfl sz96 rfl rfl)<|e_pv 12 rfl rfl (zfa (i:=v) yd sz3 rfl rfl om)<|e_u 13 rfl rfl (ze 0 ty3 rfl rfl (rg_B rgl rgl om))<|zca (x0:=(l.getD (B.getD v 0) (0,0))) 14 rfl rfl kr kr 0 (B.getD v 0) rfl yb sz30 rfl rfl rfl cbs rfl rfl (gD (d:=(0,0)) om) (fun b1 o2 hok3=> ?_)
 obtain ⟨hok3x,hok3y⟩:=hok3
 replace hok3x:=zD.1 hok3x
 replace hok3y:=zD.1 hok3y
 refine e_u 15 rfl rfl (zJ (j:=0) 0 ty30 rfl rfl rfl (.t2 .nil))<|e_dm 16 rfl rfl rfl<|e_pv 17 rfl rfl (zQ rfl)<|e_pv 18 rfl rfl (zf yc rfl sz22 rfl rfl)<|e_u 19 rfl rfl (ze 0 ty22 rfl rfl rfl)<|e_dm 20 rfl rfl rfl<|zca (x0:=(l.getD v (0,0))) 21 rfl rfl kr kr 1 v rfl yb sz30 rfl rfl rfl cbs rfl rfl (gD (d:=(0,0)) om) (fun b4 o5 hok6=> ?_)
 obtain ⟨hok6x,hok6y⟩:=hok6
 replace hok6x:=zD.1 hok6x
 replace hok6y:=zD.1 hok6y
 refine e_u 22 rfl rfl (zJ (j:=0) 0 ty30 rfl rfl rfl (.t2 .nil))<|e_dm 23 rfl rfl rfl<|e_pv 24 rfl rfl (zQ rfl)<|e_pv 25 rfl rfl (zf yc rfl sz22 rfl rfl)<|e_u 26 rfl rfl (ze 0 ty22 rfl rfl rfl)<|e_dm 27 rfl rfl rfl<|e_dm 28 rfl rfl rfl<|e_pv 29 rfl rfl (zQ rfl)<|e_pv 30 rfl rfl (zf yc rfl sz96 rfl rfl)<|e_pv 31 rfl rfl (zfa (i:=v) yd sz3 rfl rfl om)<|e_u 32 rfl rfl (ze 0 ty3 rfl rfl (rg_N rgl rgl om))<|zca (x0:=(l.getD (N.getD v 0) (0,0))) 33 rfl rfl kr kr 2 (N.getD v 0) rfl yb sz30 rfl rfl rfl cbs rfl rfl (gD (d:=(0,0)) om) (fun b7 o8 hok9=> ?_)
 obtain ⟨hok9x,hok9y⟩:=hok9
 replace hok9x:=zD.1 hok9x
 replace hok9y:=zD.1 hok9y
 refine e_u 34 rfl rfl (zJ (j:=0) 0 ty30 rfl rfl rfl (.t2 .nil))<|e_one 35 (zGa rfl rfl rfl rfl (.c rfl (.c rfl (.c rfl .n))) ce54 (zWa (ex:=(l.getD (B.getD v 0) (0,0)).1) (ey:=(l.getD (B.getD v 0) (0,0)).2) (fx:=(l.getD v (0,0)).1) (fy:=(l.getD v (0,0)).2) (gx:=(l.getD (N.getD v 0) (0,0)).1) (gy:=(l.getD (N.getD v 0) (0,0)).2) (hre:=cbo) (hrf:=cbo) (hrg:=cbo)) (.n) ?_)
 refine e_pv 36 rfl rfl (zFa (z:=(s*(Pg.crs (((l.getD (B.getD v 0) (0,0)).1),((l.getD (B.getD v 0) (0,0)).2)) (((l.getD v (0,0)).1),((l.getD v (0,0)).2)) (((l.getD (N.getD v 0) (0,0)).1),((l.getD (N.getD v 0) (0,0)).2))).sign)) rfl rfl (w64 om))<|e_pv 37 rfl rfl (zc rfl)<|zU kr<|zd<|zI ?_
 exact zu Tryz.results82 () trivial (zk rfl) (congrArg (Value.int .i64) (by unfold Pg.corn Pg.gt;rw [hv,←hvN,←hvB])) (ho:=((.c (i:=0) rfl .n):PickO _ _ _)) (.n:SelR _ _ _)
theorem zpg {b:Nat} {p:Option Addr} {n:Nat} {cap:Nat} {l:List Pg.P2} {B:List Nat} {N:List Nat} {kk:Int} {s:Int} {L:List Nat} {v:Nat} {i:Nat} (hn:l.length=n) (hg:Pg.Rg n L B N) (hrng:∀x∈l,Pg.inR x) (hs:s=1∨s= -1) (hi:i<L.length) (hv:Pg.nt L i=v) (h2:2≤L.length) (hk0:0≤kk∧kk≤64):Con ye 78 [.pointer (some ⟨b,0,none⟩),.int .i64 ((v:Nat):Int)] [boxA b 98 (rgC p n cap B N kk s)] [slF (rI2 .i64) p cap l] (Y:=Unit) (fun y=>True) (fun y=> .tuple #[]) (fun y=>[boxA b 98 (rgC p n cap (Pg.cutB B N v) (Pg.cutN B N v) (kk - 1) s)]) (fun y=>[]):=by
 refine zl Tryz.func78 rfl rfl rfl (fun c=> ?_)
 show RunC _ _ _ _ _ [(0,.pointer (some ⟨b,0,none⟩)),(1,.int .i64 ((v:Nat):Int))] [boxA b 98 (rgC p n cap B N kk s)] [slF (rI2 .i64) p cap l]
 refine zda 0 rfl (fun hL0=> ?_)
 have hLB:=hg.lb
 have hLN:=hg.ln
 have hn64:=hg.n64
 obtain ⟨hvn,hvN,hvB,hvN2,hvB2⟩:=hg.at hi hv
 have hcv:(Pg.cutN B N v).getD v 0=N.getD v 0:=by have h9:=(hg.cut hi hv h2).ln;exact Pg.cutN_v hg hi hv h2
 have hcv2:(N.set (B.getD v 0) (N.getD v 0)).getD v 0=N.getD v 0:=hcv
 have hcv3:(N.set (B.getD v 0) (N.getD v 0)).getD v 0<64:=by omega
 refine zg<|zY (OW:=[boxA b 98 (rgC p n cap B N kk s)]) (O:=[]) 16 mixed (.then .ret) kr<|e_dm 0 rfl rfl rfl<|e_dm 1 rfl rfl rfl<|e_dm 2 rfl rfl rfl<|e_pv 3 rfl rfl (zQ rfl)<|e_pv 4 rfl rfl (zf yc rfl sz96 rfl rfl)<|e_pv 5 rfl rfl (zfa (i:=v) yd sz3 rfl rfl om)<|e_uw 6 rfl rfl (ze 0 ty3 rfl rfl (rg_B rgl rgl om))<|e_dm 7 rfl rfl rfl<|e_dm 8 rfl rfl rfl<|e_pv 9 rfl rfl (zQ rfl)<|e_pv 10 rfl rfl (zf yc rfl sz96 rfl rfl)<|e_pv 11 rfl rfl (zfa (i:=v) yd sz3 rfl rfl om)<|e_uw 12 rfl rfl (ze 0 ty3 rfl rfl (rg_N rgl rgl om))<|e_pv 13 rfl rfl (zQ rfl)<|e_pv 14 rfl rfl (zf yc rfl sz96 rfl rfl)<|e_pv 15 rfl rfl (zfa (i:=(B.getD v 0)) yd sz3 rfl rfl om)<|e_one 16 (zq kr rfl rfl rfl rfl rfl sz3 rfl (rg_setN (x:=(N.getD v 0)) rgl rgl om) ?_)
 refine zU kr<|zd<|zg<|zY (OW:=[boxA b 98 (rgC p n cap B (N.set (B.getD v 0) (N.getD v 0)) kk s)]) (O:=[]) 16 mixed (.then .ret) kr<|e_dm 0 rfl rfl rfl<|e_dm 1 rfl rfl rfl<|e_dm 2 rfl rfl rfl<|e_pv 3 rfl rfl (zQ rfl)<|e_pv 4 rfl rfl (zf yc rfl sz96 rfl rfl)<|e_pv 5 rfl rfl (zfa (i:=v) yd sz3 rfl rfl om)<|e_uw 6 rfl rfl (ze 0 ty3 rfl rfl (rg_N rgl rgl om))<|e_dm 7 rfl rfl rfl<|e_dm 8 rfl rfl rfl<|e_pv 9 rfl rfl (zQ rfl)<|e_pv 10 rfl rfl (zf yc rfl sz96 rfl rfl)<|e_pv 11 rfl rfl (zfa (i:=v) yd sz3 rfl rfl om)<|e_uw 12 rfl rfl (ze 0 ty3 rfl rfl (rg_B rgl rgl om))<|e_pv 13 rfl rfl (zQ rfl)<|e_pv 14 rfl rfl (zf yc rfl sz96 rfl rfl)<|e_pv 15 rfl rfl (zfa (i:=((N.set (B.getD v 0) (N.getD v 0)).getD v 0)) yd sz3 rfl rfl om)<|e_one 16 (zq kr rfl rfl rfl rfl rfl sz3 rfl (rg_setB (x:=(B.getD v 0)) rgl rgl om) ?_)
 refine zU kr<|zd<|za<|e_mv rfl<|e_p (zQ rfl)<|e_p (zf yc rfl sz3 rfl rfl)<|e_ru (ze 0 ty3 rfl rfl (rg_k rgl rgl))<|e_p (zka (z:=(kk - 1)) rfl rfl (w64 om))<|e_p (zQ rfl)<|e_p (zf yc rfl sz3 rfl rfl)<|zm 0 rfl rfl rfl rfl rfl sz3 rfl (rg_setk rgl rgl) .z<|zh<|p_end ?_
 exact p_ret0 Tryz.results78 () trivial rfl (ho:=((.c (i:=0) rfl .n):PickO _ _ _)) (.n:SelR _ _ _)
theorem zqg {b:Nat} {p:Option Addr} {n:Nat} {cap:Nat} {l:List Pg.P2} {B:List Nat} {N:List Nat} {kk:Int} {s:Int} {L:List Nat} {v:Nat} {i:Nat} (hn:l.length=n) (hg:Pg.Rg n L B N) (hrng:∀x∈l,Pg.inR x) (hs:s=1∨s= -1) (hi:i<L.length) (hv:Pg.nt L i=v) (h3:3≤L.length):Con ye 77 [.pointer (some ⟨b,0,none⟩),.int .i64 ((v:Nat):Int)] [boxA b 98 (rgC p n cap B N kk s)] [slF (rI2 .i64) p cap l] (Y:=Unit) (fun y=>True) (fun y=> .bool (decide (Pg.earI l s L i))) (fun y=>[boxA b 98 (rgC p n cap B N kk s)]) (fun y=>[]):=by
 refine zl Tryz.func77 rfl rfl rfl (fun c=> ?_)
 show RunC _ _ _ _ _ [(0,.pointer (some ⟨b,0,none⟩)),(1,.int .i64 ((v:Nat):Int))] [boxA b 98 (rgC p n cap B N kk s)] [slF (rI2 .i64) p cap l]
 refine zda 0 rfl (fun hL0=> ?_)
 have hLB:=hg.lb
 have hLN:=hg.ln
 have hn64:=hg.n64
 obtain ⟨hvn,hvN,hvB,hvN2,hvB2⟩:=hg.at hi hv
 have hq0:Pg.inR (l.getD (B.getD v 0) (0,0)):=Pg.Ok.gt hrng om
 have hq1:Pg.inR (l.getD v (0,0)):=Pg.Ok.gt hrng om
 have hq2:Pg.inR (l.getD (N.getD v 0) (0,0)):=Pg.Ok.gt hrng om
 have hin3:∀t,Pg.in3I l s L i t↔Pg.in3 s (l.getD (B.getD v 0) (0,0)) (l.getD v (0,0)) (l.getD (N.getD v 0) (0,0)) (l.getD (Pg.nt L ((i+2+t)%L.length)) (0,0)):=fun t=>by unfold Pg.in3I Pg.gt;rw [hv,←hvN,←hvB]
 refine zg<|za<|e_p (zc rfl)<|zh<|zd<|zg<|zg<|za<|e_mv rfl<|e_mv rfl<|zqc (A:=[boxA b 98 (rgC p n cap B N kk s)]) (F:=[]) (first:=[]) (cap:=[]) rfl rfl rfl (.c rfl (.c rfl .n)) ce82 (zFe (b:=b) (p:=p) (n:=n) (cap:=cap) (l:=l) (B:=B) (N:=N) (kk:=kk) (s:=s) (L:=L) (v:=v) (i:=i) (hn:=ass) (hg:=ass) (hrng:=ass) (hs:=ass) (hi:=ass) (hv:=ass)) (.c (j:=0) rfl .n) ?_
 rintro ⟨⟩ -
 dsimp only [aq,nq,cq]
 refine e_p (zKa rfl rfl)<|zh<|zd<|zG rfl (fun hco=> ?_) (fun hco=> ?_)
 ·
  refine zg<|za<|e_p (zc rfl)<|zh<|zd<|zI<|zi ?_
  exact zu Tryz.results77 () trivial (zk rfl) (congrArg Value.bool (decide_eq_false (fun h=>by have:=h.1;omega))) (ho:=((.c (i:=0) rfl .n):PickO _ _ _)) (.n:SelR _ _ _)
 ·
  refine zw<|zd<|zg<|zY (OW:=[]) (O:=[boxA b 98 (rgC p n cap B N kk s)]) 34 mixed (.then .ret) kr<|e_dm 0 rfl rfl rfl<|e_pv 1 rfl rfl (zQ rfl)<|e_pv 2 rfl rfl (zf yc rfl sz22 rfl rfl)<|e_u 3 rfl rfl (ze 0 ty22 rfl rfl rfl)<|e_dm 4 rfl rfl rfl<|e_dm 5 rfl rfl rfl<|e_pv 6 rfl rfl (zQ rfl)<|e_pv 7 rfl rfl (zf yc rfl sz96 rfl rfl)<|e_pv 8 rfl rfl (zfa (i:=v) yd sz3 rfl rfl om)<|e_u 9 rfl rfl (ze 0 ty3 rfl rfl (rg_B rgl rgl om))<|zca (x0:=(l.getD (B.getD v 0) (0,0))) 10 rfl rfl kr kr 0 (B.getD v 0) rfl yb sz30 rfl rfl rfl cbs rfl rfl (gD (d:=(0,0)) om) (fun b1 o2 hok3=> ?_)
  obtain ⟨hok3x,hok3y⟩:=hok3
  replace hok3x:=zD.1 hok3x
  replace hok3y:=zD.1 hok3y
  refine e_u 11 rfl rfl (zJ (j:=0) 0 ty30 rfl rfl rfl (.t2 .nil))<|e_dm 12 rfl rfl rfl<|e_pv 13 rfl rfl (zQ rfl)<|e_pv 14 rfl rfl (zf yc rfl sz22 rfl rfl)<|e_u 15 rfl rfl (ze 0 ty22 rfl rfl rfl)<|e_dm 16 rfl rfl rfl<|zca (x0:=(l.getD v (0,0))) 17 rfl rfl kr kr 1 v rfl yb sz30 rfl rfl rfl cbs rfl rfl (gD (d:=(0,0)) om) (fun b4 o5 hok6=> ?_)
  obtain ⟨hok6x,hok6y⟩:=hok6
  replace hok6x:=zD.1 hok6x
  replace hok6y:=zD.1 hok6y
  refine e_u 18 rfl rfl (zJ (j:=0) 0 ty30 rfl rfl rfl (.t2 .nil))<|e_dm 19 rfl rfl rfl<|e_pv 20 rfl rfl (zQ rfl)<|e_pv 21 rfl rfl (zf yc rfl sz22 rfl rfl)<|e_u 22 rfl rfl (ze 0 ty22 rfl rfl rfl)<|e_dm 23 rfl rfl rfl<|e_dm 24 rfl rfl rfl<|e_pv 25 rfl rfl (zQ rfl)<|e_pv 26 rfl rfl (zf yc rfl sz96 rfl rfl)<|e_pv 27 rfl rfl (zfa (i:=v) yd sz3 rfl rfl om)<|e_u 28 rfl rfl (ze 0 ty3 rfl rfl (rg_N rgl rgl om))<|zca (x0:=(l.getD (N.getD v 0) (0,0))) 29 rfl rfl kr kr 2 (N.getD v 0) rfl yb sz30 rfl rfl rfl cbs rfl rfl (gD (d:=(0,0)) om) (fun b7 o8 hok9=> ?_)
  obtain ⟨hok9x,hok9y⟩:=hok9
  replace hok9x:=zD.1 hok9x
  replace hok9y:=zD.1 hok9y
  refine e_u 30 rfl rfl (zJ (j:=0) 0 ty30 rfl rfl rfl (.t2 .nil))<|zNc (m':=[(44,.agg #[.int .i64 ((l.getD (N.getD v 0) (0,0)).1),.int .i64 ((l.getD (N.getD v 0) (0,0)).2)]),(32,.agg #[.int .i64 ((l.getD v (0,0)).1),.int .i64 ((l.getD v (0,0)).2)]),(25,.agg #[.int .i64 ((l.getD (B.getD v 0) (0,0)).1),.int .i64 ((l.getD (B.getD v 0) (0,0)).2)]),(4,.bool false),(0,.pointer (some ⟨b,0,none⟩)),(1,.int .i64 ((v:Nat):Int))]) (R':=[slF (rI2 .i64) p cap l]) ((.of rfl):SubM _ _) (List.Perm.refl _) (List.Perm.refl _) ((.c (j:=3) rfl .n):SelR _ _ _) ?_
  obtain ⟨qd1,hqd1⟩:∃z:Int,z=(l.getD (N.getD v 0) (0,0)).1:=⟨_,rfl⟩
  rw [← hqd1]
  obtain ⟨qd2,hqd2⟩:∃z:Int,z=(l.getD (N.getD v 0) (0,0)).2:=⟨_,rfl⟩
  rw [← hqd2]
  obtain ⟨qd3,hqd3⟩:∃z:Int,z=(l.getD (B.getD v 0) (0,0)).1:=⟨_,rfl⟩
  rw [← hqd3]
  obtain ⟨qd4,hqd4⟩:∃z:Int,z=(l.getD (B.getD v 0) (0,0)).2:=⟨_,rfl⟩
  rw [← hqd4]
  refine zoa (X:=Nat×Nat×Nat) (k':=0) (L':=(lb 37 137438953471)) (fun (u31_1,u32_1,u33_1)=>([(7,.pointer (some ⟨u33_1,0,none⟩)),(6,.pointer (some ⟨u32_1,0,none⟩)),(5,.pointer (some ⟨u31_1,0,none⟩)),(4,.bool false),(0,.pointer (some ⟨b,0,none⟩)),(1,.int .i64 ((v:Nat):Int))],[boxA u33_1 30 [.int .i64 qd1,.int .i64 qd2],boxA u32_1 30 [.int .i64 ((l.getD v (0,0)).1),.int .i64 ((l.getD v (0,0)).2)],boxA u31_1 30 [.int .i64 qd3,.int .i64 qd4]],[boxA b 98 (rgC p n cap B N kk s)],[slF (rI2 .i64) p cap l])) ?_ (fun hD0=> ?_)
  ·
   rintro ⟨u31_1,u32_1,u33_1⟩
   dsimp only
   refine zU kr ?_
   subst hqd1 hqd2 hqd3 hqd4
   refine zd<|zg<|zg<|zY (OW:=[]) (O:=[boxA u33_1 30 [.int .i64 ((l.getD (N.getD v 0) (0,0)).1),.int .i64 ((l.getD (N.getD v 0) (0,0)).2)],boxA u32_1 30 [.int .i64 ((l.getD v (0,0)).1),.int .i64 ((l.getD v (0,0)).2)],boxA u31_1 30 [.int .i64 ((l.getD (B.getD v 0) (0,0)).1),.int .i64 ((l.getD (B.getD v 0) (0,0)).2)],boxA b 98 (rgC p n cap B N kk s)]) 100000 mixed (.then (.then .ret)) kr<|e_dm 0 rfl rfl rfl<|e_dm 1 rfl rfl rfl<|e_dm 2 rfl rfl rfl<|e_pv 3 rfl rfl (zQ rfl)<|e_pv 4 rfl rfl (zf yc rfl sz96 rfl rfl)<|e_pv 5 rfl rfl (zfa (i:=v) yd sz3 rfl rfl om)<|e_u 6 rfl rfl (ze 3 ty3 rfl rfl (rg_N rgl rgl om))<|e_pv 7 rfl rfl (zQ rfl)<|e_pv 8 rfl rfl (zf yc rfl sz96 rfl rfl)<|e_pv 9 rfl rfl (zfa (i:=(N.getD v 0)) yd sz3 rfl rfl om)<|e_u 10 rfl rfl (ze 3 ty3 rfl rfl (rg_N rgl rgl om))<|e_pv 11 rfl rfl (zc rfl)<|zU kr<|zd<|zA<|zpa (X:=Nat) (fun x:Nat=>x≤L.length - 3∧∀u,u<x→¬Pg.in3I l s L i u) (fun x=>[(8,.int .i64 (((Pg.nt L ((i+2+x)%L.length)):Nat):Int)),(7,.pointer (some ⟨u33_1,0,none⟩)),(6,.pointer (some ⟨u32_1,0,none⟩)),(5,.pointer (some ⟨u31_1,0,none⟩)),(0,.pointer (some ⟨b,0,none⟩)),(1,.int .i64 ((v:Nat):Int))]) (fun x=>[boxA u33_1 30 [.int .i64 ((l.getD (N.getD v 0) (0,0)).1),.int .i64 ((l.getD (N.getD v 0) (0,0)).2)],boxA u32_1 30 [.int .i64 ((l.getD v (0,0)).1),.int .i64 ((l.getD v (0,0)).2)],boxA u31_1 30 [.int .i64 ((l.getD (B.getD v 0) (0,0)).1),.int .i64 ((l.getD (B.getD v 0) (0,0)).2)],boxA b 98 (rgC p n cap B N kk s)]) (fun x=>[slF (rI2 .i64) p cap l]) (fun x:Nat=>L.length - 3 - x) 0 (show 0≤L.length - 3∧∀u,u<0→¬Pg.in3I l s L i u from by exact ⟨Nat.zero_le _,fun u h=>by omega⟩) ((.e rfl (by rw [hg.nx2 hi hv]) (.of rfl)):SubM _ _) (ho:=((.of [0,0,0,0] rfl):PickO _ _ _)) ((.c (j:=0) rfl .n):SelR _ _ _) ?_
   rintro t hI
   replace hI:t≤L.length - 3∧∀u,u<t→¬Pg.in3I l s L i u:=hI
   try dsimp only
   obtain ⟨ht,hall⟩:=hI
   refine zg<|zg<|za<|e_mv rfl<|e_mv rfl<|e_mv rfl<|e_p (zQ rfl)<|e_p (zf yc rfl sz96 rfl rfl)<|e_p (zfa (i:=v) yd sz3 rfl rfl om)<|e_ru (ze 3 ty3 rfl rfl (rg_B rgl rgl om))<|e_p (zdb rfl rfl)<|zh<|zd<|zG rfl (fun hst=> ?_) (fun hst=> ?_)
   ·
    have htl:t<L.length - 3:=by have h9:=Pg.stop_iff hg hi h3 ht;rw [← hvB] at h9;omega
    have hws:=hg.lt _ (Nat.mod_lt (i+2+t) (show 0<L.length by omega))
    have hwr:Pg.inR (l.getD (Pg.nt L ((i+2+t)%L.length)) (0,0)):=Pg.Ok.gt hrng om
    have hsm0:=Pg.s_mul (z:=Pg.crs ((l.getD (B.getD v 0) (0,0)).1,(l.getD (B.getD v 0) (0,0)).2) ((l.getD v (0,0)).1,(l.getD v (0,0)).2) ((l.getD (Pg.nt L ((i+2+t)%L.length)) (0,0)).1,(l.getD (Pg.nt L ((i+2+t)%L.length)) (0,0)).2)) hs
    have hsm1:=Pg.s_mul (z:=Pg.crs ((l.getD v (0,0)).1,(l.getD v (0,0)).2) ((l.getD (N.getD v 0) (0,0)).1,(l.getD (N.getD v 0) (0,0)).2) ((l.getD (Pg.nt L ((i+2+t)%L.length)) (0,0)).1,(l.getD (Pg.nt L ((i+2+t)%L.length)) (0,0)).2)) hs
    have hsm2:=Pg.s_mul (z:=Pg.crs ((l.getD (N.getD v 0) (0,0)).1,(l.getD (N.getD v 0) (0,0)).2) ((l.getD (B.getD v 0) (0,0)).1,(l.getD (B.getD v 0) (0,0)).2) ((l.getD (Pg.nt L ((i+2+t)%L.length)) (0,0)).1,(l.getD (Pg.nt L ((i+2+t)%L.length)) (0,0)).2)) hs
    refine zw<|zd<|zg<|zA<|zg<|za<|e_mv rfl<|e_p (zQ rfl)<|e_p (zf yc rfl sz22 rfl rfl)<|e_ru (ze 3 ty22 rfl rfl rfl)<|e_mv rfl<|zZ (x0:=(l.getD (Pg.nt L ((i+2+t)%L.length)) (0,0))) 0 (Pg.nt L ((i+2+t)%L.length)) rfl yb sz30 rfl rfl rfl cbs rfl rfl (gD (d:=(0,0)) om) (fun b10 o11 hok12=> ?_)
    obtain ⟨hok12x,hok12y⟩:=hok12
    replace hok12x:=zD.1 hok12x
    replace hok12y:=zD.1 hok12y
    refine e_ru (zJ (j:=0) 0 ty30 rfl rfl rfl (.t2 .nil))<|zM rfl rfl (zo zr30 rfl) (fun b13=> ?_)
    refine zm 0 rfl rfl rfl rfl rfl sz30 rfl (.t2 .nil) .z<|zh<|zd<|zHa (X:=Unit) (fun x=>True) (fun x=>[(110,.bool (decide (((0≤(s*(Pg.crs (((l.getD (B.getD v 0) (0,0)).1),((l.getD (B.getD v 0) (0,0)).2)) (((l.getD v (0,0)).1),((l.getD v (0,0)).2)) (((l.getD (Pg.nt L ((i+2+t)%L.length)) (0,0)).1),((l.getD (Pg.nt L ((i+2+t)%L.length)) (0,0)).2))).sign))∧(0≤(s*(Pg.crs (((l.getD v (0,0)).1),((l.getD v (0,0)).2)) (((l.getD (N.getD v 0) (0,0)).1),((l.getD (N.getD v 0) (0,0)).2)) (((l.getD (Pg.nt L ((i+2+t)%L.length)) (0,0)).1),((l.getD (Pg.nt L ((i+2+t)%L.length)) (0,0)).2))).sign)))∧(0≤(s*(Pg.crs (((l.getD (N.getD v 0) (0,0)).1),((l.getD (N.getD v 0) (0,0)).2)) (((l.getD (B.getD v 0) (0,0)).1),((l.getD (B.getD v 0) (0,0)).2)) (((l.getD (Pg.nt L ((i+2+t)%L.length)) (0,0)).1),((l.getD (Pg.nt L ((i+2+t)%L.length)) (0,0)).2))).sign))))),(8,.int .i64 (((Pg.nt L ((i+2+t)%L.length)):Nat):Int)),(7,.pointer (some ⟨u33_1,0,none⟩)),(6,.pointer (some ⟨u32_1,0,none⟩)),(5,.pointer (some ⟨u31_1,0,none⟩)),(0,.pointer (some ⟨b,0,none⟩)),(1,.int .i64 ((v:Nat):Int))]) (fun x=>[boxA b13 30 [.int .i64 ((l.getD (Pg.nt L ((i+2+t)%L.length)) (0,0)).1),.int .i64 ((l.getD (Pg.nt L ((i+2+t)%L.length)) (0,0)).2)],boxA u33_1 30 [.int .i64 ((l.getD (N.getD v 0) (0,0)).1),.int .i64 ((l.getD (N.getD v 0) (0,0)).2)],boxA u32_1 30 [.int .i64 ((l.getD v (0,0)).1),.int .i64 ((l.getD v (0,0)).2)],boxA u31_1 30 [.int .i64 ((l.getD (B.getD v 0) (0,0)).1),.int .i64 ((l.getD (B.getD v 0) (0,0)).2)],boxA b 98 (rgC p n cap B N kk s)]) (fun x=>[atF b10 o11 [.int .i64 ((l.getD (Pg.nt L ((i+2+t)%L.length)) (0,0)).1),.int .i64 ((l.getD (Pg.nt L ((i+2+t)%L.length)) (0,0)).2)],slF (rI2 .i64) p cap l]) ?_ ?_
    ·
     refine zY (OW:=[]) (O:=[boxA b13 30 [.int .i64 ((l.getD (Pg.nt L ((i+2+t)%L.length)) (0,0)).1),.int .i64 ((l.getD (Pg.nt L ((i+2+t)%L.length)) (0,0)).2)],boxA u33_1 30 [.int .i64 ((l.getD (N.getD v 0) (0,0)).1),.int .i64 ((l.getD (N.getD v 0) (0,0)).2)],boxA u32_1 30 [.int .i64 ((l.getD v (0,0)).1),.int .i64 ((l.getD v (0,0)).2)],boxA u31_1 30 [.int .i64 ((l.getD (B.getD v 0) (0,0)).1),.int .i64 ((l.getD (B.getD v 0) (0,0)).2)],boxA b 98 (rgC p n cap B N kk s)]) 100000 mixed (.then (.block (.then (.then (.block (.then .ret)))))) kr<|e_dm 0 rfl rfl rfl<|e_pv 1 rfl rfl (zQ rfl)<|e_pv 2 rfl rfl (zf yc rfl sz3 rfl rfl)<|e_u 3 rfl rfl (ze 4 ty3 rfl rfl (rg_s rgl rgl))<|e_u 4 rfl rfl (zb 3 ty30 rfl rfl (.t2 .nil))<|e_u 5 rfl rfl (zb 2 ty30 rfl rfl (.t2 .nil))<|e_u 6 rfl rfl (zb 0 ty30 rfl rfl (.t2 .nil))<|e_one 7 (zGa rfl rfl rfl rfl (.c rfl (.c rfl (.c rfl .n))) ce54 (zWa (ex:=((l.getD (B.getD v 0) (0,0)).1)) (ey:=((l.getD (B.getD v 0) (0,0)).2)) (fx:=(l.getD v (0,0)).1) (fy:=(l.getD v (0,0)).2) (gx:=(l.getD (Pg.nt L ((i+2+t)%L.length)) (0,0)).1) (gy:=(l.getD (Pg.nt L ((i+2+t)%L.length)) (0,0)).2) (hre:=cbo) (hrf:=cbo) (hrg:=cbo)) (.n) ?_)
     refine e_pv 8 rfl rfl (zFa (z:=(s*(Pg.crs (((l.getD (B.getD v 0) (0,0)).1),((l.getD (B.getD v 0) (0,0)).2)) (((l.getD v (0,0)).1),((l.getD v (0,0)).2)) (((l.getD (Pg.nt L ((i+2+t)%L.length)) (0,0)).1),((l.getD (Pg.nt L ((i+2+t)%L.length)) (0,0)).2))).sign)) rfl rfl (w64 om))<|e_pv 9 rfl rfl (zBa rfl rfl)<|zPb 10 rfl rfl kr kr rfl rfl (zW rfl) (fun h14=> ?_) (fun h14=> ?_)
     ·
      refine e_dm 11 rfl rfl rfl<|e_pv 12 rfl rfl (zQ rfl)<|e_pv 13 rfl rfl (zf yc rfl sz3 rfl rfl)<|e_u 14 rfl rfl (ze 4 ty3 rfl rfl (rg_s rgl rgl))<|e_u 15 rfl rfl (zb 2 ty30 rfl rfl (.t2 .nil))<|e_u 16 rfl rfl (zb 1 ty30 rfl rfl (.t2 .nil))<|e_u 17 rfl rfl (zb 0 ty30 rfl rfl (.t2 .nil))<|e_one 18 (zGa rfl rfl rfl rfl (.c rfl (.c rfl (.c rfl .n))) ce54 (zWa (ex:=(l.getD v (0,0)).1) (ey:=(l.getD v (0,0)).2) (fx:=((l.getD (N.getD v 0) (0,0)).1)) (fy:=((l.getD (N.getD v 0) (0,0)).2)) (gx:=(l.getD (Pg.nt L ((i+2+t)%L.length)) (0,0)).1) (gy:=(l.getD (Pg.nt L ((i+2+t)%L.length)) (0,0)).2) (hre:=cbo) (hrf:=cbo) (hrg:=cbo)) (.n) ?_)
      refine e_pv 19 rfl rfl (zFa (z:=(s*(Pg.crs (((l.getD v (0,0)).1),((l.getD v (0,0)).2)) (((l.getD (N.getD v 0) (0,0)).1),((l.getD (N.getD v 0) (0,0)).2)) (((l.getD (Pg.nt L ((i+2+t)%L.length)) (0,0)).1),((l.getD (Pg.nt L ((i+2+t)%L.length)) (0,0)).2))).sign)) rfl rfl (w64 om))<|e_pv 20 rfl rfl (zBa rfl rfl)<|e_pv 21 rfl rfl (zn rfl rfl)<|zPb 22 rfl rfl kr kr rfl rfl (zW rfl) (fun h15=> ?_) (fun h15=> ?_)
      ·
       refine e_dm 23 rfl rfl rfl<|e_pv 24 rfl rfl (zQ rfl)<|e_pv 25 rfl rfl (zf yc rfl sz3 rfl rfl)<|e_u 26 rfl rfl (ze 4 ty3 rfl rfl (rg_s rgl rgl))<|e_u 27 rfl rfl (zb 1 ty30 rfl rfl (.t2 .nil))<|e_u 28 rfl rfl (zb 3 ty30 rfl rfl (.t2 .nil))<|e_u 29 rfl rfl (zb 0 ty30 rfl rfl (.t2 .nil))<|e_one 30 (zGa rfl rfl rfl rfl (.c rfl (.c rfl (.c rfl .n))) ce54 (zWa (ex:=((l.getD (N.getD v 0) (0,0)).1)) (ey:=((l.getD (N.getD v 0) (0,0)).2)) (fx:=((l.getD (B.getD v 0) (0,0)).1)) (fy:=((l.getD (B.getD v 0) (0,0)).2)) (gx:=(l.getD (Pg.nt L ((i+2+t)%L.length)) (0,0)).1) (gy:=(l.getD (Pg.nt L ((i+2+t)%L.length)) (0,0)).2) (hre:=cbo) (hrf:=cbo) (hrg:=cbo)) (.n) ?_)
       refine e_pv 31 rfl rfl (zFa (z:=(s*(Pg.crs (((l.getD (N.getD v 0) (0,0)).1),((l.getD (N.getD v 0) (0,0)).2)) (((l.getD (B.getD v 0) (0,0)).1),((l.getD (B.getD v 0) (0,0)).2)) (((l.getD (Pg.nt L ((i+2+t)%L.length)) (0,0)).1),((l.getD (Pg.nt L ((i+2+t)%L.length)) (0,0)).2))).sign)) rfl rfl (w64 om))<|e_pv 32 rfl rfl (zBa rfl rfl)<|e_pv 33 rfl rfl (zn rfl rfl)<|zU kr ?_
       exact zga () (show True from by first|trivial|omega|simp_all) ((.e rfl (congrArg Value.bool cbu) (.of rfl)):SubM _ _) (ho:=((.of [0,0,0,0,0] rfl):PickO _ _ _)) ((.of [0,1] rfl):SelR _ _ _)
      ·
       refine e_skip 23 rfl rfl<|e_skip 24 rfl rfl<|e_skip 25 rfl rfl<|e_skip 26 rfl rfl<|e_skip 27 rfl rfl<|e_skip 28 rfl rfl<|e_skip 29 rfl rfl<|e_skip 30 rfl rfl<|e_skip 31 rfl rfl<|e_skip 32 rfl rfl<|e_pv 33 rfl rfl (zn rfl rfl)<|zU kr ?_
       exact zga () (show True from by first|trivial|omega|simp_all) ((.e rfl (congrArg Value.bool cbu) (.of rfl)):SubM _ _) (ho:=((.of [0,0,0,0,0] rfl):PickO _ _ _)) ((.of [0,1] rfl):SelR _ _ _)
     ·
      refine e_skip 11 rfl rfl<|e_skip 12 rfl rfl<|e_skip 13 rfl rfl<|e_skip 14 rfl rfl<|e_skip 15 rfl rfl<|e_skip 16 rfl rfl<|e_skip 17 rfl rfl<|e_skip 18 rfl rfl<|e_skip 19 rfl rfl<|e_skip 20 rfl rfl<|e_pv 21 rfl rfl (zn rfl rfl)<|e_dm 22 rfl rfl rfl<|e_skip 23 rfl rfl<|e_skip 24 rfl rfl<|e_skip 25 rfl rfl<|e_skip 26 rfl rfl<|e_skip 27 rfl rfl<|e_skip 28 rfl rfl<|e_skip 29 rfl rfl<|e_skip 30 rfl rfl<|e_skip 31 rfl rfl<|e_skip 32 rfl rfl<|e_pv 33 rfl rfl (zn rfl rfl)<|zU kr ?_
      exact zga () (show True from by first|trivial|omega|simp_all) ((.e rfl (congrArg Value.bool cbu) (.of rfl)):SubM _ _) (ho:=((.of [0,0,0,0,0] rfl):PickO _ _ _)) ((.of [0,1] rfl):SelR _ _ _)
    ·
     rintro ⟨⟩ -
     try dsimp only
     refine zG rfl (fun hin=> ?_) (fun hin=> ?_)
     ·
      refine zg<|za<|e_p (zc rfl)<|zh<|zd<|zI<|zp<|zi<|zi<|zp<|zi ?_
      exact zu Tryz.results77 () trivial (zk rfl) (congrArg Value.bool (decide_eq_false (fun h=>h.2 t htl ((hin3 t).2 ⟨hin.1.1,hin.1.2,hin.2⟩)))) (ho:=((.c (i:=4) rfl .n):PickO _ _ _)) (.n:SelR _ _ _)
     ·
      refine zw<|zO<|zd<|za<|e_mv rfl<|e_mv rfl<|e_p (zQ rfl)<|e_p (zf yc rfl sz96 rfl rfl)<|e_p (zfa (i:=(Pg.nt L ((i+2+t)%L.length))) yd sz3 rfl rfl om)<|e_ru (ze 4 ty3 rfl rfl (rg_N rgl rgl om))<|e_p (zc rfl)<|zh<|zha (t+1) (show (t+1)≤L.length - 3∧∀u,u<(t+1)→¬Pg.in3I l s L i u from by exact ⟨htl,Ms.all_lt_succ hall (fun h=>hin (by have h9:=(hin3 t).1 h;exact ⟨⟨h9.1,h9.2.1⟩,h9.2.2⟩))⟩) (by show L.length - 3 - (t+1)<L.length - 3 - t;omega) ((.e rfl (by rw [hg.nxm _ om];rfl) (.of rfl)):SubM _ _) (ho:=((.of [1,1,1,1] rfl):PickO _ _ _)) ((.c (j:=1) rfl .n):SelR _ _ _)
   ·
    have hte:t=L.length - 3:=by have h9:=Pg.stop_iff hg hi h3 ht;rw [← hvB] at h9;omega
    refine zna<|zj<|zj<|zy<|zd<|zg<|za<|e_p (zc rfl)<|zh<|zd<|zI ?_
    exact zu Tryz.results77 () trivial (zk rfl) (congrArg Value.bool (decide_eq_true ⟨by omega,fun u hu=>hall u om⟩)) (ho:=((.c (i:=3) rfl .n):PickO _ _ _)) (.n:SelR _ _ _)
  refine zoa (X:=Nat×Nat×Nat) (k':=1) (L':=(lb 37 68719476735)) (fun (u31_1,u32_1,u33_1)=>([(7,.pointer (some ⟨u33_1,0,none⟩)),(6,.pointer (some ⟨u32_1,0,none⟩)),(5,.pointer (some ⟨u31_1,0,none⟩)),(44,.agg #[.int .i64 qd1,.int .i64 qd2]),(4,.bool false),(0,.pointer (some ⟨b,0,none⟩)),(1,.int .i64 ((v:Nat):Int))],[boxA u32_1 30 [.int .i64 ((l.getD v (0,0)).1),.int .i64 ((l.getD v (0,0)).2)],boxA u31_1 30 [.int .i64 qd3,.int .i64 qd4],boxA u33_1 30 [.int .i64 0,.int .i64 0]],[boxA b 98 (rgC p n cap B N kk s)],[slF (rI2 .i64) p cap l])) ?_ (fun hD1=> ?_)
  ·
   rintro ⟨u31_1,u32_1,u33_1⟩
   dsimp only
   refine zSa 36 kr ?_
   ·
    refine zpb (zaa (i:=2) rfl)<|zq kr rfl rfl rfl rfl rfl sz30 rfl (.t2 .nil) ?_
    exact zP (hD0 (u31_1,u32_1,u33_1)) kr ((.of rfl):SubM _ _) .rfl .rfl ((.c (j:=0) rfl .n):SelR _ _ _)
  refine zoa (X:=Nat×Nat×Nat) (k':=2) (L':=(lb 37 34359738367)) (fun (u31_1,u32_1,u33_1)=>([(7,.pointer (some ⟨u33_1,0,none⟩)),(6,.pointer (some ⟨u32_1,0,none⟩)),(5,.pointer (some ⟨u31_1,0,none⟩)),(44,.agg #[.int .i64 qd1,.int .i64 qd2]),(32,.agg #[.int .i64 ((l.getD v (0,0)).1),.int .i64 ((l.getD v (0,0)).2)]),(4,.bool false),(0,.pointer (some ⟨b,0,none⟩)),(1,.int .i64 ((v:Nat):Int))],[boxA u31_1 30 [.int .i64 qd3,.int .i64 qd4],boxA u33_1 30 [.int .i64 0,.int .i64 0],boxA u32_1 30 [.int .i64 0,.int .i64 0]],[boxA b 98 (rgC p n cap B N kk s)],[slF (rI2 .i64) p cap l])) ?_ (fun hD2=> ?_)
  ·
   rintro ⟨u31_1,u32_1,u33_1⟩
   dsimp only
   refine zSa 35 kr ?_
   ·
    refine zpb (zaa (i:=2) rfl)<|zq kr rfl rfl rfl rfl rfl sz30 rfl (.t2 .nil) ?_
    exact zP (hD1 (u31_1,u32_1,u33_1)) kr ((.of rfl):SubM _ _) .rfl .rfl ((.c (j:=0) rfl .n):SelR _ _ _)
  refine zoa (X:=Nat×Nat×Nat) (k':=3) (L':=(lb 37 17179869183)) (fun (u31_1,u32_1,u33_1)=>([(7,.pointer (some ⟨u33_1,0,none⟩)),(6,.pointer (some ⟨u32_1,0,none⟩)),(5,.pointer (some ⟨u31_1,0,none⟩)),(44,.agg #[.int .i64 qd1,.int .i64 qd2]),(32,.agg #[.int .i64 ((l.getD v (0,0)).1),.int .i64 ((l.getD v (0,0)).2)]),(25,.agg #[.int .i64 qd3,.int .i64 qd4]),(4,.bool false),(0,.pointer (some ⟨b,0,none⟩)),(1,.int .i64 ((v:Nat):Int))],[boxA u33_1 30 [.int .i64 0,.int .i64 0],boxA u32_1 30 [.int .i64 0,.int .i64 0],boxA u31_1 30 [.int .i64 0,.int .i64 0]],[boxA b 98 (rgC p n cap B N kk s)],[slF (rI2 .i64) p cap l])) ?_ (fun hD3=> ?_)
  ·
   rintro ⟨u31_1,u32_1,u33_1⟩
   dsimp only
   refine zSa 34 kr ?_
   ·
    refine zpb (zaa (i:=2) rfl)<|zq kr rfl rfl rfl rfl rfl sz30 rfl (.t2 .nil) ?_
    exact zP (hD2 (u31_1,u32_1,u33_1)) kr ((.of rfl):SubM _ _) .rfl .rfl ((.c (j:=0) rfl .n):SelR _ _ _)
  refine zoa (X:=Nat×Nat) (k':=4) (L':=(lb 37 8589934591)) (fun (u31_1,u32_1)=>([(6,.pointer (some ⟨u32_1,0,none⟩)),(5,.pointer (some ⟨u31_1,0,none⟩)),(44,.agg #[.int .i64 qd1,.int .i64 qd2]),(32,.agg #[.int .i64 ((l.getD v (0,0)).1),.int .i64 ((l.getD v (0,0)).2)]),(25,.agg #[.int .i64 qd3,.int .i64 qd4]),(4,.bool false),(0,.pointer (some ⟨b,0,none⟩)),(1,.int .i64 ((v:Nat):Int))],[boxA u32_1 30 [.int .i64 0,.int .i64 0],boxA u31_1 30 [.int .i64 0,.int .i64 0]],[boxA b 98 (rgC p n cap B N kk s)],[slF (rI2 .i64) p cap l])) ?_ (fun hD4=> ?_)
  ·
   rintro ⟨u31_1,u32_1⟩
   dsimp only
   refine zSa 33 kr ?_
   ·
    refine zma rfl rfl rfl rfl (zo zr30 rfl) (fun u33_1 _=> ?_)
    exact zP (hD3 (u31_1,u32_1,u33_1)) kr ((.of rfl):SubM _ _) .rfl .rfl ((.c (j:=0) rfl .n):SelR _ _ _)
  refine zoa (X:=Nat×Nat) (k':=4) (L':=(lb 37 12884901887)) (fun (u31_1,u33_1)=>([(7,.pointer (some ⟨u33_1,0,none⟩)),(5,.pointer (some ⟨u31_1,0,none⟩)),(44,.agg #[.int .i64 qd1,.int .i64 qd2]),(32,.agg #[.int .i64 ((l.getD v (0,0)).1),.int .i64 ((l.getD v (0,0)).2)]),(25,.agg #[.int .i64 qd3,.int .i64 qd4]),(4,.bool false),(0,.pointer (some ⟨b,0,none⟩)),(1,.int .i64 ((v:Nat):Int))],[boxA u33_1 30 [.int .i64 0,.int .i64 0],boxA u31_1 30 [.int .i64 0,.int .i64 0]],[boxA b 98 (rgC p n cap B N kk s)],[slF (rI2 .i64) p cap l])) ?_ (fun hD5=> ?_)
  ·
   rintro ⟨u31_1,u33_1⟩
   dsimp only
   refine zSa 32 kr ?_
   ·
    refine zma rfl rfl rfl rfl (zo zr30 rfl) (fun u32_1 _=> ?_)
    exact zP (hD3 (u31_1,u32_1,u33_1)) kr ((.of rfl):SubM _ _) (zra 1 rfl (zra 0 rfl (zra 0 rfl .nil))) .rfl ((.c (j:=0) rfl .n):SelR _ _ _)
  refine zoa (X:=Nat×Nat) (k':=4) (L':=(lb 37 15032385535)) (fun (u32_1,u33_1)=>([(7,.pointer (some ⟨u33_1,0,none⟩)),(6,.pointer (some ⟨u32_1,0,none⟩)),(44,.agg #[.int .i64 qd1,.int .i64 qd2]),(32,.agg #[.int .i64 ((l.getD v (0,0)).1),.int .i64 ((l.getD v (0,0)).2)]),(25,.agg #[.int .i64 qd3,.int .i64 qd4]),(4,.bool false),(0,.pointer (some ⟨b,0,none⟩)),(1,.int .i64 ((v:Nat):Int))],[boxA u33_1 30 [.int .i64 0,.int .i64 0],boxA u32_1 30 [.int .i64 0,.int .i64 0]],[boxA b 98 (rgC p n cap B N kk s)],[slF (rI2 .i64) p cap l])) ?_ (fun hD6=> ?_)
  ·
   rintro ⟨u32_1,u33_1⟩
   dsimp only
   refine zSa 31 kr ?_
   ·
    refine zma rfl rfl rfl rfl (zo zr30 rfl) (fun u31_1 _=> ?_)
    exact zP (hD3 (u31_1,u32_1,u33_1)) kr ((.of rfl):SubM _ _) (zra 1 rfl (zra 1 rfl (zra 0 rfl .nil))) .rfl ((.c (j:=0) rfl .n):SelR _ _ _)
  refine zoa (X:=Nat) (k':=5) (L':=(lb 37 4294967295)) (fun u31_1=>([(5,.pointer (some ⟨u31_1,0,none⟩)),(44,.agg #[.int .i64 qd1,.int .i64 qd2]),(32,.agg #[.int .i64 ((l.getD v (0,0)).1),.int .i64 ((l.getD v (0,0)).2)]),(25,.agg #[.int .i64 qd3,.int .i64 qd4]),(4,.bool false),(0,.pointer (some ⟨b,0,none⟩)),(1,.int .i64 ((v:Nat):Int))],[boxA u31_1 30 [.int .i64 0,.int .i64 0]],[boxA b 98 (rgC p n cap B N kk s)],[slF (rI2 .i64) p cap l])) ?_ (fun hD7=> ?_)
  ·
   rintro u31_1
   dsimp only
   refine zGb 32 33 kr ?_ ?_
   ·
    refine zma rfl rfl rfl rfl (zo zr30 rfl) (fun u32_1 _=> ?_)
    exact zP (hD4 (u31_1,u32_1)) kr ((.of rfl):SubM _ _) .rfl .rfl ((.c (j:=0) rfl .n):SelR _ _ _)
   ·
    refine zma rfl rfl rfl rfl (zo zr30 rfl) (fun u33_1 _=> ?_)
    exact zP (hD5 (u31_1,u33_1)) kr ((.of rfl):SubM _ _) .rfl .rfl ((.c (j:=0) rfl .n):SelR _ _ _)
  refine zoa (X:=Nat) (k':=5) (L':=(lb 37 6442450943)) (fun u32_1=>([(6,.pointer (some ⟨u32_1,0,none⟩)),(44,.agg #[.int .i64 qd1,.int .i64 qd2]),(32,.agg #[.int .i64 ((l.getD v (0,0)).1),.int .i64 ((l.getD v (0,0)).2)]),(25,.agg #[.int .i64 qd3,.int .i64 qd4]),(4,.bool false),(0,.pointer (some ⟨b,0,none⟩)),(1,.int .i64 ((v:Nat):Int))],[boxA u32_1 30 [.int .i64 0,.int .i64 0]],[boxA b 98 (rgC p n cap B N kk s)],[slF (rI2 .i64) p cap l])) ?_ (fun hD8=> ?_)
  ·
   rintro u32_1
   dsimp only
   refine zGb 31 33 kr ?_ ?_
   ·
    refine zma rfl rfl rfl rfl (zo zr30 rfl) (fun u31_1 _=> ?_)
    exact zP (hD4 (u31_1,u32_1)) kr ((.of rfl):SubM _ _) (zra 1 rfl (zra 0 rfl .nil)) .rfl ((.c (j:=0) rfl .n):SelR _ _ _)
   ·
    refine zma rfl rfl rfl rfl (zo zr30 rfl) (fun u33_1 _=> ?_)
    exact zP (hD6 (u32_1,u33_1)) kr ((.of rfl):SubM _ _) .rfl .rfl ((.c (j:=0) rfl .n):SelR _ _ _)
  refine zoa (X:=Nat) (k':=5) (L':=(lb 37 10737418239)) (fun u33_1=>([(7,.pointer (some ⟨u33_1,0,none⟩)),(44,.agg #[.int .i64 qd1,.int .i64 qd2]),(32,.agg #[.int .i64 ((l.getD v (0,0)).1),.int .i64 ((l.getD v (0,0)).2)]),(25,.agg #[.int .i64 qd3,.int .i64 qd4]),(4,.bool false),(0,.pointer (some ⟨b,0,none⟩)),(1,.int .i64 ((v:Nat):Int))],[boxA u33_1 30 [.int .i64 0,.int .i64 0]],[boxA b 98 (rgC p n cap B N kk s)],[slF (rI2 .i64) p cap l])) ?_ (fun hD9=> ?_)
  ·
   rintro u33_1
   dsimp only
   refine zGb 31 32 kr ?_ ?_
   ·
    refine zma rfl rfl rfl rfl (zo zr30 rfl) (fun u31_1 _=> ?_)
    exact zP (hD5 (u31_1,u33_1)) kr ((.of rfl):SubM _ _) (zra 1 rfl (zra 0 rfl .nil)) .rfl ((.c (j:=0) rfl .n):SelR _ _ _)
   ·
    refine zma rfl rfl rfl rfl (zo zr30 rfl) (fun u32_1 _=> ?_)
    exact zP (hD6 (u32_1,u33_1)) kr ((.of rfl):SubM _ _) (zra 1 rfl (zra 0 rfl .nil)) .rfl ((.c (j:=0) rfl .n):SelR _ _ _)
  refine zKc 31 32 33 kr ?_ ?_ ?_
  ·
   refine zma rfl rfl rfl rfl (zo zr30 rfl) (fun u31_1 _=> ?_)
   exact zP (hD7 u31_1) kr ((.of rfl):SubM _ _) .rfl .rfl ((.c (j:=0) rfl .n):SelR _ _ _)
  ·
   refine zma rfl rfl rfl rfl (zo zr30 rfl) (fun u32_1 _=> ?_)
   exact zP (hD8 u32_1) kr ((.of rfl):SubM _ _) .rfl .rfl ((.c (j:=0) rfl .n):SelR _ _ _)
  ·
   refine zma rfl rfl rfl rfl (zo zr30 rfl) (fun u33_1 _=> ?_)
   exact zP (hD9 u33_1) kr ((.of rfl):SubM _ _) .rfl .rfl ((.c (j:=0) rfl .n):SelR _ _ _)
end Go.Proofs.YtjcpbhlijoigfaaGreat.Sp
namespace Go.Proofs.YtjcpbhlijoigfaaGreat.Sp
open Go
set_option linter.unusedVariables false
set_option maxRecDepth 100000
set_option maxHeartbeats 8000000
theorem zqf {z:Int}:Con ye 79 [.int .i64 z] [] [] (Y:=Unit) (fun y=>True) (fun y=> .bool true) (fun y=>[]) (fun y=>[]):=by
 refine zl Tryz.func79 rfl rfl rfl (fun c=> ?_)
 show RunC _ _ _ _ _ [(0,.int .i64 z)] [] []
 refine zg<|za<|e_p (zc rfl)<|zh<|zd<|zg<|za<|e_p (zc rfl)<|zh<|zd<|zI ?_
 exact zu Tryz.results79 () trivial (zk rfl) rfl (ho:=(.n:PickO _ _ _)) (.n:SelR _ _ _)
theorem zGe {b:Nat} {p:Option Addr} {n:Nat} {cap:Nat} {l:List Pg.P2} {B:List Nat} {N:List Nat} {kk:Int} {s:Int} {L:List Nat} {pb:Option Addr} {nb:Nat} {cb:Nat} {G:List Bool} (hn:l.length=n) (hg:Pg.Rg n L B N) (hrng:∀x∈l,Pg.inR x) (hs:s=1∨s= -1) (hG:Pg.Gn n L G) (hnb:G.length=nb) (h3:3≤L.length):Con ye 76 [.pointer (some ⟨b,0,none⟩),.slice pb nb cb,.func (.func 77) #[.pointer (some ⟨b,0,none⟩)] #[]] [boxA b 98 (rgC p n cap B N kk s),rowA 4 rB pb cb G] [slF (rI2 .i64) p cap l] (Y:=Int) (fun y=>Pg.Fst L (Pg.earI l s L) y) (fun y=> .int .i64 y) (fun y=>[boxA b 98 (rgC p n cap B N kk s),rowA 4 rB pb cb G]) (fun y=>[]):=by
 refine zl Tryz.func76 rfl rfl rfl (fun c=> ?_)
 show RunC _ _ _ _ _ [(0,.pointer (some ⟨b,0,none⟩)),(1,.slice pb nb cb),(2,.func (.func 77) #[.pointer (some ⟨b,0,none⟩)] #[])] [boxA b 98 (rgC p n cap B N kk s),rowA 4 rB pb cb G] [slF (rI2 .i64) p cap l]
 refine zda 0 rfl (fun hL0=> ?_)
 have hLB:=hg.lb
 have hLN:=hg.ln
 have hn64:=hg.n64
 have hGn:=hG.1
 refine zg<|za<|e_p (zc rfl)<|zh<|zd<|zg<|zg<|za<|e_mv rfl<|e_p (zQ rfl)<|e_p (zf yc rfl sz22 rfl rfl)<|e_ru (ze 0 ty22 rfl rfl rfl)<|e_p (zN yb rfl)<|e_mv rfl<|zh<|zd<|zA<|zpa (X:=Nat×Nat) (fun x:Nat×Nat=>Pg.Fs n L (Pg.earI l s L) x.1 x.2) (fun x=>[(13,.int .i64 ((x.1:Nat):Int)),(12,.int .i64 ((n:Nat):Int)),(1,.slice pb nb cb),(2,.func (.func 77) #[.pointer (some ⟨b,0,none⟩)] #[])]) (fun x=>[boxA b 98 (rgC p n cap B N kk s),rowA 4 rB pb cb G]) (fun x=>[slF (rI2 .i64) p cap l]) (fun x:Nat×Nat=>n - x.1) (0,0) (show Pg.Fs n L (Pg.earI l s L) 0 0 from by exact Pg.Fs.zero) ((.e rfl (by first|rfl|(congr 1;omega)|simp_all) (.of rfl)):SubM _ _) (ho:=((.of [0,0] rfl):PickO _ _ _)) ((.c (j:=0) rfl .n):SelR _ _ _) ?_
 rintro ⟨v,k⟩ hF
 replace hF:Pg.Fs n L (Pg.earI l s L) v k:=hF
 try dsimp only
 have hvn:=hF.vn
 refine zg<|za<|e_p (zba rfl rfl)<|zh<|zd<|zg<|zG rfl (fun h1=> ?_) (fun h1=> ?_)
 ·
  refine zw<|zd<|zg<|zA<|zg<|za<|e_mv rfl<|e_p (zc rfl)<|zh<|zd<|zHa (X:=Unit) (fun x=>True) (fun x=>[(25,.bool (decide (((!(G.getD v false))=true)∧(Pg.earI l s L k)))),(7,.int .i64 ((v:Nat):Int)),(13,.int .i64 ((v:Nat):Int)),(12,.int .i64 ((n:Nat):Int)),(1,.slice pb nb cb),(2,.func (.func 77) #[.pointer (some ⟨b,0,none⟩)] #[])]) (fun x=>[boxA b 98 (rgC p n cap B N kk s),rowA 4 rB pb cb G]) (fun x=>[slF (rI2 .i64) p cap l]) ?_ ?_
  ·
   refine za<|e_mv rfl<|e_mv rfl<|e_ru (zqa 1 v rfl Tryz.underlying95 sz4 rfl (by first|rfl|simp_all|omega) rfl rfl om)<|r_vl rfl rfl (zja 1 v rfl ty4 rfl rfl (gD (d:=false) om) rfl) (fun _ hok2=> ?_)
   refine e_p (zEb rfl)<|zne rfl rfl (zW rfl) (fun hgo=> ?_) (fun hgo=> ?_)
   ·
    refine e_mv rfl<|e_mv rfl<|zqc (A:=[boxA b 98 (rgC p n cap B N kk s)]) (F:=[rowA 4 rB pb cb G]) (first:=[.pointer (some ⟨b,0,none⟩)]) (cap:=[]) rfl rfl rfl (.c rfl .n) ce77 (zqg (b:=b) (p:=p) (n:=n) (cap:=cap) (l:=l) (B:=B) (N:=N) (kk:=kk) (s:=s) (L:=L) (v:=v) (i:=k) (hn:=ass) (hg:=ass) (hrng:=ass) (hs:=ass) (hi:=by first|rfl|assumption|omega|exact (hF.here hg hG om (by first|assumption|simp_all)).1|exact (hF.here hg hG om (by first|assumption|simp_all)).2) (hv:=by first|rfl|assumption|omega|exact (hF.here hg hG om (by first|assumption|simp_all)).1|exact (hF.here hg hG om (by first|assumption|simp_all)).2) (h3:=ass)) (.c (j:=0) rfl .n) ?_
    rintro ⟨⟩ -
    dsimp only [aq,nq,cq]
    refine e_p (zn rfl rfl)<|zh ?_
    exact zga () (show True from by first|trivial|omega|simp_all) ((.e rfl (congrArg Value.bool cbu) (.of rfl)):SubM _ _) (ho:=((.of [0,0] rfl):PickO _ _ _)) ((.c (j:=0) rfl .n):SelR _ _ _)
   ·
    refine e_no<|e_no<|e_no<|e_p (zn rfl rfl)<|zh ?_
    exact zga () (show True from by first|trivial|omega|simp_all) ((.e rfl (congrArg Value.bool cbu) (.of rfl)):SubM _ _) (ho:=((.of [0,0] rfl):PickO _ _ _)) ((.c (j:=0) rfl .n):SelR _ _ _)
  ·
   rintro ⟨⟩ -
   try dsimp only
   refine zG rfl (fun hear=> ?_) (fun hear=> ?_)
   ·
    refine zg<|za<|e_mv rfl<|e_p (zc rfl)<|zh<|zd<|zI<|zp<|zi<|zi<|zp<|zi ?_
    exact zu yi ((v:Nat):Int) (.inl ⟨k,(hF.here hg hG om (by first|assumption|simp_all)).1,by rw [(hF.here hg hG om (by first|assumption|simp_all)).2],hear.2,hF.no⟩) (zk rfl) rfl (ho:=((.of [0,0] rfl):PickO _ _ _)) (.n:SelR _ _ _)
   ·
    refine zw<|zO<|zd<|za<|e_p (zK (z:=(((v+1):Nat):Int)) rfl rfl (w64 om))<|e_mv rfl<|zh<|zha ((v+1),(if G.getD v false=true then k else k+1)) (show Pg.Fs n L (Pg.earI l s L) (v+1) (if G.getD v false=true then k else k+1) from by by_cases hgb:G.getD v false=true;(rw [if_pos hgb];exact hF.skip hG om hgb);(rw [if_neg hgb];exact hF.next hg om (hF.here hg hG om hgb) (fun h9=>hear (by first|exact ⟨by simpa using hgb,h9⟩|simpa using hgb)))) (by show n - (v+1)<n - v;omega) ((.of rfl):SubM _ _) (ho:=((.of [0,0] rfl):PickO _ _ _)) ((.c (j:=0) rfl .n):SelR _ _ _)
 ·
  refine zna<|zj<|zj<|zy<|zd<|zg<|za<|e_p (zc rfl)<|zh<|zd<|zI ?_
  exact zu yi (-1) (.inr ⟨rfl,Pg.Fs.fin (n:=n) (by have h9:v=n:=om;rw [h9] at hF;exact hF) hg⟩) (zk rfl) rfl (ho:=((.of [0,0] rfl):PickO _ _ _)) (.n:SelR _ _ _)
theorem zHe {b:Nat} {p:Option Addr} {n:Nat} {cap:Nat} {l:List Pg.P2} {B:List Nat} {N:List Nat} {kk:Int} {s:Int} {L:List Nat} {pb:Option Addr} {nb:Nat} {cb:Nat} {G:List Bool} (hn:l.length=n) (hg:Pg.Rg n L B N) (hrng:∀x∈l,Pg.inR x) (hs:s=1∨s= -1) (hG:Pg.Gn n L G) (hnb:G.length=nb) (h3:3≤L.length):Con ye 76 [.pointer (some ⟨b,0,none⟩),.slice pb nb cb,.func (.func 79) #[] #[]] [boxA b 98 (rgC p n cap B N kk s),rowA 4 rB pb cb G] [slF (rI2 .i64) p cap l] (Y:=Int) (fun y=>Pg.Fst L (fun _=>True) y) (fun y=> .int .i64 y) (fun y=>[boxA b 98 (rgC p n cap B N kk s),rowA 4 rB pb cb G]) (fun y=>[]):=by
 refine zl Tryz.func76 rfl rfl rfl (fun c=> ?_)
 show RunC _ _ _ _ _ [(0,.pointer (some ⟨b,0,none⟩)),(1,.slice pb nb cb),(2,.func (.func 79) #[] #[])] [boxA b 98 (rgC p n cap B N kk s),rowA 4 rB pb cb G] [slF (rI2 .i64) p cap l]
 refine zda 0 rfl (fun hL0=> ?_)
 have hLB:=hg.lb
 have hLN:=hg.ln
 have hn64:=hg.n64
 have hGn:=hG.1
 refine zg<|za<|e_p (zc rfl)<|zh<|zd<|zg<|zg<|za<|e_mv rfl<|e_p (zQ rfl)<|e_p (zf yc rfl sz22 rfl rfl)<|e_ru (ze 0 ty22 rfl rfl rfl)<|e_p (zN yb rfl)<|e_mv rfl<|zh<|zd<|zA<|zpa (X:=Nat×Nat) (fun x:Nat×Nat=>Pg.Fs n L (fun _=>True) x.1 x.2) (fun x=>[(13,.int .i64 ((x.1:Nat):Int)),(12,.int .i64 ((n:Nat):Int)),(1,.slice pb nb cb),(2,.func (.func 79) #[] #[])]) (fun x=>[boxA b 98 (rgC p n cap B N kk s),rowA 4 rB pb cb G]) (fun x=>[slF (rI2 .i64) p cap l]) (fun x:Nat×Nat=>n - x.1) (0,0) (show Pg.Fs n L (fun _=>True) 0 0 from by exact Pg.Fs.zero) ((.e rfl (by first|rfl|(congr 1;omega)|simp_all) (.of rfl)):SubM _ _) (ho:=((.of [0,0] rfl):PickO _ _ _)) ((.c (j:=0) rfl .n):SelR _ _ _) ?_
 rintro ⟨v,k⟩ hF
 replace hF:Pg.Fs n L (fun _=>True) v k:=hF
 try dsimp only
 have hvn:=hF.vn
 refine zg<|za<|e_p (zba rfl rfl)<|zh<|zd<|zg<|zG rfl (fun h1=> ?_) (fun h1=> ?_)
 ·
  refine zw<|zd<|zg<|zA<|zg<|za<|e_mv rfl<|e_p (zc rfl)<|zh<|zd<|zHa (X:=Unit) (fun x=>True) (fun x=>[(25,.bool (decide (((!(G.getD v false))=true)∨False))),(7,.int .i64 ((v:Nat):Int)),(13,.int .i64 ((v:Nat):Int)),(12,.int .i64 ((n:Nat):Int)),(1,.slice pb nb cb),(2,.func (.func 79) #[] #[])]) (fun x=>[boxA b 98 (rgC p n cap B N kk s),rowA 4 rB pb cb G]) (fun x=>[slF (rI2 .i64) p cap l]) ?_ ?_
  ·
   refine za<|e_mv rfl<|e_mv rfl<|e_ru (zqa 1 v rfl Tryz.underlying95 sz4 rfl (by first|rfl|simp_all|omega) rfl rfl om)<|r_vl rfl rfl (zja 1 v rfl ty4 rfl rfl (gD (d:=false) om) rfl) (fun _ hok2=> ?_)
   refine e_p (zEb rfl)<|zne rfl rfl (zW rfl) (fun hgo=> ?_) (fun hgo=> ?_)
   ·
    refine e_mv rfl<|e_mv rfl<|zAc (first:=[]) (cap:=[]) rfl rfl rfl (.c rfl .n) ce79 (zqf (z:=((v:Nat):Int))) (.n) ?_
    rintro ⟨⟩ -
    dsimp only [aq,nq,cq]
    refine e_p (zn rfl rfl)<|zh ?_
    exact zga () (show True from by first|trivial|omega|simp_all) ((.e rfl (congrArg Value.bool cbu) (.of rfl)):SubM _ _) (ho:=((.of [0,0] rfl):PickO _ _ _)) ((.c (j:=0) rfl .n):SelR _ _ _)
   ·
    refine e_no<|e_no<|e_no<|e_p (zn rfl rfl)<|zh ?_
    exact zga () (show True from by first|trivial|omega|simp_all) ((.e rfl (congrArg Value.bool cbu) (.of rfl)):SubM _ _) (ho:=((.of [0,0] rfl):PickO _ _ _)) ((.c (j:=0) rfl .n):SelR _ _ _)
  ·
   rintro ⟨⟩ -
   try dsimp only
   refine zG rfl (fun hear=> ?_) (fun hear=> ?_)
   ·
    refine zg<|za<|e_mv rfl<|e_p (zc rfl)<|zh<|zd<|zI<|zp<|zi<|zi<|zp<|zi ?_
    exact zu yi ((v:Nat):Int) (.inl ⟨k,(hF.here hg hG om (by first|assumption|simp_all)).1,by rw [(hF.here hg hG om (by first|assumption|simp_all)).2],trivial,hF.no⟩) (zk rfl) rfl (ho:=((.of [0,0] rfl):PickO _ _ _)) (.n:SelR _ _ _)
   ·
    refine zw<|zO<|zd<|za<|e_p (zK (z:=(((v+1):Nat):Int)) rfl rfl (w64 om))<|e_mv rfl<|zh<|zha ((v+1),(if G.getD v false=true then k else k+1)) (show Pg.Fs n L (fun _=>True) (v+1) (if G.getD v false=true then k else k+1) from by by_cases hgb:G.getD v false=true;(rw [if_pos hgb];exact hF.skip hG om hgb);(rw [if_neg hgb];exact hF.next hg om (hF.here hg hG om hgb) (fun h9=>hear (by first|exact ⟨by simpa using hgb,h9⟩|simpa using hgb)))) (by show n - (v+1)<n - v;omega) ((.of rfl):SubM _ _) (ho:=((.of [0,0] rfl):PickO _ _ _)) ((.c (j:=0) rfl .n):SelR _ _ _)
 ·
  refine zna<|zj<|zj<|zy<|zd<|zg<|za<|e_p (zc rfl)<|zh<|zd<|zI ?_
  exact zu yi (-1) (.inr ⟨rfl,Pg.Fs.fin (n:=n) (by have h9:v=n:=om;rw [h9] at hF;exact hF) hg⟩) (zk rfl) rfl (ho:=((.of [0,0] rfl):PickO _ _ _)) (.n:SelR _ _ _)
end Go.Proofs.YtjcpbhlijoigfaaGreat.Sp
namespace Go.Proofs.YtjcpbhlijoigfaaGreat.Sp
open Go
set_option maxRecDepth 100000
theorem zr98:Zero ye 98 (.agg #[.slice none 0 0,.int .i64 0,.int .i64 0,.int .i64 0,.int .i64 0,.int .i64 0,.int .i64 0,.int .i64 0,.int .i64 0,.int .i64 0,.int .i64 0,.int .i64 0,.int .i64 0,.int .i64 0,.int .i64 0,.int .i64 0,.int .i64 0,.int .i64 0,.int .i64 0,.int .i64 0,.int .i64 0,.int .i64 0,.int .i64 0,.int .i64 0,.int .i64 0,.int .i64 0,.int .i64 0,.int .i64 0,.int .i64 0,.int .i64 0,.int .i64 0,.int .i64 0,.int .i64 0,.int .i64 0,.int .i64 0,.int .i64 0,.int .i64 0,.int .i64 0,.int .i64 0,.int .i64 0,.int .i64 0,.int .i64 0,.int .i64 0,.int .i64 0,.int .i64 0,.int .i64 0,.int .i64 0,.int .i64 0,.int .i64 0,.int .i64 0,.int .i64 0,.int .i64 0,.int .i64 0,.int .i64 0,.int .i64 0,.int .i64 0,.int .i64 0,.int .i64 0,.int .i64 0,.int .i64 0,.int .i64 0,.int .i64 0,.int .i64 0,.int .i64 0,.int .i64 0,.int .i64 0,.int .i64 0,.int .i64 0,.int .i64 0,.int .i64 0,.int .i64 0,.int .i64 0,.int .i64 0,.int .i64 0,.int .i64 0,.int .i64 0,.int .i64 0,.int .i64 0,.int .i64 0,.int .i64 0,.int .i64 0,.int .i64 0,.int .i64 0,.int .i64 0,.int .i64 0,.int .i64 0,.int .i64 0,.int .i64 0,.int .i64 0,.int .i64 0,.int .i64 0,.int .i64 0,.int .i64 0,.int .i64 0,.int .i64 0,.int .i64 0,.int .i64 0,.int .i64 0,.int .i64 0,.int .i64 0,.int .i64 0,.int .i64 0,.int .i64 0,.int .i64 0,.int .i64 0,.int .i64 0,.int .i64 0,.int .i64 0,.int .i64 0,.int .i64 0,.int .i64 0,.int .i64 0,.int .i64 0,.int .i64 0,.int .i64 0,.int .i64 0,.int .i64 0,.int .i64 0,.int .i64 0,.int .i64 0,.int .i64 0,.int .i64 0,.int .i64 0,.int .i64 0,.int .i64 0,.int .i64 0,.int .i64 0,.int .i64 0,.int .i64 0,.int .i64 0,.int .i64 0]):=by unfold Zero;kernel_rfl
end Go.Proofs.YtjcpbhlijoigfaaGreat.Sp
