/- Lemmas on the walk and plain lemmas that the claim of this folder uses; each states its own conditions. Lines were printed by a program of ours. -/
import Derived.Test.YtahiajepeodhoaaGreatZ5E
set_option linter.unusedVariables false
set_option linter.unusedSimpArgs false
set_option linter.unusedSectionVars false
open Go.Proofs.Tryz renaming underlying34 → ya
open Go.Proofs.YtahiajepeodhoaaGreat.Big renaming hq → yb, hq_mul → yc
namespace Go.Proofs.YtahiajepeodhoaaGreat.Po
open Go.Proofs.YtahiajepeodhoaaGreat.Big
set_option linter.unusedVariables false
theorem div_pos' {a b:Rat} (ha:0<a) (hb:0<b):0<a / b:=by
  have e:a / b*b=a:=Rat.div_mul_cancel (by grind)
  refine Rat.not_le.1 fun z=> ?_
  have:=Rat.mul_nonneg (show 0≤ -(a / b) by grind) (show 0≤b by grind)
  grind
def Kp (S:List (List Rat)) (f:List Rat) (x y:Rat):Prop:=vr S y≤vr S x∧(vr S x=vr S y→(0<ev x f→0<ev y f)∧(ev x f<0→ev y f<0))
theorem stp_kp {S:List (List Rat)} {f:List Rat} {x y:Rat} (hxy:x<y) (h:Stp S f x y):Kp S f x y:=by
  rcases h with ⟨h1,h2,h3⟩|⟨h1,h2⟩|⟨h1,h2⟩
  · refine ⟨by omega, fun _ => ⟨fun k => ?_, fun k => ?_⟩⟩
    · have:=sgq_p k;rw [h1] at this;exact sgq_pos.1 (by omega)
    · have:=sgq_n k;rw [h1] at this;exact sgq_lt.1 (by omega)
  · have hm := h1 x y Rat.le_refl hxy Rat.le_refl
    unfold b2 at h2
    by_cases k1:ev x f<0
    · by_cases k2 : ev y f < 0
      · rw [if_pos k1, if_pos k2] at h2
        exact ⟨by omega,fun _=>⟨fun k=>by grind,fun _=>k2⟩⟩
      · rw [if_pos k1, if_neg k2] at h2
        exact ⟨by omega,fun e=>by omega⟩
    · have k2 : ¬ ev y f < 0 := fun k => k1 (by grind)
      rw [if_neg k1,if_neg k2] at h2
      exact ⟨by omega,fun _=>⟨fun k=>by grind,fun k=>absurd k k1⟩⟩
  · have hm := h1 x y Rat.le_refl hxy Rat.le_refl
    unfold b2 at h2
    by_cases k1:0<ev x f
    · by_cases k2 : 0 < ev y f
      · rw [if_pos k1, if_pos k2] at h2
        exact ⟨by omega,fun _=>⟨fun _=>k2,fun k=>by grind⟩⟩
      · rw [if_pos k1, if_neg k2] at h2
        exact ⟨by omega,fun e=>by omega⟩
    · have k2 : ¬ 0 < ev y f := fun k => k1 (by grind)
      rw [if_neg k1,if_neg k2] at h2
      exact ⟨by omega,fun _=>⟨fun k=>absurd k k1,fun k=>by grind⟩⟩
theorem kp_trans {S:List (List Rat)} {f:List Rat} {x z y:Rat} (h1:Kp S f x z) (h2:Kp S f z y):Kp S f x y:=by
  obtain ⟨a1,a2⟩:=h1
  obtain ⟨b1,b2⟩:=h2
  refine ⟨by omega,fun e=> ?_⟩
  obtain ⟨c1,c2⟩:=a2 (by omega)
  obtain ⟨d1,d2⟩:=b2 (by omega)
  exact ⟨fun k=>d1 (c1 k),fun k=>d2 (c2 k)⟩
theorem in_R {a b z:Rat} (h1:a≤z) (h2:z≤b):le2 z (qabs a+qabs b):=by
  have:=le2_abs a
  have:=le2_abs b
  unfold le2 at*
  constructor <;> grind
theorem kp_all {f:List Rat} {T:List (List Rat)} (hc:chn (f :: der f :: T)) {x y:Rat} (hxy:x<y):Kp (f :: der f :: T) f x y:=by
  have hR:0≤qabs x+qabs y:=le2_nonneg (in_R (a:=x) (b:=y) (z:=x) Rat.le_refl (by grind))
  obtain ⟨h,hh,hs⟩:=step hc hR
  exact walk hh (fun u v hu hv huv hle=>stp_kp huv (hs u v hu hv huv hle)) (fun u z v _ _ h1 h2=>kp_trans h1 h2) x y (in_R Rat.le_refl (by grind)) (in_R (by grind) Rat.le_refl) hxy
theorem sqf_keeps {p:List Rat} (hp:(cl p).length≠0) {a b:Rat} (hab:a<b) (h:bt (sturm p) a b=0) {z:Rat} (h1:a≤z) (h2:z≤b):(0<ev a (sqf p)→0<ev z (sqf p))∧(ev a (sqf p)<0→ev z (sqf p)<0):=by
  rcases sturm_chn hp with ⟨c,hc,hcc,-⟩|⟨T,hT,hch⟩
  · rw [hcc,hcc];exact ⟨id,id⟩
  · rw [hT] at h
    unfold bt at h
    have e1 : a = z ∨ a < z := by rcases Rat.le_total (a := z) (b := a) with k | k
                                  · exact .inl (Rat.le_antisymm h1 k)
                                  · by_cases e : a = z
                                    · exact .inl e
                                    · exact .inr (by grind)
    rcases e1 with e1|e1
    · rw [e1];exact ⟨id,id⟩
    · have k1 := kp_all hch e1
      by_cases e2:z=b
      · rw [e2] at k1 ⊢
        exact k1.2 (by omega)
      · have k2 := kp_all hch (show z < b by grind)
        exact k1.2 (by have:=k1.1;have:=k2.1;omega)
theorem low {F D U V:Rat→Rat} {a b K L A B:Rat} (hab:a≤b) (hK:0≤K) (hL:0≤L) (hA:0≤A) (hB:0≤B) (tay:∀s t,a≤s→s≤t→t≤b→le2 (F t - F s - (t - s)*D s) (K*((t - s)*(t - s))))
    (lip:∀s t,a≤s→s≤t→t≤b→le2 (D t - D s) (L*(t - s))) (hU:∀z,a≤z→z≤b→le2 (U z) A) (hV:∀z,a≤z→z≤b→le2 (V z) B) (bez:∀z,a≤z→z≤b→U z*F z+V z*D z=1)
    (pos:∀z,a≤z→z≤b→0<F z):∃m,0<m∧∀z,a≤z→z≤b→m≤F z:=by
  have e1:0<1 / (2*(A+1)):=div_pos' (by decide +kernel) (by grind)
  have e1':1 / (2*(A+1))*(2*(A+1))=1:=Rat.div_mul_cancel (by grind)
  generalize 1 / (2*(A+1))=e at e1 e1'
  have n1:0<1 / (2*(B+1)):=div_pos' (by decide +kernel) (by grind)
  have n1':1 / (2*(B+1))*(2*(B+1))=1:=Rat.div_mul_cancel (by grind)
  generalize 1 / (2*(B+1))=n at n1 n1'
  have r1:0<n / (2*(L+K+1)):=div_pos' n1 (by grind)
  have r1':n / (2*(L+K+1))*(2*(L+K+1))=n:=Rat.div_mul_cancel (by grind)
  generalize n / (2*(L+K+1))=r at r1 r1'
  have hrn:0<r*n:=pos_mul r1 n1
  have ma:=pos a Rat.le_refl hab
  have mb:=pos b hab Rat.le_refl
  -- the least of four numbers
  obtain ⟨m,m0,m1,m2,m3,m4⟩:∃m,0<m∧m≤e∧m≤r*n / 2∧m≤F a∧m≤F b:=by
    have h2:0<r*n / 2:=div_pos' hrn (by decide +kernel)
    refine ⟨min (min e (r*n / 2)) (min (F a) (F b)),?_,?_,?_,?_,?_⟩ <;> grind
  have m2':m*2≤r*n:=by
    have:r*n / 2*2=r*n:=Rat.div_mul_cancel (by decide +kernel)
    grind
  refine ⟨m,m0,fun z h1 h2=> ?_⟩
  refine Rat.not_lt.1 fun hlt=> ?_
  have hF:=pos z h1 h2
  have hb:=bez z h1 h2
  have hu:=hU z h1 h2
  have hv:=hV z h1 h2
  -- the derivative is not small
  have hUF:U z*F z≤A*m:=by
    have a1:=Rat.mul_nonneg (show 0≤A - U z by unfold le2 at hu;grind) (show 0≤F z by grind)
    have a2:=Rat.mul_nonneg hA (show 0≤m - F z by grind)
    grind
  have hAm:A*m*2≤1 - m*2:=by
    have:=Rat.mul_nonneg (show 0≤e - m by grind) (show 0≤A+1 by grind)
    grind
  have hVD:1<V z*D z*2:=by grind
  have hsq:∀{x:Rat},0≤x→(L+K)*x≤(L+K+1)*x:=fun {x} hx=>by grind
  have hLK:(L+K)*r*2≤n:=by
    have:=hsq (x:=r) (by grind)
    grind
  have big:D z≤ -n∨n≤D z:=by
    rcases Rat.le_total (a:=D z) (b:= -n) with k|k
    · exact .inl k
    · rcases Rat.le_total (a := n) (b := D z) with k2 | k2
      · exact .inr k2
      · exfalso
        have hd:le2 (D z) n:=by unfold le2;constructor <;> grind
        have:=le2_mul hv hd
        unfold le2 at this
        grind
  rcases big with hD|hD
  · -- falling: to the right
    obtain ⟨t,t1,t2,t3,t4⟩:∃t,z≤t∧t≤b∧t - z≤r∧(t=b∨t - z=r):=by
      by_cases k:z+r≤b
      · exact ⟨z+r,by grind,k,by grind,.inr (by grind)⟩
      · exact ⟨b,h2,Rat.le_refl,by grind,.inl rfl⟩
    have ht:=(tay z t h1 t1 t2).2
    have hK2:K*(t - z)*2≤n:=by
      have a1:=Rat.mul_nonneg hK (show 0≤r - (t - z) by grind)
      have a2:=Rat.mul_nonneg hL (show 0≤r by grind)
      grind
    have a3:=Rat.mul_nonneg (show 0≤t - z by grind) (show 0≤ -n - D z by grind)
    have a4:=Rat.mul_nonneg (show 0≤t - z by grind) (show 0≤n - K*(t - z)*2 by grind)
    have hFt:F t*2≤F z*2 - (t - z)*n:=by grind
    rcases t4 with t4|t4
    · subst t4
      have a5:=Rat.mul_nonneg (show 0≤t - z by grind) (show 0≤n by grind)
      grind
    · rw [t4] at hFt
      have:=pos t (by grind) t2
      grind
  · -- rising: to the left
    obtain ⟨t,t1,t2,t3,t4⟩:∃t,t≤z∧a≤t∧z - t≤r∧(t=a∨z - t=r):=by
      by_cases k:a≤z - r
      · exact ⟨z - r,by grind,k,by grind,.inr (by grind)⟩
      · exact ⟨a,h1,Rat.le_refl,by grind,.inl rfl⟩
    have ht:=(tay t z t2 t1 h2).1
    have hl:=(lip t z t2 t1 h2).2
    have hK2:(L+K)*(z - t)*2≤n:=by
      have a1:=Rat.mul_nonneg (show 0≤L+K by grind) (show 0≤r - (z - t) by grind)
      grind
    have a3:=Rat.mul_nonneg (show 0≤z - t by grind) (show 0≤D t - (D z - L*(z - t)) by grind)
    have a4:=Rat.mul_nonneg (show 0≤z - t by grind) (show 0≤n - (L+K)*(z - t)*2 by grind)
    have a6:=Rat.mul_nonneg (show 0≤z - t by grind) (show 0≤D z - n by grind)
    have hFt:F t*2≤F z*2 - (z - t)*n:=by grind
    rcases t4 with t4|t4
    · subst t4
      have a5:=Rat.mul_nonneg (show 0≤z - t by grind) (show 0≤n by grind)
      grind
    · rw [t4] at hFt
      have:=pos t t2 (by grind)
      grind
end Go.Proofs.YtahiajepeodhoaaGreat.Po
namespace Go.Proofs.YtahiajepeodhoaaGreat.Po
open Go.Proofs.YtahiajepeodhoaaGreat.Big
set_option linter.unusedVariables false
theorem qabs_le2 {x L:Rat}:le2 x L↔qabs x≤L:=by
  unfold le2 qabs
  constructor
  · intro h;split <;> grind
  · intro h;split at h <;> constructor <;> grind
theorem qabs_ge {x y a b:Rat} (ha:0≤a) (hb:0≤b) (h1:a≤qabs x) (h2:b≤qabs y):a*b≤qabs (x*y):=by
  have hx:a≤x∨x≤ -a:=by unfold qabs at h1;split at h1 <;> grind
  have hy:b≤y∨y≤ -b:=by unfold qabs at h2;split at h2 <;> grind
  have key:a*b≤x*y∨x*y≤ -(a*b):=by
    rcases hx with hx|hx <;> rcases hy with hy|hy
    · have := Rat.mul_nonneg (show 0 ≤ x - a by grind) (show 0 ≤ y by grind)
      have:=Rat.mul_nonneg ha (show 0≤y - b by grind)
      left;grind
    · have := Rat.mul_nonneg (show 0 ≤ x - a by grind) (show 0 ≤ -y by grind)
      have:=Rat.mul_nonneg ha (show 0≤ -b - y by grind)
      right;grind
    · have := Rat.mul_nonneg (show 0 ≤ -a - x by grind) (show 0 ≤ y by grind)
      have:=Rat.mul_nonneg ha (show 0≤y - b by grind)
      right;grind
    · have := Rat.mul_nonneg (show 0 ≤ -a - x by grind) (show 0 ≤ -y by grind)
      have:=Rat.mul_nonneg ha (show 0≤ -b - y by grind)
      left;grind
  unfold qabs
  split <;> rcases key with k|k <;> (try have:=Rat.mul_nonneg ha hb) <;> grind
theorem sqf_bez {p:List Rat} (hp:(cl p).length≠0):∃u v:List Rat,∀t,ev t u*ev t (sqf p)+ev t v*ev t (der (sqf p))=1:=by
  have hf:=sqf_cl p
  have hd:=der_cl (sqf p)
  have hfn:(sqf p).length≠0:=fun e=>hp ((sqf_nil p).1 e)
  obtain ⟨d1,d2⟩:=gcd_dvd (sqf p) (der (sqf p)) hf hd
  have hl:=sqf_cop hp (gcd_cl _ _) d1 d2
  have hn:=gcd_ne (p:=sqf p) (q:=der (sqf p)) (by rw [hf];exact hfn)
  obtain ⟨c,hc,hcc⟩:=one_const (gcd_cl (sqf p) (der (sqf p))) (by omega)
  obtain ⟨u,v,huv⟩:=gcd_bez (sqf p) (der (sqf p)) hf hd
  refine ⟨scl u (1 / c),scl v (1 / c),fun t=> ?_⟩
  have h1:=huv t
  rw [hcc] at h1
  have h2:1 / c*c=1:=Rat.div_mul_cancel hc
  rw [ev_scl,ev_scl]
  generalize 1 / c=d at*
  have:ev t u*d*ev t (sqf p)+ev t v*d*ev t (der (sqf p))=(ev t u*ev t (sqf p)+ev t v*ev t (der (sqf p)))*d:=by grind
  rw [this,←h1,Rat.mul_comm];exact h2
theorem le2_scl {s x L:Rat} (hs:s=1∨s= -1) (h:le2 x L):le2 (s*x) L:=by
  unfold le2 at*
  rcases hs with rfl|rfl <;> constructor <;> grind
theorem sqf_low {p:List Rat} (hp:(cl p).length≠0) {a b s:Rat} (hab:a≤b) (hs:s=1∨s= -1) (h:∀z,a≤z→z≤b→0<s*ev z (sqf p)):∃m,0<m∧∀z,a≤z→z≤b→m≤qabs (ev z (sqf p)):=by
  have hR:0≤qabs a+qabs b:=le2_nonneg (in_R (a:=a) (b:=b) (z:=a) Rat.le_refl hab)
  obtain ⟨u,v,huv⟩:=sqf_bez hp
  obtain ⟨K,hK,hk⟩:=ev_tay hR (sqf p)
  obtain ⟨L,hL,hl⟩:=ev_lip hR (der (sqf p))
  obtain ⟨A,hA,hu⟩:=ev_bound hR u
  obtain ⟨B,hB,hv⟩:=ev_bound hR v
  have hss:s*s=1:=by rcases hs with rfl|rfl <;> decide +kernel
  obtain ⟨m,m0,hm⟩:=low (F:=fun z=>s*ev z (sqf p)) (D:=fun z=>s*ev z (der (sqf p))) (U:=fun z=>s*ev z u) (V:=fun z=>s*ev z v) hab hK hL hA hB
    (fun x y h1 h2 h3=>by
      have:=le2_scl hs (hk x y (in_R h1 (by grind)) (in_R (by grind) h3) h2)
      have e:s*ev y (sqf p) - s*ev x (sqf p) - (y - x)*(s*ev x (der (sqf p)))=s*(ev y (sqf p) - ev x (sqf p) - (y - x)*ev x (der (sqf p))):=by grind
      show le2 (s*ev y (sqf p) - s*ev x (sqf p) - (y - x)*(s*ev x (der (sqf p)))) _
      rw [e];exact this)
    (fun x y h1 h2 h3=>by
      have:=le2_scl hs (hl x y (in_R h1 (by grind)) (in_R (by grind) h3) h2)
      have e:s*ev y (der (sqf p)) - s*ev x (der (sqf p))=s*(ev y (der (sqf p)) - ev x (der (sqf p))):=by grind
      show le2 (s*ev y (der (sqf p)) - s*ev x (der (sqf p))) _
      rw [e];exact this)
    (fun z h1 h2=>le2_scl hs (hu z (in_R h1 h2))) (fun z h1 h2=>le2_scl hs (hv z (in_R h1 h2)))
    (fun z h1 h2=>by
      have:=huv z
      show s*ev z u*(s*ev z (sqf p))+s*ev z v*(s*ev z (der (sqf p)))=1
      have e:s*ev z u*(s*ev z (sqf p))+s*ev z v*(s*ev z (der (sqf p)))=s*s*(ev z u*ev z (sqf p)+ev z v*ev z (der (sqf p))):=by grind
      rw [e,this,hss];decide +kernel) h
  refine ⟨m,m0,fun z h1 h2=> ?_⟩
  have:=hm z h1 h2
  unfold qabs
  rcases hs with rfl|rfl <;> split <;> grind
theorem ode_low {f:List Rat} {m R:Rat} (hm:0<m) (hR:0≤R) (hfn:∃t,ev t f≠0) {I:Rat→Prop} (hI:∀z,I z→le2 z R) (hf:∀z,I z→m≤qabs (ev z f)):
    ∀(n:Nat) (p:List Rat),p.length≤n→cl p=p→p.length≠0→(∃w,∀t,ev t f*ev t (der p)=ev t w*ev t p)→∃m',0<m'∧∀z,I z→m'≤qabs (ev z p):=by
  intro n
  induction n with
  |zero=>intro p h1 _ h2;omega
  |succ n ih=>
    intro p hpl hpc hp0 ⟨w,hw⟩
    by_cases h1:p.length=1
    · obtain ⟨c, hc, hcc⟩ := one_const hpc h1
      refine ⟨qabs c,?_,fun z _=>by rw [hcc];exact Rat.le_refl⟩
      unfold qabs;split <;> grind
    · -- p = q u with u the greatest common divisor of p and p'
      have hdc:=der_cl p
      have hpne:=ev_some hpc hp0
      obtain ⟨d1,z,hz⟩:=gcd_dvd p (der p) hpc hdc
      obtain ⟨x,y,hxy⟩:=gcd_bez p (der p) hpc hdc
      have huc:=gcd_cl p (der p)
      have hun:=gcd_ne (p:=p) (q:=der p) (by rw [hpc];exact hp0)
      have hm1:=exact_mul hpc huc hun d1
      have hm2:=exact_mul hdc huc hun ⟨z,hz⟩
      have hd0:(der p).length≠0:=fun e=>by
        have e1:=der_get p (p.length - 2)
        rw [List.length_eq_zero_iff.1 e] at e1
        have e2:((0:Rat))=(((p.length - 2+1:Nat):Int):Rat)*p.getD (p.length - 2+1) 0:=e1
        have e3:=last_ne hpc hp0
        rw [show p.length - 2+1=p.length - 1 by omega] at e2
        rcases Rat.mul_eq_zero.1 e2.symm with k|k
        · have : (((p.length - 1 : Nat) : Int) : Rat) = ((0 : Int) : Rat) := k
          have:=Rat.intCast_inj.1 this
          omega
        · exact e3 k
      have hul:(gcd p (der p)).length≤(der p).length:=by
        have k1:=dq_cl (der p) (gcd p (der p))
        by_cases k0:(dq (der p) (gcd p (der p))).length=0
        · exfalso
          rw [List.length_eq_zero_iff.1 k0,mul_nil] at hm2
          exact hd0 (by rw [← hm2];rfl)
        · have k2 := mul_length k1 huc k0 hun
          rw [hm2] at k2
          omega
      have hdl:=der_len p
      generalize hG:gcd p (der p)=u at*
      generalize hQ:dq p u=q at*
      have hune:=ev_some huc hun
      have eP:∀t,ev t p=ev t q*ev t u:=fun t=>by rw [← ev_mul,hm1]
      have hqne:∃t,ev t q≠0:=by
        obtain ⟨t,ht⟩:=hpne
        exact ⟨t,fun k=>ht (by rw [eP,k];grind)⟩
      -- x q + y z = 1
      have one:∀t,ev t x*ev t q+ev t y*ev t z=1:=fun t=>by
        have:=cancel (c:=u) (D:=sub (add (mul x q) (mul y z)) [1]) hune (fun s=>by
          rw [ev_sub,ev_add,ev_mul,ev_mul]
          have k1:=hxy s
          rw [eP s,hz s] at k1
          show _*(_ - (0*s+1))=0
          grind) t
        rw [ev_sub,ev_add,ev_mul,ev_mul] at this
        have e:ev t [1]=1:=by show 0*t+1=(1:Rat);grind
        rw [e] at this;grind
      -- f z = w q
      have fz:∀t,ev t f*ev t z=ev t w*ev t q:=fun t=>by
        have:=cancel (c:=u) (D:=sub (mul f z) (mul w q)) hune (fun s=>by
          rw [ev_sub,ev_mul,ev_mul]
          have k1:=hw s
          rw [eP s,hz s] at k1
          grind) t
        rw [ev_sub,ev_mul,ev_mul] at this;grind
      -- f = q g
      have fq:∀t,ev t f=ev t q*ev t (add (mul f x) (mul w y)):=fun t=>by
        have k1:=one t
        have k2:=fz t
        rw [ev_add,ev_mul,ev_mul]
        have:ev t f*(ev t x*ev t q+ev t y*ev t z)=ev t f:=by rw [k1];grind
        grind
      generalize add (mul f x) (mul w y)=g at fq
      -- f u' = w' u
      have dP:∀t,ev t (der p)=ev t (der q)*ev t u+ev t q*ev t (der u):=fun t=>by
        have e:der p=der (mul q u):=der_ext fun s=>by rw [ev_mul];exact eP s
        rw [e,der_mul,ev_add,ev_mul,ev_mul]
      have fu:∀t,ev t f*ev t (der u)=ev t (sub w (mul g (der q)))*ev t u:=fun t=>by
        have:=cancel (c:=q) (D:=sub (mul f (der u)) (mul (sub w (mul g (der q))) u)) hqne (fun s=>by
          rw [ev_sub,ev_mul,ev_mul,ev_sub,ev_mul]
          have k1:=hw s
          rw [dP s,eP s] at k1
          have k2:=fq s
          have k3:ev s f*(ev s (der q)*ev s u)=ev s q*ev s g*(ev s (der q)*ev s u):=by rw [← k2]
          grind) t
        rw [ev_sub,ev_mul,ev_mul] at this;grind
      obtain ⟨m2,m20,hm2'⟩:=ih u (by omega) huc hun ⟨_,fu⟩
      obtain ⟨M,M0,hM⟩:=ev_bound hR g
      have k1:0<m / (M+1):=div_pos' hm (by grind)
      have k1':m / (M+1)*(M+1)=m:=Rat.div_mul_cancel (by grind)
      generalize m / (M+1)=m1 at k1 k1'
      refine ⟨m1*m2,pos_mul k1 m20,fun t ht=> ?_⟩
      have hq1:m1≤qabs (ev t q):=by
        refine Rat.not_lt.1 fun k=> ?_
        have h3:=le2_mul (qabs_le2.2 (show qabs (ev t q)≤m1 by grind)) (hM t (hI t ht))
        rw [← fq t,qabs_le2] at h3
        have h4:=hf t ht
        grind
      rw [eP t]
      exact qabs_ge (by grind) (by grind) hq1 (hm2' t ht)
theorem low_p {p:List Rat} (hp:(cl p).length≠0) {m R:Rat} (hm:0<m) (hR:0≤R) {I:Rat→Prop} (hI:∀z,I z→le2 z R) (hf:∀z,I z→m≤qabs (ev z (sqf p))):∃m',0<m'∧∀z,I z→m'≤qabs (ev z p):=by
  have hc:=cl_cl p
  have hfn:(sqf p).length≠0:=fun e=>hp ((sqf_nil p).1 e)
  have key:=ode_low hm hR (ev_some (sqf_cl p) hfn) hI hf (cl p).length (cl p) (Nat.le_refl _) hc hp (by
    have hg:=gcd_cl (cl p) (der (cl p))
    have hn:(gcd (cl p) (der (cl p))).length≠0:=gcd_ne (by rw [hc];exact hp)
    obtain ⟨d1,z,hz⟩:=gcd_dvd (cl p) (der (cl p)) hc (der_cl _)
    have hm1:=exact_mul hc hg hn d1
    have he:sqf p=mo (dq (cl p) (gcd (cl p) (der (cl p)))):=if_neg hp
    have hqc:=dq_cl (cl p) (gcd (cl p) (der (cl p)))
    have hq0:(dq (cl p) (gcd (cl p) (der (cl p)))).length≠0:=fun k=>by
      rw [List.length_eq_zero_iff.1 k,mul_nil] at hm1
      exact hp (by rw [← hm1];rfl)
    have hl0:=lead_ne hqc (fun e=>hq0 (by rw [e];rfl))
    refine ⟨scl z (1 / lead (dq (cl p) (gcd (cl p) (der (cl p))))),fun t=> ?_⟩
    have h1:ev t (cl p)=ev t (dq (cl p) (gcd (cl p) (der (cl p))))*ev t (gcd (cl p) (der (cl p))):=by rw [← ev_mul,hm1]
    have h2:=mo_ev hqc t
    rw [← he] at h2
    have h3:1 / lead (dq (cl p) (gcd (cl p) (der (cl p))))*lead (dq (cl p) (gcd (cl p) (der (cl p))))=1:=Rat.div_mul_cancel hl0
    rw [ev_scl,hz t,h1,←h2]
    generalize 1 / lead (dq (cl p) (gcd (cl p) (der (cl p))))=c at*
    generalize lead (dq (cl p) (gcd (cl p) (der (cl p))))=d at*
    have:ev t z*c*(ev t (sqf p)*d*ev t (gcd (cl p) (der (cl p))))=(c*d)*(ev t (sqf p)*(ev t (gcd (cl p) (der (cl p)))*ev t z)):=by grind
    rw [this,h3];grind)
  obtain ⟨m',h1,h2⟩:=key
  exact ⟨m',h1,fun z hz=>by rw [← ev_cl];exact h2 z hz⟩
theorem keep_sign {p:List Rat} {a b m:Rat} (hm:0<m) (h:∀z,a≤z→z≤b→m≤qabs (ev z p)) {z:Rat} (h1:a≤z) (h2:z≤b) (h0:0<ev a p):0<ev z p:=by
  by_cases e:a=z
  · rw [← e];exact h0
  · have haz : a < z := by grind
    have hR:0≤qabs a+qabs b:=le2_nonneg (in_R (a:=a) (b:=b) (z:=a) Rat.le_refl (by grind))
    obtain ⟨L,hL,hl⟩:=ev_lip hR p
    have k1:0<m / (L+1):=div_pos' hm (by grind)
    have k1':m / (L+1)*(L+1)=m:=Rat.div_mul_cancel (by grind)
    generalize m / (L+1)=d at k1 k1'
    have:=walk (P:=fun x y=>a≤x→y≤b→0<ev x p→0<ev y p) (R:=qabs a+qabs b) k1 (fun x y hx hy hxy hle h3 h4 h5=>by
      have a1:=(hl x y hx hy (by grind)).1
      have a2:=Rat.mul_nonneg hL (show 0≤d - (y - x) by grind)
      have a3:=h x h3 (by grind)
      unfold qabs at a3
      split at a3 <;> grind) (fun x z y h3 h4 f1 f2 h5 h6 h7=>f2 (by grind) h6 (f1 h5 (by grind) h7)) a z (in_R Rat.le_refl (by grind)) (in_R h1 h2) haz
    exact this Rat.le_refl h2 h0
theorem sturm_pos {p:List Rat} {a b:Rat} (hab:a<b) (h:bt (sturm p) a b=0) (h0:0<ev a p) {z:Rat} (h1:a≤z) (h2:z≤b):0<ev z p:=by
  have hp:(cl p).length≠0:=cl_ne ⟨a,by grind⟩
  have hfa:ev a (sqf p)≠0:=fun k=>by have:=(sqf_root hp a).1 k;grind
  have hR:0≤qabs a+qabs b:=le2_nonneg (in_R (a:=a) (b:=b) (z:=a) Rat.le_refl (by grind))
  have hk:=fun z h3 h4=>sqf_keeps hp hab h (z:=z) h3 h4
  obtain ⟨m,m0,hm⟩:∃m,0<m∧∀z,a≤z→z≤b→m≤qabs (ev z (sqf p)):=by
    by_cases hs:0<ev a (sqf p)
    · exact sqf_low hp (s:=1) (by grind) (.inl rfl) (fun z h3 h4=>by have:=(hk z h3 h4).1 hs;grind)
    · exact sqf_low hp (s:= -1) (by grind) (.inr rfl) (fun z h3 h4=>by have:=(hk z h3 h4).2 (by grind);grind)
  obtain ⟨m',m1,hm'⟩:=low_p hp m0 hR (I:=fun z=>a≤z∧z≤b) (fun z hz=>in_R hz.1 hz.2) (fun z hz=>hm z hz.1 hz.2)
  exact keep_sign m1 (fun z h3 h4=>hm' z ⟨h3,h4⟩) h1 h2 h0
end Go.Proofs.YtahiajepeodhoaaGreat.Po
namespace Go.Proofs.YtahiajepeodhoaaGreat.Cam
open Big
set_option linter.unusedVariables false
def dc (u v:Rat) (b:Nat→Rat):Nat→Rat:=fun i=>u*b i+v*b (i+1)
def it (u v:Rat):Nat→(Nat→Rat)→Nat→Rat
  |0,b=>b
  |n+1,b=>it u v n (dc u v b)
theorem dc_comm (u v u' v':Rat) (b:Nat→Rat):dc u v (dc u' v' b)=dc u' v' (dc u v b):=by
  funext i;unfold dc;grind
theorem it_dc (u v u' v':Rat):∀(n:Nat) (b:Nat→Rat),it u v n (dc u' v' b)=dc u' v' (it u v n b)
  |0,_=>rfl
  |n+1,b=>by
    show it u v n (dc u v (dc u' v' b))=dc u' v' (it u v n (dc u v b))
    rw [dc_comm,it_dc u v u' v' n]
theorem it_succ (u v:Rat) (n:Nat) (b:Nat→Rat):it u v (n+1) b=dc u v (it u v n b):=it_dc u v u v n b
theorem it_congr {u v:Rat}:∀(n:Nat) {b b':Nat→Rat} {k:Nat},(∀i,i≤n+k→b i=b' i)→∀i,i≤k→it u v n b i=it u v n b' i
  |0,b,b',k,h=>fun i hi=>h i (by omega)
  |n+1,b,b',k,h=>fun i hi=>it_congr n (b:=dc u v b) (b':=dc u v b') (k:=k) (fun j hj=>by unfold dc;rw [h j (by omega),h (j+1) (by omega)]) i hi
theorem it_pos {u v:Rat} (hu:0≤u) (hv:0≤v) (h1:u+v=1):∀(n:Nat) {b:Nat→Rat},(∀i,i≤n→0<b i)→0<it u v n b 0
  |0,b,h=>h 0 (Nat.le_refl _)
  |n+1,b,h=>it_pos hu hv h1 n (b:=dc u v b) fun i hi=>by
    have a:=h i (by omega)
    have c:=h (i+1) (by omega)
    have d:=Rat.mul_nonneg hu (show 0≤b i by grind)
    have e:=Rat.mul_nonneg hv (show 0≤b (i+1) by grind)
    show 0<u*b i+v*b (i+1)
    by_cases k:0<u
    · have:=Rat.mul_pos k a;grind
    · have e1 : u = 0 := by grind
      have e2:v=1:=by grind
      rw [e1,e2];grind
def hf (b:Nat→Rat):Nat→Rat:=dc (Rat.divInt 1 2) (Rat.divInt 1 2) b
def hfn (n:Nat) (b:Nat→Rat):Nat→Rat:=it (Rat.divInt 1 2) (Rat.divInt 1 2) n b
def lfS (b:Nat→Rat):Nat→Rat:=fun k=>hfn k b 0
theorem left_it (u v:Rat):∀(n:Nat) (b:Nat→Rat),it u v n (lfS b)=lfS (it (u+v*Rat.divInt 1 2) (v*Rat.divInt 1 2) n b)
  |0,_=>rfl
  |n+1,b=>by
    have key:dc u v (lfS b)=lfS (dc (u+v*Rat.divInt 1 2) (v*Rat.divInt 1 2) b):=by
      funext k
      show u*hfn k b 0+v*hfn (k+1) b 0=it _ _ k (dc _ _ b) 0
      rw [it_dc]
      unfold hfn
      rw [it_succ]
      unfold dc
      grind
    show it u v n (dc u v (lfS b))=lfS (it _ _ n (dc _ _ b))
    rw [key,left_it u v n]
def rtS (n:Nat) (b:Nat→Rat):Nat→Rat:=fun i=>hfn (n - i) b i
theorem right_it (u v:Rat):∀(n:Nat) (b:Nat→Rat),it u v n (rtS n b) 0=it (u*Rat.divInt 1 2) (u*Rat.divInt 1 2+v) n b 0
  |0,_=>rfl
  |n+1,b=>by
    have key:∀i,i≤n+0→dc u v (rtS (n+1) b) i=rtS n (dc (u*Rat.divInt 1 2) (u*Rat.divInt 1 2+v) b) i:=fun i hi=>by
      show u*hfn (n+1 - i) b i+v*hfn (n+1 - (i+1)) b (i+1)=it _ _ (n - i) (dc _ _ b) i
      rw [it_dc,show n+1 - (i+1)=n - i by omega,show n+1 - i=(n - i)+1 by omega]
      unfold hfn
      rw [it_succ]
      unfold dc
      grind
    show it u v n (dc u v (rtS (n+1) b)) 0=it _ _ n (dc _ _ b) 0
    rw [it_congr n key 0 (Nat.le_refl _),right_it u v n]
def sq_ (l:List Rat):Nat→Rat:=fun i=>l.getD i 0
theorem rsA_at (l:List Rat):∀j,j≤l.length→∀i,i+j<l.length→(rsA l j).getD i 0=hfn j (sq_ l) i
  |0,_,i,_=>rfl
  |j+1,hj,i,hi=>by
    show (hin (rsA l j) (l.length - j - 1)).getD i 0=_
    rw [hin_get _ _ (by rw [rsA_len];omega),if_pos (by omega),rsA_at l j (by omega) i (by omega),rsA_at l j (by omega) (i+1) (by omega),hv_eq]
    show _=it _ _ (j+1) (sq_ l) i
    rw [it_succ]
    unfold hfn dc
    grind
theorem rsA_end (l:List Rat):∀j i,i<l.length→l.length≤i+j+1→(rsA l j).getD i 0=hfn (l.length - 1 - i) (sq_ l) i
  |0,i,h1,h2=>by
    rw [show l.length - 1 - i=0 by omega];rfl
  |j+1,i,h1,h2=>by
    by_cases h:l.length≤i+j+1
    · show (hin (rsA l j) (l.length - j - 1)).getD i 0 = _
      rw [hin_get _ _ (by rw [rsA_len];omega),if_neg (by omega)]
      exact rsA_end l j i h1 h
    · rw [rsA_at l (j+1) (by omega) i (by omega),show l.length - 1 - i=j+1 by omega]
theorem any_np {l:List Rat} (h:l.any np=false) (i:Nat) (hi:i<l.length):0<l.getD i 0:=by
  have:=List.any_eq_false.1 h l[i] (List.getElem_mem hi)
  rw [np_iff] at this
  rw [List.getD_eq_getElem?_getD,List.getElem?_eq_getElem hi,Option.getD_some]
  grind
theorem half_half:Rat.divInt 1 2+Rat.divInt 1 2=1:=by decide +kernel
theorem sure_pos:∀(d:Nat) (l:List Rat),sure d l=1→1≤l.length→∀x,0≤x→x≤1→0<it (1 - x) x (l.length - 1) (sq_ l) 0:=by
  have base:∀(l:List Rat),l.any np=false→1≤l.length→∀x,0≤x→x≤1→0<it (1 - x) x (l.length - 1) (sq_ l) 0:=fun l h hl x h0 h1=>
    it_pos (by grind) h0 (by grind) _ fun i hi=>any_np h i (by omega)
  intro d
  induction d with
  |zero=>
    intro l h hl x h0 h1
    unfold sure at h
    split at h
    · omega
    · split at h
      · rename_i k;exact base l k hl x h0 h1
      · omega
  |succ d ih=>
    intro l h hl x h0 h1
    by_cases k1:ends l
    · rw [sure_ends k1] at h;omega
    · by_cases k2 : l.any np = false
      · exact base l k2 hl x h0 h1
      · by_cases k3 : sure d (lfA l l.length) < 0 ∨ sure d (rsA l l.length) < 0
        · rw [sure_neg k1 k2 k3] at h;omega
        · rw [sure_min k1 k2 k3] at h
          have r1:=sure_rng d (lfA l l.length)
          have r2:=sure_rng d (rsA l l.length)
          have e1:sure d (lfA l l.length)=1:=by omega
          have e2:sure d (rsA l l.length)=1:=by omega
          have hh:=half_half
          rcases Rat.le_total (a:=x) (b:=Rat.divInt 1 2) with hx|hx
          · have := ih _ e1 (by rw [lfA_len]; exact hl) (x * 2) (by grind) (by grind)
            rw [lfA_len,it_congr (k:=0) _ (b':=lfS (sq_ l)) (fun i hi=>by
              show (lfA l l.length).getD i 0=_
              rw [lfA_get,if_pos (by omega),rsA_at l i (by omega) 0 (by omega)];rfl) 0 (Nat.le_refl _),left_it] at this
            have e3:1 - x*2+x*2*Rat.divInt 1 2=1 - x:=by grind
            have e4:x*2*Rat.divInt 1 2=x:=by grind
            rw [e3,e4] at this
            exact this
          · have := ih _ e2 (by rw [rsA_len]; exact hl) (x * 2 - 1) (by grind) (by grind)
            rw [rsA_len,it_congr (k:=0) _ (b':=rtS (l.length - 1) (sq_ l)) (fun i hi=>by
              show (rsA l l.length).getD i 0=_
              rw [rsA_end l l.length i (by omega) (by omega)];rfl) 0 (Nat.le_refl _),right_it] at this
            have e3:(1 - (x*2 - 1))*Rat.divInt 1 2=1 - x:=by grind
            have e4:1 - x+(x*2 - 1)=x:=by grind
            rw [e3,e4] at this
            exact this
def bin:Nat→Nat→Nat
  |_,0=>1
  |0,_+1=>0
  |n+1,j+1=>bin n (j+1)+bin n j
theorem cho_bin:∀n,n≤8→∀j,j≤n→cho n j=bin n j:=by decide
theorem bin_0:∀n,bin n 0=1:=fun n=>by cases n <;> rfl
theorem bin_hi:∀n j,n<j→bin n j=0
  |0,0,h=>by omega
  |0,j+1,_=>rfl
  |n+1,0,h=>by omega
  |n+1,j+1,h=>by show bin n (j+1)+bin n j=0;rw [bin_hi n (j+1) (by omega),bin_hi n j (by omega)]
def sg (f:Nat→Rat):Nat→Rat
  |0=>0
  |m+1=>sg f m+f m
theorem sg_congr {f g:Nat→Rat}:∀{m:Nat},(∀j,j<m→f j=g j)→sg f m=sg g m
  |0,_=>rfl
  |m+1,h=>by show sg f m+f m=sg g m+g m;rw [sg_congr fun j hj=>h j (by omega),h m (by omega)]
def bc (n:Nat) (a:Nat→Rat) (j:Nat):Rat:=(((bin n j:Nat):Int):Rat)*a j
theorem bc_step (i:Nat) (a:Nat→Rat):∀m,sg (bc (i+1) a) (m+1)=sg (bc i a) (m+1)+sg (bc i (fun j=>a (j+1))) m
  |0=>by
    show (0:Rat)+bc (i+1) a 0=0+bc i a 0+0
    unfold bc;rw [bin_0,bin_0];grind
  |m+1=>by
    show sg (bc (i+1) a) (m+1)+bc (i+1) a (m+1)=sg (bc i a) (m+1)+bc i a (m+1)+(sg (bc i (fun j=>a (j+1))) m+bc i (fun j=>a (j+1)) m)
    rw [bc_step i a m]
    have:bc (i+1) a (m+1)=bc i a (m+1)+bc i (fun j=>a (j+1)) m:=by
      unfold bc
      rw [show bin (i+1) (m+1)=bin i (m+1)+bin i m from rfl,Int.natCast_add,Rat.intCast_add];grind
    rw [this];grind
theorem sg_add (f g:Nat→Rat):∀m,sg (fun j=>f j+g j) m=sg f m+sg g m
  |0=>by show (0:Rat)=0+0;grind
  |m+1=>by show sg (fun j=>f j+g j) m+(f m+g m)=sg f m+f m+(sg g m+g m);rw [sg_add f g m];grind
theorem it_11:∀(i:Nat) (a:Nat→Rat),it 1 1 i a 0=sg (bc i a) (i+1)
  |0,a=>by show a 0=0+bc 0 a 0;unfold bc;rw [bin_0];grind
  |i+1,a=>by
    show it 1 1 i (dc 1 1 a) 0=_
    rw [it_11 i (dc 1 1 a),bc_step i a (i+1)]
    have h1:sg (bc i a) (i+1+1)=sg (bc i a) (i+1):=by
      show sg (bc i a) (i+1)+bc i a (i+1)=_
      unfold bc;rw [bin_hi i (i+1) (by omega)];grind
    rw [h1,←sg_add]
    refine sg_congr fun j _=> ?_
    unfold bc dc;grind
def tbS (a:Nat→Rat):Nat→Rat:=fun i=>it 1 1 i a 0
theorem tb_it (x:Rat):∀(n:Nat) (a:Nat→Rat),it (1 - x) x n (tbS a)=tbS (it 1 x n a)
  |0,_=>rfl
  |n+1,a=>by
    have key:dc (1 - x) x (tbS a)=tbS (dc 1 x a):=by
      funext k
      show (1 - x)*it 1 1 k a 0+x*it 1 1 (k+1) a 0=it 1 1 k (dc 1 x a) 0
      rw [it_dc,it_succ]
      unfold dc
      grind
    show it (1 - x) x n (dc (1 - x) x (tbS a))=tbS (it 1 x n (dc 1 x a))
    rw [key,tb_it x n]
def pw (x:Rat):Nat→Rat
  |0=>1
  |j+1=>pw x j*x
theorem it_1x (x:Rat):∀(n:Nat) (a:Nat→Rat),(fun j=>pw x j*it 1 x n a j)=it 1 1 n (fun j=>pw x j*a j)
  |0,_=>rfl
  |n+1,a=>by
    show (fun j=>pw x j*it 1 x n (dc 1 x a) j)=it 1 1 n (dc 1 1 (fun j=>pw x j*a j))
    rw [it_1x x n (dc 1 x a)]
    congr 1
    funext j
    show pw x j*(1*a j+x*a (j+1))=1*(pw x j*a j)+1*(pw x j*x*a (j+1))
    grind
theorem sg_shift (f:Nat→Rat):∀m,sg f (m+1)=f 0+sg (fun j=>f (j+1)) m
  |0=>by show (0:Rat)+f 0=f 0+0;grind
  |m+1=>by show sg f (m+1)+f (m+1)=f 0+(sg (fun j=>f (j+1)) m+f (m+1));rw [sg_shift f m];grind
theorem sg_mul (f:Nat→Rat) (y:Rat):∀m,sg (fun j=>f j*y) m=sg f m*y
  |0=>by show (0:Rat)=0*y;grind
  |m+1=>by show sg (fun j=>f j*y) m+f m*y=(sg f m+f m)*y;rw [sg_mul f y m];grind
theorem ev_sg (y:Rat):∀l:List Rat,Po.ev y l=sg (fun j=>l.getD j 0*pw y j) l.length
  |[]=>rfl
  |a :: l=>by
    show Po.ev y l*y+a=sg _ (l.length+1)
    rw [sg_shift,ev_sg y l,←sg_mul]
    have:sg (fun j=>l.getD j 0*pw y j*y) l.length=sg (fun j=>(a :: l).getD (j+1) 0*pw y (j+1)) l.length:=sg_congr fun j _=>by
      show l.getD j 0*pw y j*y=l.getD j 0*(pw y j*y);grind
    rw [this]
    show _+a=a*1+_
    grind
theorem pwq_pw (t:Rat):∀j,pwq t j=pw t j
  |0=>rfl
  |j+1=>by show mulL [pwq t j,t]=pw t j*t;rw [mul2,pwq_pw t j]
theorem pw_mul (x t:Rat):∀j,pw (x*t) j=pw x j*pw t j
  |0=>by show (1:Rat)=1*1;grind
  |j+1=>by show pw (x*t) j*(x*t)=pw x j*x*(pw t j*t);rw [pw_mul x t j];grind
theorem bs_sg (T:List Rat) {i:Nat} (hi:i≤8):∀m,m≤i+1→bs T i m=sg (bc i (sq_ T)) m
  |0,_=>rfl
  |m+1,hm=>by
    show sumL [bs T i m,mulL [(((cho i m:Nat):Int):Rat),T.getD m 0]]=sg (bc i (sq_ T)) m+bc i (sq_ T) m
    rw [sum2,mul2,bs_sg T hi m (by omega),cho_bin i hi m (by omega)];rfl
theorem bern_ev {l:List Rat} {t:Rat} (h1:1≤l.length) (h9:l.length≤9) (x:Rat):it (1 - x) x (l.length - 1) (sq_ (bern l t)) 0=Po.ev (x*t) l:=by
  rw [it_congr (k:=0) _ (b':=tbS (sq_ (tms l t))) (fun i hi=>by
    show (bern l t).getD i 0=_
    rw [bern_get (by omega),bs_sg _ (by omega) _ (Nat.le_refl _)]
    exact (it_11 i _).symm) 0 (Nat.le_refl _),tb_it]
  show it 1 x (l.length - 1) (sq_ (tms l t)) 0=_
  have e:=congrFun (it_1x x (l.length - 1) (sq_ (tms l t))) 0
  have e1:pw x 0*it 1 x (l.length - 1) (sq_ (tms l t)) 0=it 1 x (l.length - 1) (sq_ (tms l t)) 0:=by show 1*_=_;grind
  rw [← e1]
  refine e.trans ?_
  rw [it_11,show l.length - 1+1=l.length by omega,ev_sg]
  refine sg_congr fun j hj=> ?_
  show bc (l.length - 1) (fun j=>pw x j*(tms l t).getD j 0) j=_
  show (((bin (l.length - 1) j:Nat):Int):Rat)*(pw x j*(tms l t).getD j 0)=_
  rw [tms_get hj]
  show _*(pw x j*mulL [l.getD j 0,pwq t j,Rat.divInt 1 ((cho (l.length - 1) j:Nat):Int)])=_
  rw [mul3,pwq_pw,pw_mul,cho_bin _ (by omega) _ (by omega)]
  have hb:bin (l.length - 1) j≠0:=by
    have:=(cho_rng (l.length - 1) (by omega) j (by omega)).1
    rw [cho_bin _ (by omega) _ (by omega)] at this;omega
  have hb':(((bin (l.length - 1) j:Nat):Int):Rat)≠0:=fun k=>by
    have:=Rat.intCast_inj.1 (k.trans (show (0:Rat)=((0:Int):Rat) from rfl));omega
  have hd:Rat.divInt 1 ((bin (l.length - 1) j:Nat):Int)*(((bin (l.length - 1) j:Nat):Int):Rat)=1:=by
    rw [Rat.divInt_eq_div];exact Rat.div_mul_cancel hb'
  generalize (((bin (l.length - 1) j:Nat):Int):Rat)=q at*
  generalize Rat.divInt 1 ((bin (l.length - 1) j:Nat):Int)=r at*
  have:q*(pw x j*(l.getD j 0*pw t j*r))=(r*q)*(l.getD j 0*(pw x j*pw t j)):=by grind
  rw [this,hd];grind
theorem pos_sound {p:List Rat} {t:Rat} (h:pos p t=true) (h9:p.length≤9) {y:Rat} (h0:0≤y) (h1:y≤t):0<Po.ev y p:=by
  have z0:((0:Int):Rat)=0:=rfl
  by_cases k:Po.ev ((0:Int):Rat) p≤0
  · rw [pos_no k] at h;cases h
  · have k0 : 0 < Po.ev 0 p := by rw [z0] at k; grind
    have hl:=pos_len k
    by_cases ht:t=0
    · have : y = 0 := by grind
      rw [this];exact k0
    · have ht0 : 0 < t := by grind
      by_cases hs:sure 5 (bern p t)≠0
      · rw [pos_su k hs, decide_eq_true_eq] at h
        have hr:=sure_rng 5 (bern p t)
        have e:y / t*t=y:=Rat.div_mul_cancel ht
        have q0:0≤y / t:=by
          refine Rat.not_lt.1 fun q=> ?_
          have:=Rat.mul_pos (show 0< -(y / t) by grind) ht0;grind
        have q1:y / t≤1:=by
          refine Rat.not_lt.1 fun q=> ?_
          have:=Rat.mul_pos (show 0<y / t - 1 by grind) ht0;grind
        have:=sure_pos 5 (bern p t) (by omega) (by rw [bern_len];exact hl) (y / t) q0 q1
        rw [bern_len,bern_ev hl h9,e] at this
        exact this
      · rw [pos_ct k hs, decide_eq_true_eq, z0] at h
        exact Po.sturm_pos ht0 h k0 h0 h1
end Go.Proofs.YtahiajepeodhoaaGreat.Cam
namespace Go.Proofs.YtahiajepeodhoaaGreat.Cam
open Big
set_option linter.unusedVariables false
theorem mono_der {g:List Rat} {a b d:Rat} (hd:0<d) (h:∀z,a≤z→z≤b→d≤Po.ev z (Po.der g)) {x y:Rat} (h1:a≤x) (h2:x<y) (h3:y≤b):Po.ev x g<Po.ev y g:=by
  have hR:0≤qabs a+qabs b:=Po.le2_nonneg (Po.in_R (a:=a) (b:=b) (z:=x) h1 (by grind))
  obtain ⟨K,hK,hk⟩:=Po.ev_tay hR g
  have r1:0<d / (K+1):=Po.div_pos' hd (by grind)
  have r1':d / (K+1)*(K+1)=d:=Rat.div_mul_cancel (by grind)
  generalize d / (K+1)=r at r1 r1'
  exact Po.walk (P:=fun u v=>a≤u→v≤b→Po.ev u g<Po.ev v g) (R:=qabs a+qabs b) r1 (fun u v hu hv huv hle h4 h5=>by
    have a1:=(hk u v hu hv (by grind)).1
    have a2:=h u h4 (by grind)
    have a3:=Rat.mul_nonneg hK (show 0≤r - (v - u) by grind)
    have a4:0<d - K*(v - u):=by grind
    have a5:=Rat.mul_pos (show 0<v - u by grind) a4
    have a6:=Rat.mul_nonneg (show 0≤v - u by grind) (show 0≤Po.ev u (Po.der g) - d by grind)
    grind) (fun u z v h4 h5 f1 f2 h6 h7=>by
    have:=f1 h6 (by grind)
    have:=f2 (by grind) h7
    grind) x y (Po.in_R h1 (by grind)) (Po.in_R (by grind) h3) h2 h1 h3
theorem ev_xx (x:Rat):Po.ev x xx=x:=by show (0*x+((1:Int):Rat))*x+((0:Int):Rat)=x;rw [show ((1:Int):Rat)=1 from rfl,show ((0:Int):Rat)=0 from rfl];grind
theorem ev_1 (x c:Rat):Po.ev x [c]=c:=by show 0*x+c=c;grind
theorem ev_alo (e:Ln) (x:Rat):Po.ev x (alo e)=Po.ev x (rl e)+x*Po.ev x (Po.der (rl e))*2:=by
  unfold alo
  rw [Po.ev_add,Po.ev_mul,Po.ev_mul,ev_xx,ev_1];rfl
theorem ev_dk (p:List Rat) (k:Int) (x:Rat):Po.ev x (dk p k)=Po.ev x p - Rat.divInt k 256:=by
  unfold dk
  rw [Po.ev_sub,ev_1]
theorem k_pos {k:Nat} (h:k≠0):0<Rat.divInt ((k:Nat):Int) 256:=by
  have e:Rat.divInt ((k:Nat):Int) 256*((256:Int):Rat)=(((k:Nat):Int):Rat):=by
    rw [Rat.divInt_eq_div];exact Rat.div_mul_cancel (by decide +kernel)
  have h1:(((1:Int)):Rat)≤(((k:Nat):Int):Rat):=Rat.intCast_le_intCast.2 (by omega)
  rw [show ((1:Int):Rat)=1 from rfl] at h1
  rw [show ((256:Int):Rat)=256 from rfl] at e
  grind
theorem rad_low {e:Ln} (h:md e≠0):∃d,0<d∧∀x,0≤x→x≤lim e→d≤Po.ev x (rl e)∧d≤Po.ev x (rl e)+x*Po.ev x (Po.der (rl e))*2:=by
  have ha:=md_adm h
  unfold adm adm1 at ha
  simp only [Bool.and_eq_true] at ha
  obtain ⟨⟨a1,-⟩,a2,-⟩:=ha
  refine ⟨_,k_pos h,fun x h0 h1=> ?_⟩
  have b1:=pos_sound a1 (by have:=dk_len (k:=((md e:Nat):Int)) (rl_len e);omega) h0 h1
  have b2:=pos_sound a2 (by have:=dk_len (k:=((md e:Nat):Int)) (alo_len e);omega) h0 h1
  rw [ev_dk] at b1 b2
  rw [ev_alo] at b2
  constructor <;> grind
theorem rad_mono {e:Ln} (h:md e≠0) {s t:Rat} (h0:0≤s) (h1:s<t) (h2:t≤lim e):s*(Po.ev s (rl e)*Po.ev s (rl e))<t*(Po.ev t (rl e)*Po.ev t (rl e)):=by
  obtain ⟨d,hd,hl⟩:=rad_low h
  have hdx:Po.der xx=[((1:Int):Rat)]:=by decide +kernel
  have key:=mono_der (g:=Po.mul xx (Po.mul (rl e) (rl e))) (a:=0) (b:=lim e) (d:=d*d) (Rat.mul_pos hd hd) (fun z z0 z1=>by
    obtain ⟨a1,a2⟩:=hl z z0 z1
    rw [Po.der_mul,Po.ev_add,Po.ev_mul,Po.ev_mul,Po.der_mul,Po.ev_mul,Po.ev_add,Po.ev_mul,Po.ev_mul,ev_xx,hdx,ev_1,show ((1:Int):Rat)=1 from rfl]
    generalize Po.ev z (rl e)=R at*
    generalize Po.ev z (Po.der (rl e))=S at*
    have b1:=Rat.mul_nonneg (show 0≤R - d by grind) (show 0≤R+z*S*2 by grind)
    have b2:=Rat.mul_nonneg (show 0≤d by grind) (show 0≤R+z*S*2 - d by grind)
    grind) h0 h1 h2
  rw [Po.ev_mul,Po.ev_mul,Po.ev_mul,Po.ev_mul,ev_xx,ev_xx] at key
  exact key
def rz (e:Ln):Ln:=⟨e.f,e.cx,e.cy,e.r0,e.r1,e.r2,0,0,e.fd⟩
theorem rz_in {e:Ln} (h:In e):In (rz e):=⟨h.f,h.cx,h.cy,h.r0,h.r1,h.r2,(by decide:(-9223372036854775808:Int)≤0∧(0:Int)≤9223372036854775807),(by decide:(-9223372036854775808:Int)≤0∧(0:Int)≤9223372036854775807),h.fd⟩
theorem tz1 (e:Ln):tP1 (rz e)=0:=by show Rat.divInt 0 0x100000=0;decide +kernel
theorem tz2 (e:Ln):tP2 (rz e)=0:=by show Rat.divInt 0 0x100000=0;decide +kernel
theorem dX_rz (e:Ln) (x y:Rat):dX (rz e) x y=x*Po.ev (sq x y) (rl (rz e)):=by unfold dX;rw [tz1,tz2];grind
theorem dY_rz (e:Ln) (x y:Rat):dY (rz e) x y=y*Po.ev (sq x y) (rl (rz e)):=by unfold dY;rw [tz1,tz2];grind
theorem cross0 (e:Ln) (x y:Rat):dX (rz e) x y*y - dY (rz e) x y*x=0:=by rw [dX_rz,dY_rz];grind
theorem sq_0 (x y:Rat):0≤sq x y:=by
  have hs:∀z:Rat,0≤z*z:=fun z=>by
    rcases Rat.le_total (a:=0) (b:=z) with k|k
    · exact Rat.mul_nonneg k k
    · have:=Rat.mul_nonneg (show 0≤ -z by grind) (show 0≤ -z by grind);grind
  have:=hs x
  have:=hs y
  unfold sq;grind
theorem dot0 {e:Ln} (h:md (rz e)≠0) {x y:Rat} (hi:ins (rz e) x y):0≤dX (rz e) x y*x+dY (rz e) x y*y:=by
  obtain ⟨d,hd,hl⟩:=rad_low h
  have h0:=sq_0 x y
  have h1:=(hl (sq x y) h0 hi).1
  rw [dX_rz,dY_rz]
  have:=Rat.mul_nonneg h0 (show 0≤Po.ev (sq x y) (rl (rz e)) by grind)
  have e1:x*Po.ev (sq x y) (rl (rz e))*x+y*Po.ev (sq x y) (rl (rz e))*y=sq x y*Po.ev (sq x y) (rl (rz e)):=by
    generalize Po.ev (sq x y) (rl (rz e))=R;unfold sq;grind
  rw [e1];exact this
theorem s_rng {n:Int} (h:0≤n∧n≤255):0≤Rat.divInt n 256∧Rat.divInt n 256<1:=by
  have e:Rat.divInt n 256*((256:Int):Rat)=((n:Int):Rat):=by
    rw [Rat.divInt_eq_div];exact Rat.div_mul_cancel (by decide +kernel)
  have h1:((0:Int):Rat)≤((n:Int):Rat):=Rat.intCast_le_intCast.2 h.1
  have h2:((n:Int):Rat)≤((255:Int):Rat):=Rat.intCast_le_intCast.2 h.2
  rw [show ((0:Int):Rat)=0 from rfl] at h1
  rw [show ((255:Int):Rat)=255 from rfl] at h2
  rw [show ((256:Int):Rat)=256 from rfl] at e
  constructor <;> grind
theorem sq_s (x y s:Rat):sq (x*s) (y*s)=s*s*sq x y:=by unfold sq;grind
theorem sq_less {x y s:Rat} (h:0≤s∧s<1):sq (x*s) (y*s)≤sq x y:=by
  rw [sq_s]
  have:=sq_0 x y
  have a:=Rat.mul_nonneg h.1 (show 0≤1 - s by grind)
  have b:=Rat.mul_nonneg (show 0≤1 - s*s by grind) this
  grind
theorem ins_s {e:Ln} {x y s:Rat} (h:0≤s∧s<1) (hi:ins e x y):ins e (x*s) (y*s):=Rat.le_trans (sq_less h) hi
theorem out_less {e:Ln} (h:md (rz e)≠0) {x y s:Rat} (hs:0≤s∧s<1) (hi:ins (rz e) x y) (h0:sq x y≠0):sq (dX (rz e) (x*s) (y*s)) (dY (rz e) (x*s) (y*s))<sq (dX (rz e) x y) (dY (rz e) x y):=by
  have g:∀u v:Rat,sq (dX (rz e) u v) (dY (rz e) u v)=sq u v*(Po.ev (sq u v) (rl (rz e))*Po.ev (sq u v) (rl (rz e))):=fun u v=>by
    rw [dX_rz,dY_rz];generalize Po.ev (sq u v) (rl (rz e))=R;unfold sq;grind
  rw [g,g]
  refine rad_mono h (sq_0 _ _) ?_ hi
  rw [sq_s]
  have:=sq_0 x y
  have a:=Rat.mul_nonneg hs.1 (show 0≤1 - s by grind)
  have b:=Rat.mul_pos (show 0<1 - s*s by grind) (show 0<sq x y by grind)
  grind
end Go.Proofs.YtahiajepeodhoaaGreat.Cam
namespace Go.Proofs.YtahiajepeodhoaaGreat.Sp
open Go
set_option linter.unusedVariables false
set_option maxRecDepth 100000
set_option maxHeartbeats 8000000
theorem zge {e:Cam.Ln} {u1:Wd} {u2:Wd} {v1:Wd} {v2:Wd} {xo:Option Rat} {yo:Option Rat} (hin:Cam.In e) (hok:Cam.ok e) (hx:yb (xo.getD 0)≤100) (hy:yb (yo.getD 0)≤100) (hx1:xo.isSome=true) (hy1:yo.isSome=true):Con Tryz.prog 10 [.agg #[.int .i64 (e.f),.int .i64 (e.cx),.int .i64 (e.cy),.int .i64 (e.r0),.int .i64 (e.r1),.int .i64 (e.r2),.int .i64 (e.p1),.int .i64 (e.p2),.int .i64 (e.fd)],.agg #[u1.b,u1.l,u2.b,u2.l,v1.b,v1.l,v2.b,v2.l]] [] [eF u1 u2 xo,eF v1 v2 yo] (Y:=Unit) (fun y=>True) (fun y=> .bool (decide (Cam.ins e (xo.getD 0) (yo.getD 0)))) (fun y=>[]) (fun y=>[]):=by
 refine zl Tryz.func10 rfl rfl rfl (fun c=> ?_)
 show RunC _ _ _ _ _ [(0,.agg #[.int .i64 (e.f),.int .i64 (e.cx),.int .i64 (e.cy),.int .i64 (e.r0),.int .i64 (e.r1),.int .i64 (e.r2),.int .i64 (e.p1),.int .i64 (e.p2),.int .i64 (e.fd)]),(1,.agg #[u1.b,u1.l,u2.b,u2.l,v1.b,v1.l,v2.b,v2.l])] [] [eF u1 u2 xo,eF v1 v2 yo]
 have hlq:=Cam.lim_hq hin hok
 have hsq:=Cam.sq_hq hx hy
 refine ze<|za<|zI rfl rfl (zR rfl rfl) (fun b1=> ?_)
 refine zI rfl rfl (zR rfl rfl) (fun b2=> ?_)
 refine e_p (zb rfl)<|zf<|zd<|ze<|zTb (qF xo.isSome u1 u2 (xo.getD 0)) (eF_weak 0 rfl)<|zTb (qF yo.isSome v1 v2 (yo.getD 0)) (eF_weak 2 rfl) ?_
 have e3:xo.isSome=true:=by exact hx1
 rw [e3]
 have e4:yo.isSome=true:=by exact hy1
 rw [e4]
 refine zV (OW:=[]) (O:=[boxA b2 34 (cw [u1,u2,v1,v2]),boxA b1 27 [.int .i64 (e.f),.int .i64 (e.cx),.int .i64 (e.cy),.int .i64 (e.r0),.int .i64 (e.r1),.int .i64 (e.r2),.int .i64 (e.p1),.int .i64 (e.p2),.int .i64 (e.fd)]]) 100000 mixed (.then .ret) kr<|e_u 0 rfl rfl (zc 0 ty34 rfl rfl (.t8 .nil))<|e_u 2 rfl rfl (zc 1 ty27 rfl rfl (.t8 (.take .nil)))<|e_one 1 (zp rfl rfl rfl rfl (.c rfl .n) ce20 (zwe (u1:=u1) (u2:=u2) (v1:=v1) (v2:=v2) (qx:=(xo.getD 0)) (qy:=(yo.getD 0)) (hx:=ass) (hy:=ass)) (.c (j:=1) rfl (.c (j:=0) rfl .n)) ?_)
 rintro ⟨w35,w46⟩ -
 dsimp only [aq,nq,cq]
 refine e_one 3 (zp rfl rfl rfl rfl (.c rfl .n) ce37 (zbf (e:=e) (hin:=ass) (hok:=ass)) (.n) ?_)
 rintro ⟨w37,w48⟩ -
 dsimp only [aq,nq,cq]
 refine e_one 4 (zbb rfl rfl rfl rfl (.c rfl (.c rfl .n)) ce21 (zOb (k1:=true) (u1:=w35) (v1:=w46) (q1:=(Cam.sq (xo.getD 0) (yo.getD 0))) (k2:=true) (u2:=w37) (v2:=w48) (q2:=(Cam.lim e)) (hl:=cbo)) (.c (j:=1) rfl (.c (j:=0) rfl .n)) ?_)
 refine e_pv 5 rfl rfl (zxb rfl rfl)<|e_pv 6 rfl rfl (zb rfl)<|zH kr<|zd<|zC ?_
 exact zu Tryz.results10 () trivial (zn rfl) (by exact congrArg Value.bool (decide_eq_decide.2 Cam.le_iff.symm)) (ho:=oN) sN
theorem zXb {u1:Wd} {u2:Wd} {v1:Wd} {v2:Wd} {qx:Rat} {qy:Rat} (hx:yb qx≤1000000) (hy:yb qy≤1000000):Con Tryz.prog 20 [.agg #[u1.b,u1.l,u2.b,u2.l,v1.b,v1.l,v2.b,v2.l]] [] [qF true u1 u2 qx,qF true v1 v2 qy] (Y:=Wd×Wd) (fun y=>True) (fun y=> .agg #[y.1.b,y.1.l,y.2.b,y.2.l]) (fun y=>[]) (fun y=>[qF true y.1 y.2 (Cam.sq qx qy)]):=by
 refine zl Tryz.func20 rfl rfl rfl (fun c=> ?_)
 show RunC _ _ _ _ _ [(0,.agg #[u1.b,u1.l,u2.b,u2.l,v1.b,v1.l,v2.b,v2.l])] [] [qF true u1 u2 qx,qF true v1 v2 qy]
 have hm1:=yc qx qx
 have hm2:=yc qy qy
 have hm3:=Big.hq_add (qx*qx) (qy*qy)
 refine ze<|za<|zI rfl rfl (zR rfl rfl) (fun b1=> ?_)
 refine zI rfl rfl (zr zr32 rfl) (fun b2=> ?_)
 refine zf<|zd<|ze<|zV (OW:=[boxA b2 32 (cw [wz,wz])]) (O:=[boxA b1 34 (cw [u1,u2,v1,v2])]) 11 mixed (.then .ret) kr<|e_pv 0 rfl rfl (zg ya rfl sz32 rfl rfl)<|e_uw 1 rfl rfl (zc 1 ty32 rfl rfl (.t4 .nil))<|e_pv 2 rfl rfl (zg ya rfl sz32 rfl rfl)<|e_uw 3 rfl rfl (zc 1 ty32 rfl rfl (.t4 .nil))<|e_pv 5 rfl rfl (zg ya rfl sz32 rfl rfl)<|e_uw 6 rfl rfl (zc 1 ty32 rfl rfl (.s4 (.t4 .nil)))<|e_pv 7 rfl rfl (zg ya rfl sz32 rfl rfl)<|e_uw 8 rfl rfl (zc 1 ty32 rfl rfl (.s4 (.t4 .nil)))<|e_one 4 (zp rfl rfl rfl rfl (.c rfl (.c rfl .n)) ce16 (zSa (k1:=true) (u1:=u1) (v1:=u2) (q1:=qx) (k2:=true) (u2:=u1) (v2:=u2) (q2:=qx) (hl:=cbo)) (.c (j:=0) rfl (.c (j:=0) rfl .n)) ?_)
 rintro ⟨w33,w44⟩ -
 dsimp only [aq,nq,cq]
 refine e_one 9 (zp rfl rfl rfl rfl (.c rfl (.c rfl .n)) ce16 (zSa (k1:=true) (u1:=v1) (v1:=v2) (q1:=qy) (k2:=true) (u2:=v1) (v2:=v2) (q2:=qy) (hl:=cbo)) (.c (j:=2) rfl (.c (j:=2) rfl .n)) ?_)
 rintro ⟨w35,w46⟩ -
 dsimp only [aq,nq,cq]
 refine e_one 10 (zp rfl rfl rfl rfl (.c rfl (.c rfl .n)) ce18 (zyc (k1:=true) (u1:=w33) (v1:=w44) (q1:=qx*qx) (k2:=true) (u2:=w35) (v2:=w46) (q2:=qy*qy) (hl:=cbo)) (.c (j:=1) rfl (.c (j:=0) rfl .n)) ?_)
 rintro ⟨w37,w48⟩ -
 dsimp only [aq,nq,cq]
 refine e_one 11 (zv kr rfl rfl rfl rfl rfl sz32 rfl (.t4 .nil) ?_)
 refine zH kr<|zd<|zC ?_
 exact zu Tryz.results20 (w37,w48) trivial (zo 0 ty32 rfl rfl (.t4 .nil)) rfl (ho:=oN) ((.e (j:=0) rfl (by rfl) .n):SelR _ _ _)
theorem zTc {e:Cam.Ln} {u1:Wd} {u2:Wd} {v1:Wd} {v2:Wd} {xo:Option Rat} {yo:Option Rat} {part:Int} (hin:Cam.In e) (hpa:0≤part∧part≤255):Con Tryz.prog 4 [.agg #[.int .i64 (e.f),.int .i64 (e.cx),.int .i64 (e.cy),.int .i64 (e.r0),.int .i64 (e.r1),.int .i64 (e.r2),.int .i64 (e.p1),.int .i64 (e.p2),.int .i64 (e.fd)],.agg #[u1.b,u1.l,u2.b,u2.l,v1.b,v1.l,v2.b,v2.l],.int .u8 part] [] [eF u1 u2 xo,eF v1 v2 yo] (Y:=Unit) (fun y=>True) (fun y=> .bool true) (fun y=>[]) (fun y=>[]):=by
 refine zl Tryz.func4 rfl rfl rfl (fun c=> ?_)
 show RunC _ _ _ _ _ [(0,.agg #[.int .i64 (e.f),.int .i64 (e.cx),.int .i64 (e.cy),.int .i64 (e.r0),.int .i64 (e.r1),.int .i64 (e.r2),.int .i64 (e.p1),.int .i64 (e.p2),.int .i64 (e.fd)]),(1,.agg #[u1.b,u1.l,u2.b,u2.l,v1.b,v1.l,v2.b,v2.l]),(2,.int .u8 part)] [] [eF u1 u2 xo,eF v1 v2 yo]
 have hin2:=Cam.rz_in hin
 have hs:=Cam.s_rng hpa
 refine ze<|za<|zI rfl rfl (zR rfl rfl) (fun b1=> ?_)
 refine zI rfl rfl (zR rfl rfl) (fun b2=> ?_)
 refine e_p (zb rfl)<|zf<|zd<|ze<|ze<|za<|zJ rfl rfl (.n) ce6 (zPf) (.n)<|e_p (zqb rfl)<|zf<|zd<|zTa rfl rfl<|zB<|zd<|ze<|za<|e_p (zdc zr25 rfl Tryz.underlying25 sz3 .n .n)<|e_p (zg Tryz.underlying27 rfl sz25 rfl rfl)<|zj 1 rfl rfl rfl rfl rfl sz25 rfl (.s4 (.s2 (.t2 .nil))) (.s .z)<|zf<|zd<|ze<|zOa (X:=Bool) (fun x=>(x=false→(yb (xo.getD 0)≤1∧yb (yo.getD 0)≤1)∧Cam.pc (Cam.rz e) [(xo,yo)]=0∧Cam.ins (Cam.rz e) (xo.getD 0) (yo.getD 0))) (fun x=>[(38,.bool x),(4,.pointer (some ⟨b2,0,none⟩)),(3,.pointer (some ⟨b1,0,none⟩)),(2,.int .u8 part)]) (fun x=>[boxA b2 34 (cw [u1,u2,v1,v2]),boxA b1 27 [.int .i64 (e.f),.int .i64 (e.cx),.int .i64 (e.cy),.int .i64 (e.r0),.int .i64 (e.r1),.int .i64 (e.r2),.int .i64 0,.int .i64 0,.int .i64 (e.fd)]]) (fun x=>[eF u1 u2 xo,eF v1 v2 yo]) ?_ ?_
 ·
  refine za<|e_ru (zc 0 ty34 rfl rfl (.t8 .nil))<|zva rfl rfl (zA (r:=rEE) (k:=1) Tryz.underlying56 inf34 rfl dd dd dd (.c (x:=(xo,yo)) (cs:=[u1.b,u1.l,u2.b,u2.l,v1.b,v1.l,v2.b,v2.l]) (u1,u2,v1,v2) rfl rfl rfl (fun g hr=>⟨Holds.get 0 rfl hr,Holds.get 1 rfl hr⟩) .n)) (fun b3 _=> ?_)
  refine zba 0 rfl .z<|zm rfl rfl (.c rfl .n) ce7 (zef (p:=some ⟨b3,0,none⟩) (n:=1) (cap:=1) (l:=[(xo,yo)]) (hn:=by first|rfl|assumption|omega|(simp;done)|decide) (hn9:=by first|rfl|assumption|omega|(simp;done)|decide)) (.c (j:=0) rfl .n) ?_
  rintro b94 hsh
  dsimp only [aq,nq,cq]
  replace hsh:(b94=true→∀i,i<1→(yb ((([(xo,yo)]).getD i ((none:Option Rat),(none:Option Rat))).1.getD 0)≤1∧yb ((([(xo,yo)]).getD i ((none:Option Rat),(none:Option Rat))).2.getD 0)≤1)):=hsh
  refine e_p (zqb rfl)<|zOd rfl rfl (zga rfl) (fun h26=> ?_) (fun h26=> ?_)
  ·
   refine e_no<|e_no<|e_no<|e_no<|e_no<|e_p (zE rfl rfl)<|e_mv rfl<|e_no<|e_no<|e_no<|e_no<|e_p (zE rfl rfl)<|zf ?_
   exact zT true (show (true=false→(yb (xo.getD 0)≤1∧yb (yo.getD 0)≤1)∧Cam.pc (Cam.rz e) [(xo,yo)]=0∧Cam.ins (Cam.rz e) (xo.getD 0) (yo.getD 0)) from by exact fun k=>by cases k) ((.e rfl (congrArg Value.bool cbu) (.of rfl)):SubM _ _) (ho:=((.of [1,1] rfl):PickO _ _ _)) ((.of [1,2] rfl):SelR _ _ _)
  ·
   refine e_ru (zc 2 ty27 rfl rfl (.t8 (.take .nil)))<|e_ru (zc 1 ty34 rfl rfl (.t8 .nil))<|zva rfl rfl (zA (r:=rEE) (k:=1) Tryz.underlying56 inf34 rfl dd dd dd (.c (x:=(xo,yo)) (cs:=[u1.b,u1.l,u2.b,u2.l,v1.b,v1.l,v2.b,v2.l]) (u1,u2,v1,v2) rfl rfl rfl (fun g hr=>⟨Holds.get 1 rfl hr,Holds.get 2 rfl hr⟩) .n)) (fun b5 _=> ?_)
   refine zba 0 rfl .z<|zJ rfl rfl (.c rfl (.c rfl .n)) ce9 (zKf (e:=(Cam.rz e)) (p:=some ⟨b5,0,none⟩) (n:=1) (cap:=1) (l:=[(xo,yo)]) (hin:=by exact hin2) (hn:=by first|rfl|assumption|omega|(simp;done)|decide) (hn9:=by first|rfl|assumption|omega|(simp;done)|decide)) (.c (j:=0) rfl .n)<|e_p (zib rfl rfl)<|e_p (zE rfl rfl)<|zha rfl rfl (zga rfl) (fun h33=> ?_) (fun h33=> ?_)
   ·
    refine e_no<|e_no<|e_no<|e_no<|e_p (zE rfl rfl)<|zf ?_
    exact zT true (show (true=false→(yb (xo.getD 0)≤1∧yb (yo.getD 0)≤1)∧Cam.pc (Cam.rz e) [(xo,yo)]=0∧Cam.ins (Cam.rz e) (xo.getD 0) (yo.getD 0)) from by exact fun k=>by cases k) ((.e rfl (congrArg Value.bool cbu) (.of rfl)):SubM _ _) (ho:=((.of [2,2] rfl):PickO _ _ _)) ((.of [2,3] rfl):SelR _ _ _)
   ·
    refine e_ru (zc 3 ty27 rfl rfl (.t8 (.take .nil)))<|e_ru (zc 2 ty34 rfl rfl (.t8 .nil))<|zJ rfl rfl (.c rfl (.c rfl .n)) ce10 (zge (e:=(Cam.rz e)) (u1:=u1) (u2:=u2) (v1:=v1) (v2:=v2) (xo:=xo) (yo:=yo) (hin:=by exact hin2) (hok:=by exact (Cam.pc_0 (Decidable.not_not.1 h33)).1) (hx:=by exact Nat.le_trans (hsh (by simpa using h26) 0 dd).1 dd) (hy:=by exact Nat.le_trans (hsh (by simpa using h26) 0 dd).2 dd) (hx1:=by exact (Cam.pc_0 (Decidable.not_not.1 h33)).2.1) (hy1:=by exact (Cam.pc_0 (Decidable.not_not.1 h33)).2.2)) (.c (j:=2) rfl (.c (j:=3) rfl .n))<|e_p (zGa rfl)<|e_p (zE rfl rfl)<|zf ?_
    exact zT (decide (¬(Cam.ins (Cam.rz e) (xo.getD 0) (yo.getD 0)))) (show ((decide (¬(Cam.ins (Cam.rz e) (xo.getD 0) (yo.getD 0))))=false→(yb (xo.getD 0)≤1∧yb (yo.getD 0)≤1)∧Cam.pc (Cam.rz e) [(xo,yo)]=0∧Cam.ins (Cam.rz e) (xo.getD 0) (yo.getD 0)) from by exact fun k=>⟨hsh (by simpa using h26) 0 dd,Decidable.not_not.1 h33,Decidable.not_not.1 (of_decide_eq_false k)⟩) (mR rfl) (ho:=((.of [2,2] rfl):PickO _ _ _)) ((.of [2,3] rfl):SelR _ _ _)
 ·
  rintro b8 hC
  replace hC:(b8=false→(yb (xo.getD 0)≤1∧yb (yo.getD 0)≤1)∧Cam.pc (Cam.rz e) [(xo,yo)]=0∧Cam.ins (Cam.rz e) (xo.getD 0) (yo.getD 0)):=hC
  try dsimp only [cw]
  refine zZa rfl (fun h38=> ?_) (fun h38=> ?_)
  ·
   refine ze<|za<|e_p (zb rfl)<|zf<|zd<|zC<|zk ?_
   exact zu Tryz.results4 () trivial (zn rfl) rfl (ho:=oN) sN
  ·
   obtain ⟨⟨hx0,hy0⟩,hz,hii⟩:=hC h38
   have hx:yb (xo.getD 0)≤100:=Nat.le_trans hx0 dd
   have hy:yb (yo.getD 0)≤100:=Nat.le_trans hy0 dd
   obtain ⟨hok,hx1,hy1⟩:=Cam.pc_0 hz
   have hx1:xo.isSome=true:=hx1
   have hy1:yo.isSome=true:=hy1
   refine zTb (qF xo.isSome u1 u2 (xo.getD 0)) (eF_weak 0 rfl)<|zTb (qF yo.isSome v1 v2 (yo.getD 0)) (eF_weak 2 rfl) ?_
   have e6:xo.isSome=true:=by exact hx1
   rw [e6]
   have e7:yo.isSome=true:=by exact hy1
   rw [e7]
   have hsq:=Cam.dq (n:=part) (d:=256) dd om dd
   have hbx:=yc (xo.getD 0) (Rat.divInt part 256)
   have hby:=yc (yo.getD 0) (Rat.divInt part 256)
   have hib:=Cam.ins_s hs hii
   have hdq:=Cam.dX_hq hin2 hx hy
   have hdq2:=Cam.dX_hq hin2 (x:=xo.getD 0*Rat.divInt part 256) (y:=yo.getD 0*Rat.divInt part 256) om om
   refine zB<|zd<|ze<|ze<|za<|e_ru (zc 1 ty27 rfl rfl (.t8 (.take .nil)))<|zm rfl rfl (.c rfl .n) ce14 (znd (e:=(Cam.rz e)) (hin:=by exact hin2)) (.n) ?_
   rintro ⟨w38,w49⟩ -
   dsimp only [aq,nq,cq]
   refine e_mv rfl<|e_p (zq rfl rfl)<|e_p (zq rfl rfl)<|zI rfl rfl (zr zr32 rfl) (fun b10=> ?_)
   refine zj 0 rfl rfl rfl rfl rfl sz32 rfl (.t4 .nil) .z<|e_p (zb rfl)<|zf<|zd<|ze<|za<|e_mv rfl<|e_p (zib rfl rfl)<|zf<|zd<|zG rfl (fun h45=> ?_) (fun h45=> ?_)
   ·
    refine ze<|za<|e_p (zb rfl)<|zf<|zd<|zC<|zk ?_
    exact zu Tryz.results4 () trivial (zn rfl) rfl (ho:=oN) sN
   ·
    have hmd:=(Cam.mdc_ok (Decidable.not_not.1 h45)).2
    have hm0:=yc (Cam.dX (Cam.rz e) (xo.getD 0) (yo.getD 0)) (yo.getD 0)
    have hm1:=yc (Cam.dY (Cam.rz e) (xo.getD 0) (yo.getD 0)) (xo.getD 0)
    have hm2:=yc (Cam.dX (Cam.rz e) (xo.getD 0) (yo.getD 0)) (xo.getD 0)
    have hm3:=yc (Cam.dY (Cam.rz e) (xo.getD 0) (yo.getD 0)) (yo.getD 0)
    have hq1:=Cam.sq_hq hdq.1 hdq.2
    have hq2:=Cam.sq_hq hdq2.1 hdq2.2
    have hq3:=Cam.sq_hq hx hy
    have hc1:=Big.hq_sub (Cam.dX (Cam.rz e) (xo.getD 0) (yo.getD 0)*yo.getD 0) (Cam.dY (Cam.rz e) (xo.getD 0) (yo.getD 0)*xo.getD 0)
    have hc2:=Big.hq_add (Cam.dX (Cam.rz e) (xo.getD 0) (yo.getD 0)*xo.getD 0) (Cam.dY (Cam.rz e) (xo.getD 0) (yo.getD 0)*yo.getD 0)
    refine zB<|zd<|ze<|za<|e_mv rfl<|e_p (zD (z:=part) rfl (by rw [Tryz.underlying5];rfl) Tryz.underlying3 (w64 om))<|zm rfl rfl (.c rfl (.c rfl .n)) ce15 (zGb (z1:=part) (z2:=256) (hz1:=by first|rfl|assumption|omega|(simp;done)|decide) (hz2:=by first|rfl|assumption|omega|(simp;done)|decide) (hy:=by first|rfl|assumption|omega|(simp;done)|decide)) (.n) ?_
    rintro ⟨w311,w412⟩ -
    dsimp only [aq,nq,cq]
    refine e_mv rfl<|e_p (zq rfl rfl)<|e_p (zq rfl rfl)<|zI rfl rfl (zr zr32 rfl) (fun b13=> ?_)
    refine zj 0 rfl rfl rfl rfl rfl sz32 rfl (.t4 .nil) .z<|e_p (zb rfl)<|zf<|zd<|ze<|zV (OW:=[]) (O:=[boxA b13 32 (cw [w311,w412]),boxA b10 32 (cw [w38,w49]),boxA b2 34 (cw [u1,u2,v1,v2]),boxA b1 27 [.int .i64 (e.f),.int .i64 (e.cx),.int .i64 (e.cy),.int .i64 (e.r0),.int .i64 (e.r1),.int .i64 (e.r2),.int .i64 0,.int .i64 0,.int .i64 (e.fd)]]) 10 mixed (.then .ret) kr<|e_pv 0 rfl rfl (zg ya rfl sz32 rfl rfl)<|e_u 1 rfl rfl (zc 2 ty32 rfl rfl (.t4 .nil))<|e_u 2 rfl rfl (zc 0 ty32 rfl rfl (.t4 .nil))<|e_pv 4 rfl rfl (zg ya rfl sz32 rfl rfl)<|e_u 5 rfl rfl (zc 2 ty32 rfl rfl (.s4 (.t4 .nil)))<|e_u 6 rfl rfl (zc 0 ty32 rfl rfl (.t4 .nil))<|zW (m':=[(58,.agg (cw [w311,w412]).toArray),(57,.agg (cw [v1,v2]).toArray),(54,.agg (cw [w311,w412]).toArray),(53,.agg (cw [u1,u2]).toArray),(4,.pointer (some ⟨b2,0,none⟩)),(3,.pointer (some ⟨b1,0,none⟩))]) (R':=[qF true w311 w412 (Rat.divInt part 256),qF (decide (Cam.mdc (Cam.rz e)=0)) w38 w49 (if Cam.mdc (Cam.rz e)=0 then Rat.divInt ((Cam.md (Cam.rz e):Nat):Int) 256 else 0),qF true v1 v2 (yo.getD 0),qF true u1 u2 (xo.getD 0),eF u1 u2 xo,eF v1 v2 yo]) (mR rfl) (List.Perm.refl _) (List.Perm.refl _) ((.of [0,1,2,3,4,5] rfl):SelR _ _ _)<|a_start<|a_step 3 rfl (X:=Wd×Wd) (fun x=> .agg #[x.1.b,x.1.l,x.2.b,x.2.l]) (fun x=>[]) (fun x=>[qF true x.1 x.2 ((xo.getD 0)*(Rat.divInt part 256))]) [] kr rfl kr kr kr (fun _=> ?_) ?_
    ·
     refine zW (m':=[(54,.agg (cw [w311,w412]).toArray),(53,.agg (cw [u1,u2]).toArray)]) (R':=[qF true w311 w412 (Rat.divInt part 256),qF true u1 u2 (xo.getD 0),eF u1 u2 xo]) ((.c rfl (.c rfl .n)):SubM _ _) (List.Perm.refl _) (List.Perm.refl _) ((.of [0,3,4] rfl):SelR _ _ _)<|e_one 0 (zp rfl rfl rfl rfl (.c rfl (.c rfl .n)) ce16 (zSa (k1:=true) (u1:=u1) (v1:=u2) (q1:=(xo.getD 0)) (k2:=true) (u2:=w311) (v2:=w412) (q2:=Rat.divInt part 256) (hl:=by first|rfl|assumption|omega|(simp;done)|decide)) (.c (j:=1) rfl (.c (j:=0) rfl .n)) ?_)
     rintro ⟨u3_1,u3_2⟩ -
     dsimp only [aq,nq,cq]
     refine zH kr ?_
     exact zT (u3_1,u3_2) trivial ((.c rfl .n):SubM _ _) (ho:=oN) (s0 rfl)
    refine a_step 7 rfl (X:=Wd×Wd) (fun x=> .agg #[x.1.b,x.1.l,x.2.b,x.2.l]) (fun x=>[]) (fun x=>[qF true x.1 x.2 ((yo.getD 0)*(Rat.divInt part 256))]) [] kr rfl kr kr kr (fun _=> ?_) ?_
    ·
     refine zW (m':=[(58,.agg (cw [w311,w412]).toArray),(57,.agg (cw [v1,v2]).toArray)]) (R':=[qF true w311 w412 (Rat.divInt part 256),qF true v1 v2 (yo.getD 0),eF v1 v2 yo]) ((.c rfl (.c rfl .n)):SubM _ _) (List.Perm.refl _) (List.Perm.refl _) ((.of [0,2,5] rfl):SelR _ _ _)<|e_one 0 (zp rfl rfl rfl rfl (.c rfl (.c rfl .n)) ce16 (zSa (k1:=true) (u1:=v1) (v1:=v2) (q1:=(yo.getD 0)) (k2:=true) (u2:=w311) (v2:=w412) (q2:=Rat.divInt part 256) (hl:=by first|rfl|assumption|omega|(simp;done)|decide)) (.c (j:=1) rfl (.c (j:=0) rfl .n)) ?_)
     rintro ⟨u7_1,u7_2⟩ -
     dsimp only [aq,nq,cq]
     refine zH kr ?_
     exact zT (u7_1,u7_2) trivial ((.c rfl .n):SubM _ _) (ho:=oN) (s0 rfl)
    refine a_step 8 rfl (X:=Wd×Wd×Wd×Wd) (fun x=> .agg #[x.2.2.1.b,x.2.2.1.l,x.2.2.2.b,x.2.2.2.l,x.1.b,x.1.l,x.2.1.b,x.2.1.l]) (fun x=>[]) (fun x=>[qF true x.1 x.2.1 ((yo.getD 0)*(Rat.divInt part 256)),qF true x.2.2.1 x.2.2.2 ((xo.getD 0)*(Rat.divInt part 256))]) [0,1] kr rfl kr kr kr (fun _=> ?_) ?_
    ·
     rintro ⟨g7_0,g7_1⟩
     rintro ⟨g3_0,g3_1⟩
     refine zW (m':=[(59,.agg (cw [g7_0,g7_1]).toArray),(55,.agg (cw [g3_0,g3_1]).toArray)]) (R':=[qF true g7_0 g7_1 ((yo.getD 0)*(Rat.divInt part 256)),qF true g3_0 g3_1 ((xo.getD 0)*(Rat.divInt part 256))]) ((.c rfl (.c rfl .n)):SubM _ _) (List.Perm.refl _) (List.Perm.refl _) ((.of [0,1] rfl):SelR _ _ _)<|e_pv 0 rfl rfl (zN zr34 rfl ya (.c sz32 (.c sz32 .n)) (.c rfl (.c rfl .n)) (.c rfl rfl rfl (.t4 .nil) (.c rfl rfl rfl (.s4 (.t4 .nil)) .n)))<|zH kr ?_
     exact zT (g7_0,g7_1,g3_0,g3_1) trivial ((.c rfl .n):SubM _ _) (ho:=oN) ((.of [0,1] rfl):SelR _ _ _)
    refine a_step 9 rfl (X:=Nat) (fun x=> .pointer (some ⟨x,0,none⟩)) (fun x=>[boxA x 34 [.bool false,.slice none 0 0,.bool false,.slice none 0 0,.bool false,.slice none 0 0,.bool false,.slice none 0 0]]) (fun x=>[]) [] kr rfl kr kr kr (fun _=> ?_) ?_
    ·
     refine zW (m':=[]) (R':=[]) (.n:SubM _ _) (List.Perm.refl _) (List.Perm.refl _) sN<|e_one 0 (zIa rfl rfl rfl rfl (zr zr34 rfl) (fun u9_1 _=> ?_))
     refine zH kr ?_
     exact zT u9_1 trivial ((.c rfl .n):SubM _ _) (ho:=(o0 rfl)) sN
    refine a_fin (k':=1) (L':=(lb 11 1023)) kr kr kr kr kr kr kr ?_
    rintro g9_0 ⟨g8_0,g8_1,g8_2,g8_3⟩ _ _
    refine zW (m':=[(11,.pointer (some ⟨g9_0,0,none⟩)),(60,.agg (cw [g8_2,g8_3,g8_0,g8_1]).toArray),(58,.agg (cw [w311,w412]).toArray),(57,.agg (cw [v1,v2]).toArray),(54,.agg (cw [w311,w412]).toArray),(53,.agg (cw [u1,u2]).toArray),(4,.pointer (some ⟨b2,0,none⟩)),(3,.pointer (some ⟨b1,0,none⟩))]) (OW':=[boxA g9_0 34 (cw [wz,wz,wz,wz])]) (R':=[qF true g8_0 g8_1 ((yo.getD 0)*(Rat.divInt part 256)),qF true g8_2 g8_3 ((xo.getD 0)*(Rat.divInt part 256)),qF true w311 w412 (Rat.divInt part 256),qF (decide (Cam.mdc (Cam.rz e)=0)) w38 w49 (if Cam.mdc (Cam.rz e)=0 then Rat.divInt ((Cam.md (Cam.rz e):Nat):Int) 256 else 0),qF true v1 v2 (yo.getD 0),qF true u1 u2 (xo.getD 0),eF u1 u2 xo,eF v1 v2 yo]) (mR rfl) (List.Perm.refl _) (List.Perm.refl _) ((.of [0,1,4,5,6,7,8,9] rfl):SelR _ _ _)<|e_one 10 (zv kr rfl rfl rfl rfl rfl sz34 rfl (.t8 .nil) ?_)
    refine zH kr<|zd<|ze<|za<|e_ru (zc 4 ty27 rfl rfl (.t8 (.take .nil)))<|e_ru (zc 3 ty34 rfl rfl (.t8 .nil))<|zm rfl rfl (.c rfl (.c rfl .n)) ce8 (zBb (e:=(Cam.rz e)) (u1:=u1) (u2:=u2) (v1:=v1) (v2:=v2) (xo:=xo) (yo:=yo) (hin:=by exact hin2) (hx:=by first|rfl|assumption|omega|(simp;done)|decide) (hy:=by first|rfl|assumption|omega|(simp;done)|decide)) (.c (j:=6) rfl (.c (j:=7) rfl .n)) ?_
    rintro ⟨w314,w415,w516,w617⟩ hda
    dsimp only [aq,nq,cq]
    replace hda:(¬(Cam.pc (Cam.rz e) [(xo,yo)]=0∧Cam.ins (Cam.rz e) (xo.getD 0) (yo.getD 0))→w314=wz∧w415=wz∧w516=wz∧w617=wz):=hda
    refine e_mv rfl<|e_p (zq rfl rfl)<|e_p (zq rfl rfl)<|zI rfl rfl (zr zr34 rfl) (fun b18=> ?_)
    refine zj 0 rfl rfl rfl rfl rfl sz34 rfl (.t8 .nil) .z<|e_p (zb rfl)<|zf<|zd<|ze<|za<|e_ru (zc 5 ty27 rfl rfl (.t8 (.take .nil)))<|e_ru (zc 1 ty34 rfl rfl (.t8 .nil))<|zna (addQe 3 rfl)<|zna (addQe 3 rfl)<|zm rfl rfl (.c rfl (.c rfl .n)) ce8 (zBb (e:=(Cam.rz e)) (u1:=g8_2) (u2:=g8_3) (v1:=g8_0) (v2:=g8_1) (xo:=(some ((xo.getD 0)*(Rat.divInt part 256)))) (yo:=(some ((yo.getD 0)*(Rat.divInt part 256)))) (hin:=by exact hin2) (hx:=by show yb (xo.getD 0*Rat.divInt part 256)≤_;omega) (hy:=by show yb (yo.getD 0*Rat.divInt part 256)≤_;omega)) (.c (j:=1) rfl (.c (j:=0) rfl .n)) ?_
    rintro ⟨w319,w420,w521,w622⟩ hdb
    dsimp only [aq,nq,cq]
    replace hdb:(¬(Cam.pc (Cam.rz e) [((some ((xo.getD 0)*(Rat.divInt part 256))),(some ((yo.getD 0)*(Rat.divInt part 256))))]=0∧Cam.ins (Cam.rz e) ((some ((xo.getD 0)*(Rat.divInt part 256))).getD 0) ((some ((yo.getD 0)*(Rat.divInt part 256))).getD 0))→w319=wz∧w420=wz∧w521=wz∧w622=wz):=hdb
    refine e_mv rfl<|e_p (zq rfl rfl)<|e_p (zq rfl rfl)<|zI rfl rfl (zr zr34 rfl) (fun b23=> ?_)
    refine zj 0 rfl rfl rfl rfl rfl sz34 rfl (.t8 .nil) .z<|e_p (zb rfl)<|zf<|zd<|ze<|zOa (X:=Unit) (fun x=>True) (fun x=>[(78,.bool false),(14,.pointer (some ⟨b23,0,none⟩)),(12,.pointer (some ⟨b18,0,none⟩)),(4,.pointer (some ⟨b2,0,none⟩))]) (fun x=>[boxA b23 34 (cw [w319,w420,w521,w622]),boxA b18 34 (cw [w314,w415,w516,w617]),boxA b2 34 (cw [u1,u2,v1,v2])]) (fun x=>[qF (decide (Cam.pc (Cam.rz e) [((some ((xo.getD 0)*(Rat.divInt part 256))),(some ((yo.getD 0)*(Rat.divInt part 256))))]=0∧Cam.ins (Cam.rz e) ((some ((xo.getD 0)*(Rat.divInt part 256))).getD 0) ((some ((yo.getD 0)*(Rat.divInt part 256))).getD 0))) w319 w420 (if (Cam.pc (Cam.rz e) [((some ((xo.getD 0)*(Rat.divInt part 256))),(some ((yo.getD 0)*(Rat.divInt part 256))))]=0∧Cam.ins (Cam.rz e) ((some ((xo.getD 0)*(Rat.divInt part 256))).getD 0) ((some ((yo.getD 0)*(Rat.divInt part 256))).getD 0)) then (Cam.dX (Cam.rz e) ((some ((xo.getD 0)*(Rat.divInt part 256))).getD 0) ((some ((yo.getD 0)*(Rat.divInt part 256))).getD 0)) else 0),qF (decide (Cam.pc (Cam.rz e) [((some ((xo.getD 0)*(Rat.divInt part 256))),(some ((yo.getD 0)*(Rat.divInt part 256))))]=0∧Cam.ins (Cam.rz e) ((some ((xo.getD 0)*(Rat.divInt part 256))).getD 0) ((some ((yo.getD 0)*(Rat.divInt part 256))).getD 0))) w521 w622 (if (Cam.pc (Cam.rz e) [((some ((xo.getD 0)*(Rat.divInt part 256))),(some ((yo.getD 0)*(Rat.divInt part 256))))]=0∧Cam.ins (Cam.rz e) ((some ((xo.getD 0)*(Rat.divInt part 256))).getD 0) ((some ((yo.getD 0)*(Rat.divInt part 256))).getD 0)) then (Cam.dY (Cam.rz e) ((some ((xo.getD 0)*(Rat.divInt part 256))).getD 0) ((some ((yo.getD 0)*(Rat.divInt part 256))).getD 0)) else 0),qF (decide (Cam.pc (Cam.rz e) [(xo,yo)]=0∧Cam.ins (Cam.rz e) (xo.getD 0) (yo.getD 0))) w314 w415 (if (Cam.pc (Cam.rz e) [(xo,yo)]=0∧Cam.ins (Cam.rz e) (xo.getD 0) (yo.getD 0)) then (Cam.dX (Cam.rz e) (xo.getD 0) (yo.getD 0)) else 0),qF (decide (Cam.pc (Cam.rz e) [(xo,yo)]=0∧Cam.ins (Cam.rz e) (xo.getD 0) (yo.getD 0))) w516 w617 (if (Cam.pc (Cam.rz e) [(xo,yo)]=0∧Cam.ins (Cam.rz e) (xo.getD 0) (yo.getD 0)) then (Cam.dY (Cam.rz e) (xo.getD 0) (yo.getD 0)) else 0),qF true v1 v2 (yo.getD 0),qF true u1 u2 (xo.getD 0),eF u1 u2 xo,eF v1 v2 yo]) ?_ ?_
    ·
     refine za<|e_mv rfl<|e_p (zib rfl rfl) ?_
     rw [show (decide (((if (Cam.pc (Cam.rz e) [(xo,yo)]=0) then (if Cam.ins (Cam.rz e) (xo.getD 0) (yo.getD 0) then 0 else 15) else Cam.pc (Cam.rz e) [(xo,yo)]):Int)≠0))=false from by exact decide_eq_false (fun k=>k ((if_pos hz).trans (if_pos hii)))]
     refine e_mv rfl<|e_mv rfl<|e_p (zib rfl rfl) ?_
     rw [show (decide (((if (Cam.pc (Cam.rz e) [((some ((xo.getD 0)*(Rat.divInt part 256))),(some ((yo.getD 0)*(Rat.divInt part 256))))]=0) then (if Cam.ins (Cam.rz e) ((some ((xo.getD 0)*(Rat.divInt part 256))).getD 0) ((some ((yo.getD 0)*(Rat.divInt part 256))).getD 0) then 0 else 15) else Cam.pc (Cam.rz e) [((some ((xo.getD 0)*(Rat.divInt part 256))),(some ((yo.getD 0)*(Rat.divInt part 256))))]):Int)≠0))=false from by exact decide_eq_false (fun k=>k ((if_pos (Cam.pc_some hok)).trans (if_pos hib)))]
     refine e_p (zE rfl rfl)<|zf ?_
     exact zT () tt9 (mR rfl) (ho:=((.of [0,0,3] rfl):PickO _ _ _)) ((.of [0,1,4,5,10,11,12,13] rfl):SelR _ _ _)
    ·
     rintro ⟨⟩ -
     try dsimp only [cw]
     refine zTa rfl rfl<|zB<|zd<|ze ?_
     have e24:(decide (Cam.pc (Cam.rz e) [((some ((xo.getD 0)*(Rat.divInt part 256))),(some ((yo.getD 0)*(Rat.divInt part 256))))]=0∧Cam.ins (Cam.rz e) ((some ((xo.getD 0)*(Rat.divInt part 256))).getD 0) ((some ((yo.getD 0)*(Rat.divInt part 256))).getD 0)):Bool)=true:=by first|exact decide_eq_true ⟨hz,hii⟩|exact decide_eq_true ⟨Cam.pc_some hok,hib⟩
     rw [e24]
     have e25:(decide (Cam.pc (Cam.rz e) [(xo,yo)]=0∧Cam.ins (Cam.rz e) (xo.getD 0) (yo.getD 0)):Bool)=true:=by first|exact decide_eq_true ⟨hz,hii⟩|exact decide_eq_true ⟨Cam.pc_some hok,hib⟩
     rw [e25]
     have e26:(if (Cam.pc (Cam.rz e) [((some ((xo.getD 0)*(Rat.divInt part 256))),(some ((yo.getD 0)*(Rat.divInt part 256))))]=0∧Cam.ins (Cam.rz e) ((some ((xo.getD 0)*(Rat.divInt part 256))).getD 0) ((some ((yo.getD 0)*(Rat.divInt part 256))).getD 0)) then (Cam.dX (Cam.rz e) ((some ((xo.getD 0)*(Rat.divInt part 256))).getD 0) ((some ((yo.getD 0)*(Rat.divInt part 256))).getD 0)) else 0:Rat)=(Cam.dX (Cam.rz e) ((some ((xo.getD 0)*(Rat.divInt part 256))).getD 0) ((some ((yo.getD 0)*(Rat.divInt part 256))).getD 0)):=by first|exact if_pos (show _∧_ from ⟨hz,hii⟩)|exact if_pos (show _∧_ from ⟨Cam.pc_some hok,hib⟩)
     rw [e26]
     have e27:(if (Cam.pc (Cam.rz e) [((some ((xo.getD 0)*(Rat.divInt part 256))),(some ((yo.getD 0)*(Rat.divInt part 256))))]=0∧Cam.ins (Cam.rz e) ((some ((xo.getD 0)*(Rat.divInt part 256))).getD 0) ((some ((yo.getD 0)*(Rat.divInt part 256))).getD 0)) then (Cam.dY (Cam.rz e) ((some ((xo.getD 0)*(Rat.divInt part 256))).getD 0) ((some ((yo.getD 0)*(Rat.divInt part 256))).getD 0)) else 0:Rat)=(Cam.dY (Cam.rz e) ((some ((xo.getD 0)*(Rat.divInt part 256))).getD 0) ((some ((yo.getD 0)*(Rat.divInt part 256))).getD 0)):=by first|exact if_pos (show _∧_ from ⟨hz,hii⟩)|exact if_pos (show _∧_ from ⟨Cam.pc_some hok,hib⟩)
     rw [e27]
     have e28:(if (Cam.pc (Cam.rz e) [(xo,yo)]=0∧Cam.ins (Cam.rz e) (xo.getD 0) (yo.getD 0)) then (Cam.dX (Cam.rz e) (xo.getD 0) (yo.getD 0)) else 0:Rat)=(Cam.dX (Cam.rz e) (xo.getD 0) (yo.getD 0)):=by first|exact if_pos (show _∧_ from ⟨hz,hii⟩)|exact if_pos (show _∧_ from ⟨Cam.pc_some hok,hib⟩)
     rw [e28]
     have e29:(if (Cam.pc (Cam.rz e) [(xo,yo)]=0∧Cam.ins (Cam.rz e) (xo.getD 0) (yo.getD 0)) then (Cam.dY (Cam.rz e) (xo.getD 0) (yo.getD 0)) else 0:Rat)=(Cam.dY (Cam.rz e) (xo.getD 0) (yo.getD 0)):=by first|exact if_pos (show _∧_ from ⟨hz,hii⟩)|exact if_pos (show _∧_ from ⟨Cam.pc_some hok,hib⟩)
     rw [e29]
     refine zV (OW:=[]) (O:=[boxA b23 34 (cw [w319,w420,w521,w622]),boxA b18 34 (cw [w314,w415,w516,w617]),boxA b2 34 (cw [u1,u2,v1,v2])]) 12 mixed (.then .ret) kr<|e_pv 0 rfl rfl (zg ya rfl sz32 rfl rfl)<|e_u 1 rfl rfl (zc 1 ty32 rfl rfl (.t4 .nil))<|e_pv 2 rfl rfl (zg ya rfl sz32 rfl rfl)<|e_u 3 rfl rfl (zc 2 ty32 rfl rfl (.s4 (.t4 .nil)))<|e_pv 5 rfl rfl (zg ya rfl sz32 rfl rfl)<|e_u 6 rfl rfl (zc 1 ty32 rfl rfl (.s4 (.t4 .nil)))<|e_pv 7 rfl rfl (zg ya rfl sz32 rfl rfl)<|e_u 8 rfl rfl (zc 2 ty32 rfl rfl (.t4 .nil))<|zW (m':=[(87,.agg (cw [u1,u2]).toArray),(85,.agg (cw [w516,w617]).toArray),(82,.agg (cw [v1,v2]).toArray),(80,.agg (cw [w314,w415]).toArray),(14,.pointer (some ⟨b23,0,none⟩)),(12,.pointer (some ⟨b18,0,none⟩)),(4,.pointer (some ⟨b2,0,none⟩))]) (R':=[qF true w319 w420 (Cam.dX (Cam.rz e) ((some ((xo.getD 0)*(Rat.divInt part 256))).getD 0) ((some ((yo.getD 0)*(Rat.divInt part 256))).getD 0)),qF true w521 w622 (Cam.dY (Cam.rz e) ((some ((xo.getD 0)*(Rat.divInt part 256))).getD 0) ((some ((yo.getD 0)*(Rat.divInt part 256))).getD 0)),qF true w314 w415 (Cam.dX (Cam.rz e) (xo.getD 0) (yo.getD 0)),qF true w516 w617 (Cam.dY (Cam.rz e) (xo.getD 0) (yo.getD 0)),qF true v1 v2 (yo.getD 0),qF true u1 u2 (xo.getD 0),eF u1 u2 xo,eF v1 v2 yo]) (mR rfl) (List.Perm.refl _) (List.Perm.refl _) ((.of [0,1,2,3,4,5,6,7] rfl):SelR _ _ _)<|a_start<|a_step 4 rfl (X:=Wd×Wd) (fun x=> .agg #[x.1.b,x.1.l,x.2.b,x.2.l]) (fun x=>[]) (fun x=>[qF true x.1 x.2 ((Cam.dX (Cam.rz e) (xo.getD 0) (yo.getD 0))*(yo.getD 0))]) [] kr rfl kr kr kr (fun _=> ?_) ?_
     ·
      refine zW (m':=[(82,.agg (cw [v1,v2]).toArray),(80,.agg (cw [w314,w415]).toArray)]) (R':=[qF true w314 w415 (Cam.dX (Cam.rz e) (xo.getD 0) (yo.getD 0)),qF true v1 v2 (yo.getD 0),eF v1 v2 yo]) ((.c rfl (.c rfl .n)):SubM _ _) (List.Perm.refl _) (List.Perm.refl _) ((.of [2,4,7] rfl):SelR _ _ _)<|e_one 0 (zp rfl rfl rfl rfl (.c rfl (.c rfl .n)) ce16 (zSa (k1:=true) (u1:=w314) (v1:=w415) (q1:=(Cam.dX (Cam.rz e) (xo.getD 0) (yo.getD 0))) (k2:=true) (u2:=v1) (v2:=v2) (q2:=(yo.getD 0)) (hl:=by first|rfl|assumption|omega|(simp;done)|decide)) (.c (j:=0) rfl (.c (j:=1) rfl .n)) ?_)
      rintro ⟨u4_1r2,u4_2r2⟩ -
      dsimp only [aq,nq,cq]
      refine zH kr ?_
      exact zT (u4_1r2,u4_2r2) trivial ((.c rfl .n):SubM _ _) (ho:=oN) (s0 rfl)
     refine a_step 9 rfl (X:=Wd×Wd) (fun x=> .agg #[x.1.b,x.1.l,x.2.b,x.2.l]) (fun x=>[]) (fun x=>[qF true x.1 x.2 ((Cam.dY (Cam.rz e) (xo.getD 0) (yo.getD 0))*(xo.getD 0))]) [] kr rfl kr kr kr (fun _=> ?_) ?_
     ·
      refine zW (m':=[(87,.agg (cw [u1,u2]).toArray),(85,.agg (cw [w516,w617]).toArray)]) (R':=[qF true w516 w617 (Cam.dY (Cam.rz e) (xo.getD 0) (yo.getD 0)),qF true u1 u2 (xo.getD 0),eF u1 u2 xo]) ((.c rfl (.c rfl .n)):SubM _ _) (List.Perm.refl _) (List.Perm.refl _) ((.of [3,5,6] rfl):SelR _ _ _)<|e_one 0 (zp rfl rfl rfl rfl (.c rfl (.c rfl .n)) ce16 (zSa (k1:=true) (u1:=w516) (v1:=w617) (q1:=(Cam.dY (Cam.rz e) (xo.getD 0) (yo.getD 0))) (k2:=true) (u2:=u1) (v2:=u2) (q2:=(xo.getD 0)) (hl:=by first|rfl|assumption|omega|(simp;done)|decide)) (.c (j:=0) rfl (.c (j:=1) rfl .n)) ?_)
      rintro ⟨u9_1r2,u9_2r2⟩ -
      dsimp only [aq,nq,cq]
      refine zH kr ?_
      exact zT (u9_1r2,u9_2r2) trivial ((.c rfl .n):SubM _ _) (ho:=oN) (s0 rfl)
     refine a_step 10 rfl (X:=Wd×Wd) (fun x=> .agg #[x.1.b,x.1.l,x.2.b,x.2.l]) (fun x=>[]) (fun x=>[qF true x.1 x.2 (((Cam.dX (Cam.rz e) (xo.getD 0) (yo.getD 0))*(yo.getD 0)) - ((Cam.dY (Cam.rz e) (xo.getD 0) (yo.getD 0))*(xo.getD 0)))]) [0,1] kr rfl kr kr kr (fun _=> ?_) ?_
     ·
      rintro ⟨g9_0r2,g9_1r2⟩
      rintro ⟨g4_0r2,g4_1r2⟩
      refine zW (m':=[(88,.agg (cw [g9_0r2,g9_1r2]).toArray),(83,.agg (cw [g4_0r2,g4_1r2]).toArray)]) (R':=[qF true g9_0r2 g9_1r2 ((Cam.dY (Cam.rz e) (xo.getD 0) (yo.getD 0))*(xo.getD 0)),qF true g4_0r2 g4_1r2 ((Cam.dX (Cam.rz e) (xo.getD 0) (yo.getD 0))*(yo.getD 0))]) ((.c rfl (.c rfl .n)):SubM _ _) (List.Perm.refl _) (List.Perm.refl _) ((.of [0,1] rfl):SelR _ _ _)<|e_one 0 (zp rfl rfl rfl rfl (.c rfl (.c rfl .n)) ce17 (zde (k1:=true) (u1:=g4_0r2) (v1:=g4_1r2) (q1:=(Cam.dX (Cam.rz e) (xo.getD 0) (yo.getD 0))*(yo.getD 0)) (k2:=true) (u2:=g9_0r2) (v2:=g9_1r2) (q2:=(Cam.dY (Cam.rz e) (xo.getD 0) (yo.getD 0))*(xo.getD 0)) (hl:=by first|rfl|assumption|omega|(simp;done)|decide)) (.c (j:=1) rfl (.c (j:=0) rfl .n)) ?_)
      rintro ⟨u10_1r2,u10_2r2⟩ -
      dsimp only [aq,nq,cq]
      refine zH kr ?_
      exact zT (u10_1r2,u10_2r2) trivial ((.c rfl .n):SubM _ _) (ho:=oN) (s0 rfl)
     refine a_step 11 rfl (X:=Nat) (fun x=> .pointer (some ⟨x,0,none⟩)) (fun x=>[boxA x 32 [.bool false,.slice none 0 0,.bool false,.slice none 0 0]]) (fun x=>[]) [] kr rfl kr kr kr (fun _=> ?_) ?_
     ·
      refine zW (m':=[]) (R':=[]) (.n:SubM _ _) (List.Perm.refl _) (List.Perm.refl _) sN<|e_one 0 (zIa rfl rfl rfl rfl (zr zr32 rfl) (fun u11_1r2 _=> ?_))
      refine zH kr ?_
      exact zT u11_1r2 trivial ((.c rfl .n):SubM _ _) (ho:=(o0 rfl)) sN
     refine a_fin (k':=1) (L':=(lb 13 4095)) kr kr kr kr kr kr kr ?_
     rintro g11_0r2 ⟨g10_0r2,g10_1r2⟩ _ _
     refine zW (m':=[(16,.pointer (some ⟨g11_0r2,0,none⟩)),(89,.agg (cw [g10_0r2,g10_1r2]).toArray),(87,.agg (cw [u1,u2]).toArray),(85,.agg (cw [w516,w617]).toArray),(82,.agg (cw [v1,v2]).toArray),(80,.agg (cw [w314,w415]).toArray),(14,.pointer (some ⟨b23,0,none⟩)),(12,.pointer (some ⟨b18,0,none⟩)),(4,.pointer (some ⟨b2,0,none⟩))]) (OW':=[boxA g11_0r2 32 (cw [wz,wz])]) (R':=[qF true g10_0r2 g10_1r2 (((Cam.dX (Cam.rz e) (xo.getD 0) (yo.getD 0))*(yo.getD 0)) - ((Cam.dY (Cam.rz e) (xo.getD 0) (yo.getD 0))*(xo.getD 0))),qF true w319 w420 (Cam.dX (Cam.rz e) ((some ((xo.getD 0)*(Rat.divInt part 256))).getD 0) ((some ((yo.getD 0)*(Rat.divInt part 256))).getD 0)),qF true w521 w622 (Cam.dY (Cam.rz e) ((some ((xo.getD 0)*(Rat.divInt part 256))).getD 0) ((some ((yo.getD 0)*(Rat.divInt part 256))).getD 0)),qF true w314 w415 (Cam.dX (Cam.rz e) (xo.getD 0) (yo.getD 0)),qF true w516 w617 (Cam.dY (Cam.rz e) (xo.getD 0) (yo.getD 0)),qF true v1 v2 (yo.getD 0),qF true u1 u2 (xo.getD 0),eF u1 u2 xo,eF v1 v2 yo]) (mR rfl) (List.Perm.refl _) (List.Perm.refl _) ((.of [0,3,4,5,6,7,8,9,10] rfl):SelR _ _ _)<|e_one 12 (zv kr rfl rfl rfl rfl rfl sz32 rfl (.t4 .nil) ?_)
     refine zH kr<|zd<|ze<|zV (OW:=[]) (O:=[boxA g11_0r2 32 (cw [g10_0r2,g10_1r2]),boxA b23 34 (cw [w319,w420,w521,w622]),boxA b18 34 (cw [w314,w415,w516,w617]),boxA b2 34 (cw [u1,u2,v1,v2])]) 12 mixed (.then .ret) kr<|e_pv 0 rfl rfl (zg ya rfl sz32 rfl rfl)<|e_u 1 rfl rfl (zc 2 ty32 rfl rfl (.t4 .nil))<|e_pv 2 rfl rfl (zg ya rfl sz32 rfl rfl)<|e_u 3 rfl rfl (zc 3 ty32 rfl rfl (.t4 .nil))<|e_pv 5 rfl rfl (zg ya rfl sz32 rfl rfl)<|e_u 6 rfl rfl (zc 2 ty32 rfl rfl (.s4 (.t4 .nil)))<|e_pv 7 rfl rfl (zg ya rfl sz32 rfl rfl)<|e_u 8 rfl rfl (zc 3 ty32 rfl rfl (.s4 (.t4 .nil)))<|zW (m':=[(98,.agg (cw [v1,v2]).toArray),(96,.agg (cw [w516,w617]).toArray),(93,.agg (cw [u1,u2]).toArray),(91,.agg (cw [w314,w415]).toArray),(16,.pointer (some ⟨g11_0r2,0,none⟩)),(14,.pointer (some ⟨b23,0,none⟩)),(12,.pointer (some ⟨b18,0,none⟩)),(4,.pointer (some ⟨b2,0,none⟩))]) (R':=[qF true g10_0r2 g10_1r2 (((Cam.dX (Cam.rz e) (xo.getD 0) (yo.getD 0))*(yo.getD 0)) - ((Cam.dY (Cam.rz e) (xo.getD 0) (yo.getD 0))*(xo.getD 0))),qF true w319 w420 (Cam.dX (Cam.rz e) ((some ((xo.getD 0)*(Rat.divInt part 256))).getD 0) ((some ((yo.getD 0)*(Rat.divInt part 256))).getD 0)),qF true w521 w622 (Cam.dY (Cam.rz e) ((some ((xo.getD 0)*(Rat.divInt part 256))).getD 0) ((some ((yo.getD 0)*(Rat.divInt part 256))).getD 0)),qF true w314 w415 (Cam.dX (Cam.rz e) (xo.getD 0) (yo.getD 0)),qF true w516 w617 (Cam.dY (Cam.rz e) (xo.getD 0) (yo.getD 0)),qF true v1 v2 (yo.getD 0),qF true u1 u2 (xo.getD 0),eF u1 u2 xo,eF v1 v2 yo]) (mR rfl) (List.Perm.refl _) (List.Perm.refl _) ((.of [0,1,2,3,4,5,6,7,8] rfl):SelR _ _ _)<|a_start<|a_step 4 rfl (X:=Wd×Wd) (fun x=> .agg #[x.1.b,x.1.l,x.2.b,x.2.l]) (fun x=>[]) (fun x=>[qF true x.1 x.2 ((Cam.dX (Cam.rz e) (xo.getD 0) (yo.getD 0))*(xo.getD 0))]) [] kr rfl kr kr kr (fun _=> ?_) ?_
     ·
      refine zW (m':=[(93,.agg (cw [u1,u2]).toArray),(91,.agg (cw [w314,w415]).toArray)]) (R':=[qF true w314 w415 (Cam.dX (Cam.rz e) (xo.getD 0) (yo.getD 0)),qF true u1 u2 (xo.getD 0),eF u1 u2 xo]) ((.c rfl (.c rfl .n)):SubM _ _) (List.Perm.refl _) (List.Perm.refl _) ((.of [3,6,7] rfl):SelR _ _ _)<|e_one 0 (zp rfl rfl rfl rfl (.c rfl (.c rfl .n)) ce16 (zSa (k1:=true) (u1:=w314) (v1:=w415) (q1:=(Cam.dX (Cam.rz e) (xo.getD 0) (yo.getD 0))) (k2:=true) (u2:=u1) (v2:=u2) (q2:=(xo.getD 0)) (hl:=by first|rfl|assumption|omega|(simp;done)|decide)) (.c (j:=0) rfl (.c (j:=1) rfl .n)) ?_)
      rintro ⟨u4_1r3,u4_2r3⟩ -
      dsimp only [aq,nq,cq]
      refine zH kr ?_
      exact zT (u4_1r3,u4_2r3) trivial ((.c rfl .n):SubM _ _) (ho:=oN) (s0 rfl)
     refine a_step 9 rfl (X:=Wd×Wd) (fun x=> .agg #[x.1.b,x.1.l,x.2.b,x.2.l]) (fun x=>[]) (fun x=>[qF true x.1 x.2 ((Cam.dY (Cam.rz e) (xo.getD 0) (yo.getD 0))*(yo.getD 0))]) [] kr rfl kr kr kr (fun _=> ?_) ?_
     ·
      refine zW (m':=[(98,.agg (cw [v1,v2]).toArray),(96,.agg (cw [w516,w617]).toArray)]) (R':=[qF true w516 w617 (Cam.dY (Cam.rz e) (xo.getD 0) (yo.getD 0)),qF true v1 v2 (yo.getD 0),eF v1 v2 yo]) ((.c rfl (.c rfl .n)):SubM _ _) (List.Perm.refl _) (List.Perm.refl _) ((.of [4,5,8] rfl):SelR _ _ _)<|e_one 0 (zp rfl rfl rfl rfl (.c rfl (.c rfl .n)) ce16 (zSa (k1:=true) (u1:=w516) (v1:=w617) (q1:=(Cam.dY (Cam.rz e) (xo.getD 0) (yo.getD 0))) (k2:=true) (u2:=v1) (v2:=v2) (q2:=(yo.getD 0)) (hl:=by first|rfl|assumption|omega|(simp;done)|decide)) (.c (j:=0) rfl (.c (j:=1) rfl .n)) ?_)
      rintro ⟨u9_1r3,u9_2r3⟩ -
      dsimp only [aq,nq,cq]
      refine zH kr ?_
      exact zT (u9_1r3,u9_2r3) trivial ((.c rfl .n):SubM _ _) (ho:=oN) (s0 rfl)
     refine a_step 10 rfl (X:=Wd×Wd) (fun x=> .agg #[x.1.b,x.1.l,x.2.b,x.2.l]) (fun x=>[]) (fun x=>[qF true x.1 x.2 (((Cam.dX (Cam.rz e) (xo.getD 0) (yo.getD 0))*(xo.getD 0))+((Cam.dY (Cam.rz e) (xo.getD 0) (yo.getD 0))*(yo.getD 0)))]) [0,1] kr rfl kr kr kr (fun _=> ?_) ?_
     ·
      rintro ⟨g9_0r3,g9_1r3⟩
      rintro ⟨g4_0r3,g4_1r3⟩
      refine zW (m':=[(99,.agg (cw [g9_0r3,g9_1r3]).toArray),(94,.agg (cw [g4_0r3,g4_1r3]).toArray)]) (R':=[qF true g9_0r3 g9_1r3 ((Cam.dY (Cam.rz e) (xo.getD 0) (yo.getD 0))*(yo.getD 0)),qF true g4_0r3 g4_1r3 ((Cam.dX (Cam.rz e) (xo.getD 0) (yo.getD 0))*(xo.getD 0))]) ((.c rfl (.c rfl .n)):SubM _ _) (List.Perm.refl _) (List.Perm.refl _) ((.of [0,1] rfl):SelR _ _ _)<|e_one 0 (zp rfl rfl rfl rfl (.c rfl (.c rfl .n)) ce18 (zyc (k1:=true) (u1:=g4_0r3) (v1:=g4_1r3) (q1:=(Cam.dX (Cam.rz e) (xo.getD 0) (yo.getD 0))*(xo.getD 0)) (k2:=true) (u2:=g9_0r3) (v2:=g9_1r3) (q2:=(Cam.dY (Cam.rz e) (xo.getD 0) (yo.getD 0))*(yo.getD 0)) (hl:=by first|rfl|assumption|omega|(simp;done)|decide)) (.c (j:=1) rfl (.c (j:=0) rfl .n)) ?_)
      rintro ⟨u10_1r3,u10_2r3⟩ -
      dsimp only [aq,nq,cq]
      refine zH kr ?_
      exact zT (u10_1r3,u10_2r3) trivial ((.c rfl .n):SubM _ _) (ho:=oN) (s0 rfl)
     refine a_step 11 rfl (X:=Nat) (fun x=> .pointer (some ⟨x,0,none⟩)) (fun x=>[boxA x 32 [.bool false,.slice none 0 0,.bool false,.slice none 0 0]]) (fun x=>[]) [] kr rfl kr kr kr (fun _=> ?_) ?_
     ·
      refine zW (m':=[]) (R':=[]) (.n:SubM _ _) (List.Perm.refl _) (List.Perm.refl _) sN<|e_one 0 (zIa rfl rfl rfl rfl (zr zr32 rfl) (fun u11_1r3 _=> ?_))
      refine zH kr ?_
      exact zT u11_1r3 trivial ((.c rfl .n):SubM _ _) (ho:=(o0 rfl)) sN
     refine a_fin (k':=1) (L':=(lb 13 4095)) kr kr kr kr kr kr kr ?_
     rintro g11_0r3 ⟨g10_0r3,g10_1r3⟩ _ _
     refine zW (m':=[(17,.pointer (some ⟨g11_0r3,0,none⟩)),(100,.agg (cw [g10_0r3,g10_1r3]).toArray),(98,.agg (cw [v1,v2]).toArray),(96,.agg (cw [w516,w617]).toArray),(93,.agg (cw [u1,u2]).toArray),(91,.agg (cw [w314,w415]).toArray),(16,.pointer (some ⟨g11_0r2,0,none⟩)),(14,.pointer (some ⟨b23,0,none⟩)),(12,.pointer (some ⟨b18,0,none⟩)),(4,.pointer (some ⟨b2,0,none⟩))]) (OW':=[boxA g11_0r3 32 (cw [wz,wz])]) (R':=[qF true g10_0r3 g10_1r3 (((Cam.dX (Cam.rz e) (xo.getD 0) (yo.getD 0))*(xo.getD 0))+((Cam.dY (Cam.rz e) (xo.getD 0) (yo.getD 0))*(yo.getD 0))),qF true g10_0r2 g10_1r2 (((Cam.dX (Cam.rz e) (xo.getD 0) (yo.getD 0))*(yo.getD 0)) - ((Cam.dY (Cam.rz e) (xo.getD 0) (yo.getD 0))*(xo.getD 0))),qF true w319 w420 (Cam.dX (Cam.rz e) ((some ((xo.getD 0)*(Rat.divInt part 256))).getD 0) ((some ((yo.getD 0)*(Rat.divInt part 256))).getD 0)),qF true w521 w622 (Cam.dY (Cam.rz e) ((some ((xo.getD 0)*(Rat.divInt part 256))).getD 0) ((some ((yo.getD 0)*(Rat.divInt part 256))).getD 0)),qF true w314 w415 (Cam.dX (Cam.rz e) (xo.getD 0) (yo.getD 0)),qF true w516 w617 (Cam.dY (Cam.rz e) (xo.getD 0) (yo.getD 0)),qF true v1 v2 (yo.getD 0),qF true u1 u2 (xo.getD 0),eF u1 u2 xo,eF v1 v2 yo]) (mR rfl) (List.Perm.refl _) (List.Perm.refl _) ((.of [0,3,4,5,6,7,8,9,10,11] rfl):SelR _ _ _)<|e_one 12 (zv kr rfl rfl rfl rfl rfl sz32 rfl (.t4 .nil) ?_)
     refine zH kr<|zd<|ze<|zOa (X:=Unit) (fun x=>True) (fun x=>[(108,.bool false),(14,.pointer (some ⟨b23,0,none⟩)),(12,.pointer (some ⟨b18,0,none⟩)),(4,.pointer (some ⟨b2,0,none⟩))]) (fun x=>[boxA b23 34 (cw [w319,w420,w521,w622]),boxA b18 34 (cw [w314,w415,w516,w617]),boxA b2 34 (cw [u1,u2,v1,v2])]) (fun x=>[qF true w319 w420 (Cam.dX (Cam.rz e) ((some ((xo.getD 0)*(Rat.divInt part 256))).getD 0) ((some ((yo.getD 0)*(Rat.divInt part 256))).getD 0)),qF true w521 w622 (Cam.dY (Cam.rz e) ((some ((xo.getD 0)*(Rat.divInt part 256))).getD 0) ((some ((yo.getD 0)*(Rat.divInt part 256))).getD 0)),qF true w314 w415 (Cam.dX (Cam.rz e) (xo.getD 0) (yo.getD 0)),qF true w516 w617 (Cam.dY (Cam.rz e) (xo.getD 0) (yo.getD 0)),qF true v1 v2 (yo.getD 0),qF true u1 u2 (xo.getD 0),eF u1 u2 xo,eF v1 v2 yo]) ?_ ?_
     ·
      refine za<|e_ru (zc 1 ty32 rfl rfl (.t4 .nil))<|zJ rfl rfl (.c rfl .n) ce19 (zZb (k1:=true) (u1:=g10_0r2) (v1:=g10_1r2) (q1:=((Cam.dX (Cam.rz e) (xo.getD 0) (yo.getD 0))*(yo.getD 0)) - ((Cam.dY (Cam.rz e) (xo.getD 0) (yo.getD 0))*(xo.getD 0))) (hl:=by first|rfl|assumption|omega|(simp;done)|decide)) (.c (j:=1) rfl .n)<|e_p (zib rfl rfl) ?_
      rw [show (decide (Big.sgq (((Cam.dX (Cam.rz e) (xo.getD 0) (yo.getD 0))*(yo.getD 0)) - ((Cam.dY (Cam.rz e) (xo.getD 0) (yo.getD 0))*(xo.getD 0)))≠0))=false from by exact decide_eq_false (fun k=>k (by rw [Cam.cross0];rfl))]
      refine e_mv rfl<|e_ru (zc 0 ty32 rfl rfl (.t4 .nil))<|zJ rfl rfl (.c rfl .n) ce19 (zZb (k1:=true) (u1:=g10_0r3) (v1:=g10_1r3) (q1:=((Cam.dX (Cam.rz e) (xo.getD 0) (yo.getD 0))*(xo.getD 0))+((Cam.dY (Cam.rz e) (xo.getD 0) (yo.getD 0))*(yo.getD 0))) (hl:=by first|rfl|assumption|omega|(simp;done)|decide)) (.c (j:=0) rfl .n)<|e_p (zX rfl rfl) ?_
      rw [show (decide (Big.sgq (((Cam.dX (Cam.rz e) (xo.getD 0) (yo.getD 0))*(xo.getD 0))+((Cam.dY (Cam.rz e) (xo.getD 0) (yo.getD 0))*(yo.getD 0)))<0))=false from by exact decide_eq_false (fun k=>absurd (Big.sgq_lt.1 k) (Rat.not_lt.2 (Cam.dot0 hmd hii)))]
      refine e_p (zE rfl rfl)<|zf ?_
      exact zT () tt9 (mR rfl) (ho:=((.of [2,2,2] rfl):PickO _ _ _)) ((.of [2,3,4,5,6,7,8,9] rfl):SelR _ _ _)
     ·
      rintro ⟨⟩ -
      try dsimp only [cw]
      refine zTa rfl rfl<|zB<|zd<|zOa (X:=Unit) (fun x=>True) (fun x=>[(6,.bool true)]) (fun x=>[]) (fun x=>[]) ?_ ?_
      ·
       refine zV (OW:=[]) (O:=[boxA b23 34 (cw [w319,w420,w521,w622]),boxA b18 34 (cw [w314,w415,w516,w617]),boxA b2 34 (cw [u1,u2,v1,v2])]) 100000 mixed (.then .ret) kr<|e_u 0 rfl rfl (zc 2 ty34 rfl rfl (.t8 .nil))<|e_one 1 (zp rfl rfl rfl rfl (.c rfl .n) ce20 (zXb (u1:=u1) (u2:=u2) (v1:=v1) (v2:=v2) (qx:=(xo.getD 0)) (qy:=(yo.getD 0)) (hx:=by first|rfl|assumption|omega|(simp;done)|decide) (hy:=by first|rfl|assumption|omega|(simp;done)|decide)) (.c (j:=5) rfl (.c (j:=4) rfl .n)) ?_)
       rintro ⟨w330,w431⟩ -
       dsimp only [aq,nq,cq]
       refine e_one 2 (zbb rfl rfl rfl rfl (.c rfl .n) ce19 (zZb (k1:=true) (u1:=w330) (v1:=w431) (q1:=(Cam.sq (xo.getD 0) (yo.getD 0))) (hl:=by first|rfl|assumption|omega|(simp;done)|decide)) (.c (j:=0) rfl .n) ?_)
       refine e_pv 3 rfl rfl (zwa rfl rfl)<|zCe 4 rfl rfl kr kr rfl rfl (zga rfl) (fun h113=> ?_) (fun h113=> ?_)
       ·
        refine e_skip 5 rfl rfl<|e_skip 6 rfl rfl<|e_skip 7 rfl rfl<|e_skip 8 rfl rfl<|e_skip 9 rfl rfl<|e_skip 10 rfl rfl<|e_pv 11 rfl rfl (zE rfl rfl)<|e_pv 12 rfl rfl (zb rfl)<|zH kr ?_
        exact zT () tt9 ((.c rfl .n):SubM _ _) (ho:=oN) sN
       ·
        have h0:Cam.sq (xo.getD 0) (yo.getD 0)≠0:=fun k=>h113 (by rw [k];rfl)
        refine e_u 5 rfl rfl (zc 0 ty34 rfl rfl (.t8 .nil))<|e_u 7 rfl rfl (zc 1 ty34 rfl rfl (.t8 .nil))<|e_one 6 (zp rfl rfl rfl rfl (.c rfl .n) ce20 (zXb (u1:=w319) (u2:=w420) (v1:=w521) (v2:=w622) (qx:=(Cam.dX (Cam.rz e) ((some ((xo.getD 0)*(Rat.divInt part 256))).getD 0) ((some ((yo.getD 0)*(Rat.divInt part 256))).getD 0))) (qy:=(Cam.dY (Cam.rz e) ((some ((xo.getD 0)*(Rat.divInt part 256))).getD 0) ((some ((yo.getD 0)*(Rat.divInt part 256))).getD 0))) (hx:=by show yb (Cam.dX (Cam.rz e) (xo.getD 0*Rat.divInt part 256) (yo.getD 0*Rat.divInt part 256))≤_;omega) (hy:=by show yb (Cam.dY (Cam.rz e) (xo.getD 0*Rat.divInt part 256) (yo.getD 0*Rat.divInt part 256))≤_;omega)) (.c (j:=1) rfl (.c (j:=2) rfl .n)) ?_)
        rintro ⟨w332,w433⟩ -
        dsimp only [aq,nq,cq]
        refine e_one 8 (zp rfl rfl rfl rfl (.c rfl .n) ce20 (zXb (u1:=w314) (u2:=w415) (v1:=w516) (v2:=w617) (qx:=(Cam.dX (Cam.rz e) (xo.getD 0) (yo.getD 0))) (qy:=(Cam.dY (Cam.rz e) (xo.getD 0) (yo.getD 0))) (hx:=by first|rfl|assumption|omega|(simp;done)|decide) (hy:=by first|rfl|assumption|omega|(simp;done)|decide)) (.c (j:=4) rfl (.c (j:=5) rfl .n)) ?_)
        rintro ⟨w334,w435⟩ -
        dsimp only [aq,nq,cq]
        refine e_one 9 (zbb rfl rfl rfl rfl (.c rfl (.c rfl .n)) ce21 (zOb (k1:=true) (u1:=w332) (v1:=w433) (q1:=(Cam.sq (Cam.dX (Cam.rz e) ((some ((xo.getD 0)*(Rat.divInt part 256))).getD 0) ((some ((yo.getD 0)*(Rat.divInt part 256))).getD 0)) (Cam.dY (Cam.rz e) ((some ((xo.getD 0)*(Rat.divInt part 256))).getD 0) ((some ((yo.getD 0)*(Rat.divInt part 256))).getD 0)))) (k2:=true) (u2:=w334) (v2:=w435) (q2:=(Cam.sq (Cam.dX (Cam.rz e) (xo.getD 0) (yo.getD 0)) (Cam.dY (Cam.rz e) (xo.getD 0) (yo.getD 0)))) (hl:=by show yb (Cam.sq (Cam.dX (Cam.rz e) (xo.getD 0*Rat.divInt part 256) (yo.getD 0*Rat.divInt part 256)) (Cam.dY (Cam.rz e) (xo.getD 0*Rat.divInt part 256) (yo.getD 0*Rat.divInt part 256)))+yb (Cam.sq (Cam.dX (Cam.rz e) (xo.getD 0) (yo.getD 0)) (Cam.dY (Cam.rz e) (xo.getD 0) (yo.getD 0)))+1≤_;omega)) (.c (j:=1) rfl (.c (j:=0) rfl .n)) ?_)
        refine e_pv 10 rfl rfl (zX rfl rfl) ?_
        rw [show (decide (Big.sgq ((Cam.sq (Cam.dX (Cam.rz e) ((some ((xo.getD 0)*(Rat.divInt part 256))).getD 0) ((some ((yo.getD 0)*(Rat.divInt part 256))).getD 0)) (Cam.dY (Cam.rz e) ((some ((xo.getD 0)*(Rat.divInt part 256))).getD 0) ((some ((yo.getD 0)*(Rat.divInt part 256))).getD 0))) - (Cam.sq (Cam.dX (Cam.rz e) (xo.getD 0) (yo.getD 0)) (Cam.dY (Cam.rz e) (xo.getD 0) (yo.getD 0))))<0))=true from by exact decide_eq_true (Big.sgq_lt.2 (by have h9:=Cam.out_less hmd hs hii h0;grind))]
        refine e_pv 11 rfl rfl (zE rfl rfl)<|e_pv 12 rfl rfl (zb rfl)<|zH kr ?_
        exact zT () tt9 ((.c rfl .n):SubM _ _) (ho:=oN) sN
      ·
       rintro ⟨⟩ -
       try dsimp only
       refine zC ?_
       exact zu Tryz.results4 () trivial (zn rfl) rfl (ho:=oN) sN
end Go.Proofs.YtahiajepeodhoaaGreat.Sp
namespace Go.Proofs.YtahiajepeodhoaaGreat.Sp
open Go
set_option linter.unusedVariables false
theorem eF_of {g:Hp} {s t:Bool} {p1 p2:Option Addr} {c1 c2:Nat} {la lb:List Int} (ha:Sl (rI .u32) g p1 c1 la) (hb:Sl (rI .u32) g p2 c2 lb) (k1:la.length≤1099511627776) (k2:lb.length≤1099511627776):
    (eF ⟨s,p1,la.length,c1⟩ ⟨t,p2,lb.length,c2⟩ (qo ((s,la),(t,lb)))).on g:=⟨((s,la),(t,lb)),⟨rfl,rfl,k1,ha⟩,⟨rfl,rfl,k2,hb⟩,rfl⟩
theorem mz_raw1 {x:(Bool×List Int)×(Bool×List Int)} {n:Nat} (h:(fun z:(Bool×List Int)×(Bool×List Int)=>(fun z:Bool×List Int=>(fun _:Bool=>1) z.1+mzL (fun _:Int=>1) z.2) z.1+(fun z:Bool×List Int=>(fun _:Bool=>1) z.1+mzL (fun _:Int=>1) z.2) z.2) x≤n):x.1.2.length≤n∧x.2.2.length≤n:=by
  have q1:=mzL_len (mz:=fun _:Int=>1) (l:=x.1.2) (fun _=>Nat.le_refl 1)
  have q2:=mzL_len (mz:=fun _:Int=>1) (l:=x.2.2) (fun _=>Nat.le_refl 1)
  simp only at h
  omega
end Go.Proofs.YtahiajepeodhoaaGreat.Sp
