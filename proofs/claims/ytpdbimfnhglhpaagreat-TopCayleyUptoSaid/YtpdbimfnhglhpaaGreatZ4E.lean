/- Lemmas on the walk and plain lemmas that the claim of this folder uses; each states its own conditions. Lines were printed by a program of ours. -/
import Derived.Test.YtpdbimfnhglhpaaGreatZ4D
set_option linter.unusedVariables false
set_option linter.unusedSimpArgs false
set_option linter.unusedSectionVars false
open Go.Proofs.Tryz renaming underlying64 → ya, underlying60 → yb, underlying62 → yc, prog → yd, underlying192 → yf, underlying46 → yg, underlying106 → yh
open Go.Proofs.YtpdbimfnhglhpaaGreat.Big renaming hq → ye, sgq → yi
namespace Go.Proofs.YtpdbimfnhglhpaaGreat.Po
open Go.Proofs.YtpdbimfnhglhpaaGreat.Big
def le2 (z L:Rat):Prop:= -L≤z∧z≤L
theorem le2_add {x y A B:Rat} (h:le2 x A) (k:le2 y B):le2 (x+y) (A+B):=by
  unfold le2 at *;constructor <;> grind
theorem le2_mono {x A B:Rat} (h:le2 x A) (k:A≤B):le2 x B:=by
  unfold le2 at *;constructor <;> grind
theorem le2_nonneg {x A:Rat} (h:le2 x A):0≤A:=by unfold le2 at h;grind
theorem le2_mul {x y A B:Rat} (h:le2 x A) (k:le2 y B):le2 (x*y) (A*B):=by
  unfold le2 at*
  have a1:=Rat.mul_nonneg (show 0≤A - x by grind) (show 0≤B+y by grind)
  have a2:=Rat.mul_nonneg (show 0≤A+x by grind) (show 0≤B - y by grind)
  have a3:=Rat.mul_nonneg (show 0≤A - x by grind) (show 0≤B - y by grind)
  have a4:=Rat.mul_nonneg (show 0≤A+x by grind) (show 0≤B+y by grind)
  constructor <;> grind
theorem le2_abs (a:Rat):le2 a (qabs a):=by
  unfold le2 qabs;split <;> constructor <;> grind
theorem ev_bound {R:Rat} (hR:0≤R):∀l:List Rat,∃M,0≤M∧∀t,le2 t R→le2 (ev t l) M
  |[]=>⟨0,by grind,fun t _=>by show le2 0 0;unfold le2;constructor <;> grind⟩
  |a :: l=>by
    obtain ⟨M,h0,h⟩:=ev_bound hR l
    have:=Rat.mul_nonneg h0 hR
    have ha:=le2_nonneg (le2_abs a)
    refine ⟨M*R+qabs a,by grind,fun t ht=> ?_⟩
    exact le2_add (le2_mul (h t ht) ht) (le2_abs a)
theorem ev_lip {R:Rat} (hR:0≤R):∀l:List Rat,∃L,0≤L∧∀s t,le2 s R→le2 t R→s≤t→le2 (ev t l - ev s l) (L*(t - s))
  |[]=>⟨0,by grind,fun s t _ _ _=>by show le2 (0 - 0) _;unfold le2;constructor <;> grind⟩
  |a :: l=>by
    obtain ⟨L,h0,h⟩:=ev_lip hR l
    obtain ⟨M,m0,hm⟩:=ev_bound hR l
    have:=Rat.mul_nonneg hR h0
    refine ⟨M+R*L,by grind,fun s t hs ht hst=> ?_⟩
    have e:ev t (a :: l) - ev s (a :: l)=ev t l*(t - s)+s*(ev t l - ev s l):=by
      show ev t l*t+a - (ev s l*s+a)=_;grind
    have h1:=le2_mul (hm t ht) (show le2 (t - s) (t - s) by unfold le2;constructor <;> grind)
    have h2:=le2_mul hs (h s t hs ht hst)
    rw [e]
    refine le2_mono (le2_add h1 h2) ?_
    grind
theorem der_cons (a:Rat) (l:List Rat) (t:Rat):ev t (der (a :: l))=ev t l+t*ev t (der l):=by
  have e:der (a :: l)=der (add (mul [0,1] l) [a]):=der_ext fun t=>by
    rw [ev_add,ev_mul]
    show ev t l*t+a=((0*t+1)*t+0)*ev t l+(0*t+a);grind
  have e2:der (add (mul [0,1] l) [a])=add (der (mul [0,1] l)) (der [a]):=zRa (der_cl _) (add_cl _ _) fun i=>by
    rw [der_get,add_get,add_get,der_get,der_get];grind
  have e3:der [a]=[]:=by
    have:(der [a]).length≤0:=der_len [a]
    exact List.length_eq_zero_iff.1 (by omega)
  have e4:ev t (der [(0:Rat),1])=1:=by
    have:der [(0:Rat),1]=[1]:=by decide +kernel
    rw [this];show 0*t+1=(1:Rat);grind
  rw [e,e2,ev_add,der_mul,ev_add,ev_mul,ev_mul,e3,e4]
  show _+((0*t+1)*t+0)*_+0=_
  grind
theorem ev_tay {R:Rat} (hR:0≤R):∀l:List Rat,∃K,0≤K∧∀s t,le2 s R→le2 t R→s≤t→le2 (ev t l - ev s l - (t - s)*ev s (der l)) (K*((t - s)*(t - s)))
  |[]=>⟨0,by grind,fun s t _ _ _=>by
      have:ev s (der [])=0:=by
        have:der ([]:List Rat)=[]:=by decide +kernel
        rw [this];rfl
      rw [this]
      show le2 (0 - 0 - _) _;unfold le2;constructor <;> grind⟩
  |a :: l=>by
    obtain ⟨K,h0,h⟩:=ev_tay hR l
    obtain ⟨L,l0,hl⟩:=ev_lip hR l
    have:=Rat.mul_nonneg hR h0
    refine ⟨L+R*K,by grind,fun s t hs ht hst=> ?_⟩
    have e:ev t (a :: l) - ev s (a :: l) - (t - s)*ev s (der (a :: l))=(ev t l - ev s l)*(t - s)+s*(ev t l - ev s l - (t - s)*ev s (der l)):=by
      rw [der_cons]
      show ev t l*t+a - (ev s l*s+a) - _=_;grind
    have h1:=le2_mul (hl s t hs ht hst) (show le2 (t - s) (t - s) by unfold le2;constructor <;> grind)
    have h2:=le2_mul hs (h s t hs ht hst)
    rw [e]
    refine le2_mono (le2_add h1 h2) ?_
    grind
theorem all_lip {R:Rat} (hR:0≤R):∀S:List (List Rat),∃L,0≤L∧∀l,l∈S→∀s t,le2 s R→le2 t R→s≤t→le2 (ev t l - ev s l) (L*(t - s))
  |[]=>⟨0,by grind,fun l h=>by cases h⟩
  |l :: S=>by
    obtain ⟨L,l0,hL⟩:=ev_lip hR l
    obtain ⟨M,m0,hM⟩:=all_lip hR S
    refine ⟨L+M,by grind,fun k hk s t hs ht hst=> ?_⟩
    have h0:0≤t - s:=by grind
    have h1:=Rat.mul_nonneg l0 h0
    have h2:=Rat.mul_nonneg m0 h0
    rcases List.mem_cons.1 hk with rfl|hk
    · exact le2_mono (hL s t hs ht hst) (by grind)
    · exact le2_mono (hM k hk s t hs ht hst) (by grind)
def chn:List (List Rat)→Prop
  |[]=>True
  |[a]=>∃c:Rat,c≠0∧∀t,ev t a=c
  |[_,b]=>∃c:Rat,c≠0∧∀t,ev t b=c
  |a :: b :: c :: l=>(∃q,∀t,ev t a=ev t q*ev t b - ev t c)∧chn (b :: c :: l)
def sm (δ z:Rat):Prop:= -δ<z∧z<δ
def prs (δ x:Rat):List (List Rat)→Prop
  |[]=>True
  |[a]=>¬sm δ (ev x a)
  |a :: b :: l=>¬(sm δ (ev x a)∧sm δ (ev x b))∧prs δ x (b :: l)
theorem sm_mono {δ ε z:Rat} (h:sm δ z) (k:δ≤ε):sm ε z:=by unfold sm at *;constructor <;> grind
theorem prs_mono {δ ε x:Rat} (k:δ≤ε):∀S:List (List Rat),prs ε x S→prs δ x S
  |[],_=>trivial
  |[_],h=>fun z=>h (sm_mono z k)
  |_ :: b :: l,h=>⟨fun z=>h.1 ⟨sm_mono z.1 k,sm_mono z.2 k⟩,prs_mono k (b :: l) h.2⟩
def chq (R Q:Rat):List (List Rat)→Prop
  |[]=>True
  |[a]=>∃c:Rat,c≠0∧∀t,ev t a=c
  |[_,b]=>∃c:Rat,c≠0∧∀t,ev t b=c
  |a :: b :: c :: l=>(∃q,(∀t,le2 t R→le2 (ev t q) Q)∧∀t,ev t a=ev t q*ev t b - ev t c)∧chq R Q (b :: c :: l)
theorem chq_mono {R Q Q':Rat} (k:Q≤Q'):∀S:List (List Rat),chq R Q S→chq R Q' S
  |[],_=>trivial
  |[_],h=>h
  |[_,_],h=>h
  |_ :: b :: c :: l,⟨⟨q,h1,h2⟩,h3⟩=>⟨⟨q,fun t ht=>le2_mono (h1 t ht) k,h2⟩,chq_mono k (b :: c :: l) h3⟩
theorem chn_q {R:Rat} (hR:0≤R):∀S:List (List Rat),chn S→∃Q,0≤Q∧chq R Q S
  |[],_=>⟨0,by grind,trivial⟩
  |[_],h=>⟨0,by grind,h⟩
  |[_,_],h=>⟨0,by grind,h⟩
  |a :: b :: c :: l,⟨⟨q,h2⟩,h3⟩=>by
    obtain ⟨M,m0,hM⟩:=ev_bound hR q
    obtain ⟨Q,q0,hQ⟩:=chn_q hR (b :: c :: l) h3
    exact ⟨M+Q,by grind,⟨q,fun t ht=>le2_mono (hM t ht) (by grind),h2⟩,chq_mono (by grind) _ hQ⟩
theorem const_big {a:List Rat} {c:Rat} (hc:c≠0) (h:∀t,ev t a=c):∃δ,0<δ∧∀x,¬sm δ (ev x a):=by
  refine ⟨qabs c,?_,fun x z=> ?_⟩
  · unfold qabs;split <;> grind
  · rw [h] at z
    unfold sm qabs at z
    split at z <;> grind
theorem chq_prs {R Q:Rat} (hQ:0≤Q):∀S:List (List Rat),chq R Q S→∃δ,0<δ∧∀x,le2 x R→prs δ x S
  |[],_=>⟨1,by decide +kernel,fun _ _=>trivial⟩
  |[a],⟨c,hc,h⟩=>by
    obtain ⟨δ,h0,h1⟩:=const_big hc h
    exact ⟨δ,h0,fun x _=>h1 x⟩
  |[a,b],⟨c,hc,h⟩=>by
    obtain ⟨δ,h0,h1⟩:=const_big hc h
    exact ⟨δ,h0,fun x _=>⟨fun z=>h1 x z.2,h1 x⟩⟩
  |a :: b :: c :: l,⟨⟨q,h1,h2⟩,h3⟩=>by
    obtain ⟨δ,h0,hδ⟩:=chq_prs hQ (b :: c :: l) h3
    have hq2:0<Q+2:=by grind
    have e:δ / (Q+2)*(Q+2)=δ:=Rat.div_mul_cancel (by grind)
    have hp:0<δ / (Q+2):=by
      refine Rat.not_le.1 fun z=> ?_
      have:=Rat.mul_nonneg (show 0≤ -(δ / (Q+2)) by grind) (show 0≤Q+2 by grind)
      grind
    generalize δ / (Q+2)=ε at*
    have hQε:=Rat.mul_nonneg hQ (show 0≤ε by grind)
    have hle:ε≤δ:=by grind
    refine ⟨ε,hp,fun x hx=>⟨fun z=> ?_,prs_mono hle _ (hδ x hx)⟩⟩
    have h4:=le2_mul (h1 x hx) (show le2 (ev x b) ε by unfold sm at z;unfold le2;constructor <;> grind)
    have h5:=h2 x
    refine (hδ x hx).1 ⟨sm_mono z.2 hle,?_⟩
    unfold sm le2 at*
    constructor <;> grind
end Go.Proofs.YtpdbimfnhglhpaaGreat.Po
namespace Go.Proofs.YtpdbimfnhglhpaaGreat.Po
open Go.Proofs.YtpdbimfnhglhpaaGreat.Big
theorem sgq_p {z:Rat} (h:0<z):sgq z=1:=by
  have:=sgq_pos.2 h;have:=sgq_rng z;omega
theorem sgq_n {z:Rat} (h:z<0):sgq z= -1:=by
  have:=sgq_lt.2 h;have:=sgq_rng z;omega
theorem sm_not {δ z:Rat} (h:¬sm δ z):z≤ -δ∨δ≤z:=by
  unfold sm at h
  by_cases k: -δ<z
  · exact .inr (by grind)
  · exact .inl (by grind)
theorem sgn_stay {δ η z w:Rat} (hd:0<δ) (h:¬sm δ z) (k:le2 (w - z) η) (l:η<δ):sgq w=sgq z∧sgq z≠0:=by
  unfold le2 at k
  rcases sm_not h with q|q
  · rw [sgq_n (show w<0 by grind),sgq_n (show z<0 by grind)];decide
  · rw [sgq_p (show 0<w by grind),sgq_p (show 0<z by grind)];decide
theorem va_add (x:Rat):∀(l:List (List Rat)) (n s:Int),va x l n s=n+va x l 0 s
  |[],n,s=>by show n=n+0;omega
  |p :: l,n,s=>by
    unfold va
    split
    · exact va_add x l n s
    · split
      · rw [va_add x l (n+1),va_add x l (0+1)];omega
      · exact va_add x l n _
theorem va_cons (x:Rat) (p:List Rat) (l:List (List Rat)) (n s:Int):va x (p :: l) n s=if sgq (ev x p)=0 then va x l n s else va x l (if s*sgq (ev x p)<0 then n+1 else n) (sgq (ev x p)):=rfl
theorem va_mid {z:Rat} {g k:List Rat} {T:List (List Rat)} {n s:Int} (hs:s=1∨s= -1) (hk:sgq (ev z k)= -s):va z (g :: k :: T) n s=va z T (n+1) (-s):=by
  have hr:=sgq_rng (ev z g)
  rw [va_cons,va_cons,va_cons]
  rcases (show sgq (ev z g)= -1∨sgq (ev z g)=0∨sgq (ev z g)=1 by omega) with e|e|e <;> rcases hs with rfl|rfl <;> simp [e,hk]
theorem chq_tail {R Q:Rat} {f:List Rat} {T:List (List Rat)} (h:chq R Q (f :: T)):chq R Q T:=by
  match T,h with
  |[],_=>trivial
  |[_],h=>exact h
  |_ :: _ :: _,h=>exact h.2
theorem prs_tail {δ x:Rat} {f:List Rat} {T:List (List Rat)} (h:prs δ x (f :: T)):prs δ x T:=by
  match T,h with
  |[],_=>trivial
  |_ :: _,h=>exact h.2
theorem tail_same {R Q δ1 δ x y:Rat} (hQ:0≤Q) (hd:0<δ) (hδ:(Q+2)*δ≤δ1) (hx:le2 x R):∀(m:Nat) (f:List Rat) (T:List (List Rat)),T.length≤m→chq R Q (f :: T)→prs δ1 x (f :: T)→(∀g,g∈f :: T→∃η,η<δ∧le2 (ev y g - ev x g) η)→¬sm δ (ev x f)→∀n,va x T n (sgq (ev x f))=va y T n (sgq (ev x f))
  |_,f,[],_,_,_,_,_,n=>rfl
  |0,f,g :: T,hm,_,_,_,_,_=>by simp at hm
  |m+1,f,g :: T,hm,hc,hp,hl,hf,n=>by
    have hQδ:=Rat.mul_nonneg hQ (show 0≤δ by grind)
    have hle:δ≤δ1:=by grind
    have hm':T.length≤m:=by simp at hm;omega
    obtain ⟨ηg,lg,bg⟩:=hl g (by simp)
    have hlt:∀k,k∈g :: T→∃η,η<δ∧le2 (ev y k - ev x k) η:=fun k hk=>hl k (List.mem_cons_of_mem _ hk)
    by_cases hg:sm δ (ev x g)
    · match T, hc, hp, hm', hlt with
      |[],hc,hp,_,_=>exact absurd (sm_mono hg hle) hp.2
      |k :: T,⟨⟨q,h1,h2⟩,h3⟩,hp,hm',hlt=>
        have hf1:¬sm δ1 (ev x f):=fun z=>hp.1 ⟨z,sm_mono hg hle⟩
        have h4:=le2_mul (h1 x hx) (show le2 (ev x g) δ by unfold sm at hg;unfold le2;constructor <;> grind)
        have h5:=h2 x
        obtain ⟨ηk,lk,bk⟩:=hlt k (by simp)
        have hs:sgq (ev x f)=1∨sgq (ev x f)= -1:=by
          rcases sm_not hf1 with z|z
          · exact .inr (sgq_n (by grind))
          · exact .inl (sgq_p (by grind))
        have hkx:¬sm δ (ev x k)∧sgq (ev x k)= - sgq (ev x f):=by
          unfold le2 at h4
          rcases sm_not hf1 with z|z
          · have : 2 * δ ≤ ev x k := by grind
            rw [sgq_p (show 0<ev x k by grind),sgq_n (show ev x f<0 by grind)]
            refine ⟨fun w=> ?_,by decide⟩
            unfold sm at w;grind
          · have : ev x k ≤ -(2 * δ) := by grind
            rw [sgq_n (show ev x k<0 by grind),sgq_p (show 0<ev x f by grind)]
            refine ⟨fun w=> ?_,by decide⟩
            unfold sm at w;grind
        have hky:=(sgn_stay hd hkx.1 bk lk).1
        rw [va_mid hs hkx.2,va_mid hs (hky.trans hkx.2),←hkx.2]
        exact tail_same hQ hd hδ hx m k T (by simp at hm';omega) (chq_tail h3) (prs_tail hp.2) (fun j hj=>hlt j (List.mem_cons_of_mem _ hj)) hkx.1 (n+1)
    · obtain ⟨e1, e2⟩ := sgn_stay hd hg bg lg
      unfold va
      rw [e1,if_neg e2,if_neg e2]
      exact tail_same hQ hd hδ hx m g T hm' (chq_tail hc) (prs_tail hp) hlt hg _
def b2 (p:Prop) [Decidable p]:Int:=if p then 1 else 0
def Stp (S:List (List Rat)) (f:List Rat) (x y:Rat):Prop:=
  (sgq (ev x f)=sgq (ev y f)∧(∀z,x≤z→z≤y→ev z f≠0)∧vr S x=vr S y)
  ∨((∀u v,x≤u→u<v→v≤y→ev u f<ev v f)∧vr S x - vr S y=b2 (ev x f<0) - b2 (ev y f<0))
  ∨((∀u v,x≤u→u<v→v≤y→ev v f<ev u f)∧vr S x - vr S y=b2 (0<ev x f) - b2 (0<ev y f))
theorem vr_head {S:List (List Rat)} {f0 f1:List Rat} {T:List (List Rat)} {z:Rat} {τ:Int} (hS:S=f0 :: f1 :: T) (h1:sgq (ev z f1)=τ) (hτ:τ≠0):vr S z=(if sgq (ev z f0)*τ<0 then 1 else 0)+va z T 0 τ:=by
  rw [hS]
  unfold vr
  rw [va_cons,va_cons,va_cons,h1,if_neg hτ,if_neg hτ]
  split
  · rename_i h0
    rw [va_add,h0]
    simp
  · rename_i h0
    rw [va_add]
    simp
theorem pos_mul {a b:Rat} (ha:0<a) (hb:0<b):0<a*b:=Rat.mul_pos ha hb
theorem step {f0:List Rat} {T:List (List Rat)} (hc:chn (f0 :: der f0 :: T)) {R:Rat} (hR:0≤R):∃h,0<h∧∀x y,le2 x R→le2 y R→x<y→y - x≤h→Stp (f0 :: der f0 :: T) f0 x y:=by
  obtain ⟨Q,hQ,hq⟩:=chn_q hR _ hc
  obtain ⟨δ1,hδ1,hp⟩:=chq_prs hQ _ hq
  obtain ⟨L,hL,hl⟩:=all_lip hR (f0 :: der f0 :: T)
  obtain ⟨K,hK,hk⟩:=ev_tay hR f0
  have dpos:∀{a b:Rat},0<a→0<b→0<a / b:=fun {a b} ha hb=>by
    have e:a / b*b=a:=Rat.div_mul_cancel (by grind)
    refine Rat.not_le.1 fun z=> ?_
    have:=Rat.mul_nonneg (show 0≤ -(a / b) by grind) (show 0≤b by grind)
    grind
  have hd:0<δ1 / (Q+2):=dpos hδ1 (by grind)
  have ed:δ1 / (Q+2)*(Q+2)=δ1:=Rat.div_mul_cancel (by grind)
  generalize δ1 / (Q+2)=δ at*
  have hh:0<δ / (L+K+1):=dpos hd (by grind)
  have eh:δ / (L+K+1)*(L+K+1)=δ:=Rat.div_mul_cancel (by grind)
  generalize δ / (L+K+1)=h at*
  have hQδ:=Rat.mul_nonneg hQ (show 0≤δ by grind)
  have hLh:=Rat.mul_nonneg hL (show 0≤h by grind)
  have hKh:=Rat.mul_nonneg hK (show 0≤h by grind)
  refine ⟨h,hh,fun x y hx hy hxy hyx=> ?_⟩
  have hlip:∀g,g∈f0 :: der f0 :: T→∀u v,x≤u→u≤v→v≤y→le2 (ev v g - ev u g) (L*h):=fun g hg u v h1 h2 h3=>by
    have:=Rat.mul_nonneg hL (show 0≤h - (v - u) by grind)
    exact le2_mono (hl g hg u v (by unfold le2 at *;constructor <;> grind) (by unfold le2 at *;constructor <;> grind) h2) (by grind)
  have hLδ:L*h<δ:=by grind
  have hxy':x≤y:=by grind
  have hlx:∀g,g∈f0 :: der f0 :: T→∃η,η<δ∧le2 (ev y g - ev x g) η:=fun g hg=>⟨L*h,hLδ,hlip g hg x y (by grind) hxy' (by grind)⟩
  by_cases h0:sm δ (ev x f0)
  · have hle : δ ≤ δ1 := by grind
    have h1:¬sm δ1 (ev x (der f0)):=fun z=>(hp x hx).1 ⟨sm_mono h0 hle,z⟩
    have h1':¬sm δ (ev x (der f0)):=fun z=>h1 (sm_mono z hle)
    obtain ⟨e1,e2⟩:=sgn_stay hd h1' (hlip (der f0) (by simp) x y (by grind) hxy' (by grind)) hLδ
    have ht:=tail_same hQ hd (show (Q+2)*δ≤δ1 by grind) hx T.length (der f0) T (Nat.le_refl _) (chq_tail hq) (prs_tail (hp x hx)) (fun g hg=>hlx g (List.mem_cons_of_mem _ hg)) h1' 0
    have vx:=vr_head (f0:=f0) (T:=T) rfl rfl e2 (z:=x) (f1:=der f0)
    have vy:=vr_head (f0:=f0) (T:=T) rfl e1 e2 (z:=y) (f1:=der f0)
    have hmono:∀u v,x≤u→u<v→v≤y→le2 (ev v f0 - ev u f0 - (v - u)*ev u (der f0)) (K*((v - u)*(v - u)))∧le2 (ev u (der f0) - ev x (der f0)) (L*h):=fun u v a b c=>
      ⟨hk u v (by unfold le2 at *;constructor <;> grind) (by unfold le2 at *;constructor <;> grind) (by grind),hlip (der f0) (by simp) x u (by grind) a (by grind)⟩
    refine .inr ?_
    rcases sm_not h1 with z|z
    · refine .inr ⟨fun u v a b c => ?_, ?_⟩
      · obtain ⟨m1, m2⟩ := hmono u v a b c
        have hneg:ev u (der f0)< -δ:=by unfold le2 at m2;grind
        have hKw:K*(v - u)≤δ:=by
          have:=Rat.mul_nonneg hK (show 0≤h - (v - u) by grind)
          grind
        have:=pos_mul (show 0<v - u by grind) (show 0< -(ev u (der f0)) - K*(v - u) by grind)
        unfold le2 at m1
        grind
      · have s1 : sgq (ev x (der f0)) = -1 := sgq_n (by grind)
        rw [vx,vy,ht,s1]
        unfold b2
        have p1:∀w:Rat,(sgq w* -1<0)↔0<w:=fun w=>by have:=sgq_pos (x:=w);constructor <;> intro q <;> (first|(apply sgq_pos.1;omega)|(have:=sgq_pos.2 q;omega))
        simp only [p1]
        omega
    · refine .inl ⟨fun u v a b c => ?_, ?_⟩
      · obtain ⟨m1, m2⟩ := hmono u v a b c
        have hpos:δ<ev u (der f0):=by unfold le2 at m2;grind
        have hKw:K*(v - u)≤δ:=by
          have:=Rat.mul_nonneg hK (show 0≤h - (v - u) by grind)
          grind
        have:=pos_mul (show 0<v - u by grind) (show 0<ev u (der f0) - K*(v - u) by grind)
        unfold le2 at m1
        grind
      · have s1 : sgq (ev x (der f0)) = 1 := sgq_p (by grind)
        rw [vx,vy,ht,s1]
        unfold b2
        have p1:∀w:Rat,(sgq w*1<0)↔w<0:=fun w=>by rw [Int.mul_one];exact sgq_lt
        simp only [p1]
        omega
  · obtain ⟨e1, e2⟩ := sgn_stay hd h0 (hlip f0 (by simp) x y (by grind) hxy' (by grind)) hLδ
    refine .inl ⟨e1.symm,fun z a b c=> ?_,?_⟩
    · have := hlip f0 (by simp) x z (by grind) a b
      unfold le2 at this
      rcases sm_not h0 with w|w <;> grind
    · have ht := tail_same hQ hd (show (Q + 2) * δ ≤ δ1 by grind) hx (der f0 :: T).length f0 (der f0 :: T) (Nat.le_refl _) hq (hp x hx) hlx h0 0
      have hv:∀w,sgq (ev w f0)=sgq (ev x f0)→vr (f0 :: der f0 :: T) w=va w (der f0 :: T) 0 (sgq (ev x f0)):=fun w hw=>by
        unfold vr
        conv=>lhs;unfold va
        rw [hw,if_neg e2,Int.zero_mul,if_neg (by decide)]
      rw [hv x rfl,hv y e1]
      exact ht
theorem le_natAbs (r:Rat):r≤((r.num.natAbs:Nat):Rat):=by
  have h1:(r.num:Rat) / ((r.den:Int):Rat)=r:=by rw [← Rat.divInt_eq_div,Rat.num_divInt_den]
  have h2:=Rat.div_mul_cancel (a:=(r.num:Rat)) (cast_ne (den_ne r))
  rw [h1] at h2
  have h3:(1:Rat)≤((r.den:Int):Rat):=by
    have:=r.den_pos
    have:(1:Int)≤(r.den:Int):=by omega
    exact_mod_cast this
  have h4:(r.num:Rat)≤((r.num.natAbs:Nat):Rat):=by
    have:r.num≤((r.num.natAbs:Nat):Int):=by omega
    exact_mod_cast this
  have h5:(0:Rat)≤((r.num.natAbs:Nat):Rat):=by exact_mod_cast Nat.zero_le _
  by_cases h:0≤r
  · have := Rat.mul_nonneg h (show 0 ≤ ((r.den : Int) : Rat) - 1 by grind)
    grind
  · grind
theorem walk {P:Rat→Rat→Prop} {R h:Rat} (hh:0<h) (hs:∀x y,le2 x R→le2 y R→x<y→y - x≤h→P x y) (ht:∀x z y,x<z→z<y→P x z→P z y→P x y) (x y:Rat) (hx:le2 x R) (hy:le2 y R) (hxy:x<y):P x y:=by
  have key:∀(n:Nat) (x:Rat),le2 x R→x<y→y - x≤((n:Nat):Rat)*h→P x y:=by
    intro n
    induction n with
    |zero=>
      intro x _ h1 h2
      have:((0:Nat):Rat)=0:=by decide +kernel
      rw [this] at h2;grind
    |succ n ih=>
      intro x hx h1 h2
      by_cases k:y - x≤h
      · exact hs x y hx hy h1 k
      · have e : ((n + 1 : Nat) : Rat) = (n : Nat) + 1 := by exact_mod_cast cast_s n
        rw [e] at h2
        have hz:le2 (x+h) R:=by unfold le2 at *;constructor <;> grind
        exact ht x (x+h) y (by grind) (by grind) (hs x (x+h) hx hz (by grind) (by grind)) (ih (x+h) hz (by grind) (by grind))
  have e:(y - x) / h*h=y - x:=Rat.div_mul_cancel (by grind)
  refine key ((y - x) / h).num.natAbs x hx hxy ?_
  have:=Rat.mul_nonneg (show 0≤((((y - x) / h).num.natAbs:Nat):Rat) - (y - x) / h by have:=le_natAbs ((y - x) / h);grind) (show 0≤h by grind)
  grind
end Go.Proofs.YtpdbimfnhglhpaaGreat.Po
namespace Go.Proofs.YtpdbimfnhglhpaaGreat.Po
open Go.Proofs.YtpdbimfnhglhpaaGreat.Big
theorem neg1:(((-1:Int)):Rat)= -1:=by decide +kernel
theorem ev_neg (t:Rat) (l:List Rat):ev t (mul l [(((-1:Int)):Rat)])= - ev t l:=by
  rw [ev_mul,neg1];show _*(0*t+ -1)=_;grind
theorem one_const {b:List Rat} (hb:cl b=b) (h:b.length=1):∃c:Rat,c≠0∧∀t,ev t b=c:=by
  match b,h with
  |[c],_=>exact ⟨c,last_ne (l:=[c]) hb (by simp),fun t=>by show 0*t+c=c;grind⟩
theorem dvd_refl (b:List Rat):dvd b b:=⟨[1],fun t=>by show _=_*(0*t+1);grind⟩
theorem st_chn:∀(n:Nat) (a b:List Rat),cl a=a→cl b=b→b.length≠0→(mul (dr a b) [(((-1:Int)):Rat)]).length≤n→(∀h,cl h=h→dvd h a→dvd h b→h.length≤1)→chn (a :: b :: st n b (mul (dr a b) [(((-1:Int)):Rat)]))
  |n,a,b,ha,hb,h0,hn,hd=>by
    by_cases hc:(mul (dr a b) [(((-1:Int)):Rat)]).length=0
    · rw [st_nil hc]
      have hda:dvd b a:=⟨dq a b,fun t=>by
        have h1:=div_ev ha hb h0 t
        have h2:=ev_neg t (dr a b)
        rw [List.length_eq_zero_iff.1 hc] at h2
        have h3:(0:Rat)= - ev t (dr a b):=h2
        grind⟩
      have:=hd b hb hda (dvd_refl b)
      exact one_const hb (by omega)
    · obtain ⟨m, rfl⟩ : ∃ m, n = m + 1 := ⟨n - 1, by omega⟩
      rw [st_yes hc hn]
      have hcc:=mul_cl (dr a b) [(((-1:Int)):Rat)]
      refine ⟨⟨dq a b,fun t=> ?_⟩,?_⟩
      · rw [ev_neg,div_ev ha hb h0 t];grind
      · refine st_chn m b _ hb hcc hc (sdr_len hcc hc hn) fun h hh h1 h2 => ?_
        refine hd h hh ?_ h1
        obtain ⟨u,hu⟩:=h1
        obtain ⟨v,hv⟩:=h2
        refine ⟨sub (mul (dq a b) u) v,fun t=> ?_⟩
        have h3:=hv t
        rw [ev_neg] at h3
        rw [div_ev ha hb h0 t,ev_sub,ev_mul,hu t]
        grind
theorem sturm_chn {p:List Rat} (hp:(cl p).length≠0):(∃c:Rat,c≠0∧(∀t,ev t (sqf p)=c)∧sturm p=[sqf p])∨∃T,sturm p=sqf p :: der (sqf p) :: T∧chn (sqf p :: der (sqf p) :: T):=by
  have h0:(sqf p).length≠0:=fun e=>hp ((sqf_nil p).1 e)
  have hs:sturm p=sqf p :: st (sqf p).length (sqf p) (der (sqf p)):=if_neg h0
  have hc:=sqf_cl p
  by_cases hd:(der (sqf p)).length=0
  · refine .inl ?_
    have h1:(sqf p).length=1:=by
      refine Decidable.byContradiction fun k=> ?_
      have h2:=last_ne hc h0
      have h3:=der_get (sqf p) ((sqf p).length - 2)
      rw [gD0 (by omega),show (sqf p).length - 2+1=(sqf p).length - 1 by omega] at h3
      rcases Rat.mul_eq_zero.1 h3.symm with z|z
      · have : (((sqf p).length - 1 : Nat) : Int) = 0 := by exact_mod_cast z
        omega
      · exact h2 z
    obtain ⟨c,c0,hcc⟩:=one_const hc h1
    exact ⟨c,c0,hcc,by rw [hs,st_nil hd]⟩
  · refine .inr ?_
    have hl:=der_len (sqf p)
    have hy:=st_yes (a:=sqf p) hd (show (der (sqf p)).length≤(sqf p).length by omega)
    refine ⟨_,by rw [hs,hy],?_⟩
    exact st_chn _ _ _ hc (der_cl _) hd (sdr_len (der_cl _) hd (by omega)) fun h hh h1 h2=>sqf_cop hp hh h1 h2
def pl:List Rat→List Rat
  |[]=>[1]
  |b :: B=>mul [-b,1] (pl B)
def pe:List Rat→Rat→Rat
  |[],_=>1
  |b :: B,t=>(t - b)*pe B t
end Go.Proofs.YtpdbimfnhglhpaaGreat.Po
namespace Go.Proofs.YtpdbimfnhglhpaaGreat.Po
open Go.Proofs.YtpdbimfnhglhpaaGreat.Big
set_option linter.unusedVariables false
theorem div_pos' {a b:Rat} (ha:0<a) (hb:0<b):0<a / b:=by
  have e:a / b*b=a:=Rat.div_mul_cancel (by grind)
  refine Rat.not_le.1 fun z=> ?_
  have:=Rat.mul_nonneg (show 0≤ -(a / b) by grind) (show 0≤b by grind)
  grind
def Kp (S:List (List Rat)) (f:List Rat) (x y:Rat):Prop:=vr S y≤vr S x∧(vr S x=vr S y→(0<ev x f→0<ev y f)∧(ev x f<0→ev y f<0))
theorem stp_kp {S:List (List Rat)} {f:List Rat} {x y:Rat} (hxy:x<y) (h:Stp S f x y):Kp S f x y:=by
  rcases h with ⟨h1,h2,h3⟩|⟨h1,h2⟩|⟨h1,h2⟩
  · refine ⟨by omega, fun _ => ⟨fun k => ?_, fun k => ?_⟩⟩
    · have:=sgq_p k;rw [h1] at this;exact sgq_pos.1 (by omega)
    · have:=sgq_n k;rw [h1] at this;exact sgq_lt.1 (by omega)
  · have hm := h1 x y Rat.le_refl hxy Rat.le_refl
    unfold b2 at h2
    by_cases k1:ev x f<0
    · by_cases k2 : ev y f < 0
      · rw [if_pos k1, if_pos k2] at h2
        exact ⟨by omega,fun _=>⟨fun k=>by grind,fun _=>k2⟩⟩
      · rw [if_pos k1, if_neg k2] at h2
        exact ⟨by omega,fun e=>by omega⟩
    · have k2 : ¬ ev y f < 0 := fun k => k1 (by grind)
      rw [if_neg k1,if_neg k2] at h2
      exact ⟨by omega,fun _=>⟨fun k=>by grind,fun k=>absurd k k1⟩⟩
  · have hm := h1 x y Rat.le_refl hxy Rat.le_refl
    unfold b2 at h2
    by_cases k1:0<ev x f
    · by_cases k2 : 0 < ev y f
      · rw [if_pos k1, if_pos k2] at h2
        exact ⟨by omega,fun _=>⟨fun _=>k2,fun k=>by grind⟩⟩
      · rw [if_pos k1, if_neg k2] at h2
        exact ⟨by omega,fun e=>by omega⟩
    · have k2 : ¬ 0 < ev y f := fun k => k1 (by grind)
      rw [if_neg k1,if_neg k2] at h2
      exact ⟨by omega,fun _=>⟨fun k=>absurd k k1,fun k=>by grind⟩⟩
theorem kp_trans {S:List (List Rat)} {f:List Rat} {x z y:Rat} (h1:Kp S f x z) (h2:Kp S f z y):Kp S f x y:=by
  obtain ⟨a1,a2⟩:=h1
  obtain ⟨b1,b2⟩:=h2
  refine ⟨by omega,fun e=> ?_⟩
  obtain ⟨c1,c2⟩:=a2 (by omega)
  obtain ⟨d1,d2⟩:=b2 (by omega)
  exact ⟨fun k=>d1 (c1 k),fun k=>d2 (c2 k)⟩
theorem in_R {a b z:Rat} (h1:a≤z) (h2:z≤b):le2 z (qabs a+qabs b):=by
  have:=le2_abs a
  have:=le2_abs b
  unfold le2 at*
  constructor <;> grind
theorem kp_all {f:List Rat} {T:List (List Rat)} (hc:chn (f :: der f :: T)) {x y:Rat} (hxy:x<y):Kp (f :: der f :: T) f x y:=by
  have hR:0≤qabs x+qabs y:=le2_nonneg (in_R (a:=x) (b:=y) (z:=x) Rat.le_refl (by grind))
  obtain ⟨h,hh,hs⟩:=step hc hR
  exact walk hh (fun u v hu hv huv hle=>stp_kp huv (hs u v hu hv huv hle)) (fun u z v _ _ h1 h2=>kp_trans h1 h2) x y (in_R Rat.le_refl (by grind)) (in_R (by grind) Rat.le_refl) hxy
theorem sqf_keeps {p:List Rat} (hp:(cl p).length≠0) {a b:Rat} (hab:a<b) (h:bt (sturm p) a b=0) {z:Rat} (h1:a≤z) (h2:z≤b):(0<ev a (sqf p)→0<ev z (sqf p))∧(ev a (sqf p)<0→ev z (sqf p)<0):=by
  rcases sturm_chn hp with ⟨c,hc,hcc,-⟩|⟨T,hT,hch⟩
  · rw [hcc,hcc];exact ⟨id,id⟩
  · rw [hT] at h
    unfold bt at h
    have e1 : a = z ∨ a < z := by rcases Rat.le_total (a := z) (b := a) with k | k
                                  · exact .inl (Rat.le_antisymm h1 k)
                                  · by_cases e : a = z
                                    · exact .inl e
                                    · exact .inr (by grind)
    rcases e1 with e1|e1
    · rw [e1];exact ⟨id,id⟩
    · have k1 := kp_all hch e1
      by_cases e2:z=b
      · rw [e2] at k1 ⊢
        exact k1.2 (by omega)
      · have k2 := kp_all hch (show z < b by grind)
        exact k1.2 (by have:=k1.1;have:=k2.1;omega)
theorem low {F D U V:Rat→Rat} {a b K L A B:Rat} (hab:a≤b) (hK:0≤K) (hL:0≤L) (hA:0≤A) (hB:0≤B) (tay:∀s t,a≤s→s≤t→t≤b→le2 (F t - F s - (t - s)*D s) (K*((t - s)*(t - s))))
    (lip:∀s t,a≤s→s≤t→t≤b→le2 (D t - D s) (L*(t - s))) (hU:∀z,a≤z→z≤b→le2 (U z) A) (hV:∀z,a≤z→z≤b→le2 (V z) B) (bez:∀z,a≤z→z≤b→U z*F z+V z*D z=1)
    (pos:∀z,a≤z→z≤b→0<F z):∃m,0<m∧∀z,a≤z→z≤b→m≤F z:=by
  have e1:0<1 / (2*(A+1)):=div_pos' (by decide +kernel) (by grind)
  have e1':1 / (2*(A+1))*(2*(A+1))=1:=Rat.div_mul_cancel (by grind)
  generalize 1 / (2*(A+1))=e at e1 e1'
  have n1:0<1 / (2*(B+1)):=div_pos' (by decide +kernel) (by grind)
  have n1':1 / (2*(B+1))*(2*(B+1))=1:=Rat.div_mul_cancel (by grind)
  generalize 1 / (2*(B+1))=n at n1 n1'
  have r1:0<n / (2*(L+K+1)):=div_pos' n1 (by grind)
  have r1':n / (2*(L+K+1))*(2*(L+K+1))=n:=Rat.div_mul_cancel (by grind)
  generalize n / (2*(L+K+1))=r at r1 r1'
  have hrn:0<r*n:=pos_mul r1 n1
  have ma:=pos a Rat.le_refl hab
  have mb:=pos b hab Rat.le_refl
  -- the least of four numbers
  obtain ⟨m,m0,m1,m2,m3,m4⟩:∃m,0<m∧m≤e∧m≤r*n / 2∧m≤F a∧m≤F b:=by
    have h2:0<r*n / 2:=div_pos' hrn (by decide +kernel)
    refine ⟨min (min e (r*n / 2)) (min (F a) (F b)),?_,?_,?_,?_,?_⟩ <;> grind
  have m2':m*2≤r*n:=by
    have:r*n / 2*2=r*n:=Rat.div_mul_cancel (by decide +kernel)
    grind
  refine ⟨m,m0,fun z h1 h2=> ?_⟩
  refine Rat.not_lt.1 fun hlt=> ?_
  have hF:=pos z h1 h2
  have hb:=bez z h1 h2
  have hu:=hU z h1 h2
  have hv:=hV z h1 h2
  -- the derivative is not small
  have hUF:U z*F z≤A*m:=by
    have a1:=Rat.mul_nonneg (show 0≤A - U z by unfold le2 at hu;grind) (show 0≤F z by grind)
    have a2:=Rat.mul_nonneg hA (show 0≤m - F z by grind)
    grind
  have hAm:A*m*2≤1 - m*2:=by
    have:=Rat.mul_nonneg (show 0≤e - m by grind) (show 0≤A+1 by grind)
    grind
  have hVD:1<V z*D z*2:=by grind
  have hsq:∀{x:Rat},0≤x→(L+K)*x≤(L+K+1)*x:=fun {x} hx=>by grind
  have hLK:(L+K)*r*2≤n:=by
    have:=hsq (x:=r) (by grind)
    grind
  have big:D z≤ -n∨n≤D z:=by
    rcases Rat.le_total (a:=D z) (b:= -n) with k|k
    · exact .inl k
    · rcases Rat.le_total (a := n) (b := D z) with k2 | k2
      · exact .inr k2
      · exfalso
        have hd:le2 (D z) n:=by unfold le2;constructor <;> grind
        have:=le2_mul hv hd
        unfold le2 at this
        grind
  rcases big with hD|hD
  · -- falling: to the right
    obtain ⟨t,t1,t2,t3,t4⟩:∃t,z≤t∧t≤b∧t - z≤r∧(t=b∨t - z=r):=by
      by_cases k:z+r≤b
      · exact ⟨z+r,by grind,k,by grind,.inr (by grind)⟩
      · exact ⟨b,h2,Rat.le_refl,by grind,.inl rfl⟩
    have ht:=(tay z t h1 t1 t2).2
    have hK2:K*(t - z)*2≤n:=by
      have a1:=Rat.mul_nonneg hK (show 0≤r - (t - z) by grind)
      have a2:=Rat.mul_nonneg hL (show 0≤r by grind)
      grind
    have a3:=Rat.mul_nonneg (show 0≤t - z by grind) (show 0≤ -n - D z by grind)
    have a4:=Rat.mul_nonneg (show 0≤t - z by grind) (show 0≤n - K*(t - z)*2 by grind)
    have hFt:F t*2≤F z*2 - (t - z)*n:=by grind
    rcases t4 with t4|t4
    · subst t4
      have a5:=Rat.mul_nonneg (show 0≤t - z by grind) (show 0≤n by grind)
      grind
    · rw [t4] at hFt
      have:=pos t (by grind) t2
      grind
  · -- rising: to the left
    obtain ⟨t,t1,t2,t3,t4⟩:∃t,t≤z∧a≤t∧z - t≤r∧(t=a∨z - t=r):=by
      by_cases k:a≤z - r
      · exact ⟨z - r,by grind,k,by grind,.inr (by grind)⟩
      · exact ⟨a,h1,Rat.le_refl,by grind,.inl rfl⟩
    have ht:=(tay t z t2 t1 h2).1
    have hl:=(lip t z t2 t1 h2).2
    have hK2:(L+K)*(z - t)*2≤n:=by
      have a1:=Rat.mul_nonneg (show 0≤L+K by grind) (show 0≤r - (z - t) by grind)
      grind
    have a3:=Rat.mul_nonneg (show 0≤z - t by grind) (show 0≤D t - (D z - L*(z - t)) by grind)
    have a4:=Rat.mul_nonneg (show 0≤z - t by grind) (show 0≤n - (L+K)*(z - t)*2 by grind)
    have a6:=Rat.mul_nonneg (show 0≤z - t by grind) (show 0≤D z - n by grind)
    have hFt:F t*2≤F z*2 - (z - t)*n:=by grind
    rcases t4 with t4|t4
    · subst t4
      have a5:=Rat.mul_nonneg (show 0≤z - t by grind) (show 0≤n by grind)
      grind
    · rw [t4] at hFt
      have:=pos t t2 (by grind)
      grind
end Go.Proofs.YtpdbimfnhglhpaaGreat.Po
namespace Go.Proofs.YtpdbimfnhglhpaaGreat.Po
open Go.Proofs.YtpdbimfnhglhpaaGreat.Big
set_option linter.unusedVariables false
theorem qabs_le2 {x L:Rat}:le2 x L↔qabs x≤L:=by
  unfold le2 qabs
  constructor
  · intro h;split <;> grind
  · intro h;split at h <;> constructor <;> grind
theorem qabs_ge {x y a b:Rat} (ha:0≤a) (hb:0≤b) (h1:a≤qabs x) (h2:b≤qabs y):a*b≤qabs (x*y):=by
  have hx:a≤x∨x≤ -a:=by unfold qabs at h1;split at h1 <;> grind
  have hy:b≤y∨y≤ -b:=by unfold qabs at h2;split at h2 <;> grind
  have key:a*b≤x*y∨x*y≤ -(a*b):=by
    rcases hx with hx|hx <;> rcases hy with hy|hy
    · have := Rat.mul_nonneg (show 0 ≤ x - a by grind) (show 0 ≤ y by grind)
      have:=Rat.mul_nonneg ha (show 0≤y - b by grind)
      left;grind
    · have := Rat.mul_nonneg (show 0 ≤ x - a by grind) (show 0 ≤ -y by grind)
      have:=Rat.mul_nonneg ha (show 0≤ -b - y by grind)
      right;grind
    · have := Rat.mul_nonneg (show 0 ≤ -a - x by grind) (show 0 ≤ y by grind)
      have:=Rat.mul_nonneg ha (show 0≤y - b by grind)
      right;grind
    · have := Rat.mul_nonneg (show 0 ≤ -a - x by grind) (show 0 ≤ -y by grind)
      have:=Rat.mul_nonneg ha (show 0≤ -b - y by grind)
      left;grind
  unfold qabs
  split <;> rcases key with k|k <;> (try have:=Rat.mul_nonneg ha hb) <;> grind
theorem sqf_bez {p:List Rat} (hp:(cl p).length≠0):∃u v:List Rat,∀t,ev t u*ev t (sqf p)+ev t v*ev t (der (sqf p))=1:=by
  have hf:=sqf_cl p
  have hd:=der_cl (sqf p)
  have hfn:(sqf p).length≠0:=fun e=>hp ((sqf_nil p).1 e)
  obtain ⟨d1,d2⟩:=gcd_dvd (sqf p) (der (sqf p)) hf hd
  have hl:=sqf_cop hp (gcd_cl _ _) d1 d2
  have hn:=gcd_ne (p:=sqf p) (q:=der (sqf p)) (by rw [hf];exact hfn)
  obtain ⟨c,hc,hcc⟩:=one_const (gcd_cl (sqf p) (der (sqf p))) (by omega)
  obtain ⟨u,v,huv⟩:=gcd_bez (sqf p) (der (sqf p)) hf hd
  refine ⟨scl u (1 / c),scl v (1 / c),fun t=> ?_⟩
  have h1:=huv t
  rw [hcc] at h1
  have h2:1 / c*c=1:=Rat.div_mul_cancel hc
  rw [ev_scl,ev_scl]
  generalize 1 / c=d at*
  have:ev t u*d*ev t (sqf p)+ev t v*d*ev t (der (sqf p))=(ev t u*ev t (sqf p)+ev t v*ev t (der (sqf p)))*d:=by grind
  rw [this,←h1,Rat.mul_comm];exact h2
theorem le2_scl {s x L:Rat} (hs:s=1∨s= -1) (h:le2 x L):le2 (s*x) L:=by
  unfold le2 at*
  rcases hs with rfl|rfl <;> constructor <;> grind
theorem sqf_low {p:List Rat} (hp:(cl p).length≠0) {a b s:Rat} (hab:a≤b) (hs:s=1∨s= -1) (h:∀z,a≤z→z≤b→0<s*ev z (sqf p)):∃m,0<m∧∀z,a≤z→z≤b→m≤qabs (ev z (sqf p)):=by
  have hR:0≤qabs a+qabs b:=le2_nonneg (in_R (a:=a) (b:=b) (z:=a) Rat.le_refl hab)
  obtain ⟨u,v,huv⟩:=sqf_bez hp
  obtain ⟨K,hK,hk⟩:=ev_tay hR (sqf p)
  obtain ⟨L,hL,hl⟩:=ev_lip hR (der (sqf p))
  obtain ⟨A,hA,hu⟩:=ev_bound hR u
  obtain ⟨B,hB,hv⟩:=ev_bound hR v
  have hss:s*s=1:=by rcases hs with rfl|rfl <;> decide +kernel
  obtain ⟨m,m0,hm⟩:=low (F:=fun z=>s*ev z (sqf p)) (D:=fun z=>s*ev z (der (sqf p))) (U:=fun z=>s*ev z u) (V:=fun z=>s*ev z v) hab hK hL hA hB
    (fun x y h1 h2 h3=>by
      have:=le2_scl hs (hk x y (in_R h1 (by grind)) (in_R (by grind) h3) h2)
      have e:s*ev y (sqf p) - s*ev x (sqf p) - (y - x)*(s*ev x (der (sqf p)))=s*(ev y (sqf p) - ev x (sqf p) - (y - x)*ev x (der (sqf p))):=by grind
      show le2 (s*ev y (sqf p) - s*ev x (sqf p) - (y - x)*(s*ev x (der (sqf p)))) _
      rw [e];exact this)
    (fun x y h1 h2 h3=>by
      have:=le2_scl hs (hl x y (in_R h1 (by grind)) (in_R (by grind) h3) h2)
      have e:s*ev y (der (sqf p)) - s*ev x (der (sqf p))=s*(ev y (der (sqf p)) - ev x (der (sqf p))):=by grind
      show le2 (s*ev y (der (sqf p)) - s*ev x (der (sqf p))) _
      rw [e];exact this)
    (fun z h1 h2=>le2_scl hs (hu z (in_R h1 h2))) (fun z h1 h2=>le2_scl hs (hv z (in_R h1 h2)))
    (fun z h1 h2=>by
      have:=huv z
      show s*ev z u*(s*ev z (sqf p))+s*ev z v*(s*ev z (der (sqf p)))=1
      have e:s*ev z u*(s*ev z (sqf p))+s*ev z v*(s*ev z (der (sqf p)))=s*s*(ev z u*ev z (sqf p)+ev z v*ev z (der (sqf p))):=by grind
      rw [e,this,hss];decide +kernel) h
  refine ⟨m,m0,fun z h1 h2=> ?_⟩
  have:=hm z h1 h2
  unfold qabs
  rcases hs with rfl|rfl <;> split <;> grind
theorem ode_low {f:List Rat} {m R:Rat} (hm:0<m) (hR:0≤R) (hfn:∃t,ev t f≠0) {I:Rat→Prop} (hI:∀z,I z→le2 z R) (hf:∀z,I z→m≤qabs (ev z f)):
    ∀(n:Nat) (p:List Rat),p.length≤n→cl p=p→p.length≠0→(∃w,∀t,ev t f*ev t (der p)=ev t w*ev t p)→∃m',0<m'∧∀z,I z→m'≤qabs (ev z p):=by
  intro n
  induction n with
  |zero=>intro p h1 _ h2;omega
  |succ n ih=>
    intro p hpl hpc hp0 ⟨w,hw⟩
    by_cases h1:p.length=1
    · obtain ⟨c, hc, hcc⟩ := one_const hpc h1
      refine ⟨qabs c,?_,fun z _=>by rw [hcc];exact Rat.le_refl⟩
      unfold qabs;split <;> grind
    · -- p = q u with u the greatest common divisor of p and p'
      have hdc:=der_cl p
      have hpne:=ev_some hpc hp0
      obtain ⟨d1,z,hz⟩:=gcd_dvd p (der p) hpc hdc
      obtain ⟨x,y,hxy⟩:=gcd_bez p (der p) hpc hdc
      have huc:=gcd_cl p (der p)
      have hun:=gcd_ne (p:=p) (q:=der p) (by rw [hpc];exact hp0)
      have hm1:=exact_mul hpc huc hun d1
      have hm2:=exact_mul hdc huc hun ⟨z,hz⟩
      have hd0:(der p).length≠0:=fun e=>by
        have e1:=der_get p (p.length - 2)
        rw [List.length_eq_zero_iff.1 e] at e1
        have e2:((0:Rat))=(((p.length - 2+1:Nat):Int):Rat)*p.getD (p.length - 2+1) 0:=e1
        have e3:=last_ne hpc hp0
        rw [show p.length - 2+1=p.length - 1 by omega] at e2
        rcases Rat.mul_eq_zero.1 e2.symm with k|k
        · have : (((p.length - 1 : Nat) : Int) : Rat) = ((0 : Int) : Rat) := k
          have:=Rat.intCast_inj.1 this
          omega
        · exact e3 k
      have hul:(gcd p (der p)).length≤(der p).length:=by
        have k1:=dq_cl (der p) (gcd p (der p))
        by_cases k0:(dq (der p) (gcd p (der p))).length=0
        · exfalso
          rw [List.length_eq_zero_iff.1 k0,mul_nil] at hm2
          exact hd0 (by rw [← hm2];rfl)
        · have k2 := mul_length k1 huc k0 hun
          rw [hm2] at k2
          omega
      have hdl:=der_len p
      generalize hG:gcd p (der p)=u at*
      generalize hQ:dq p u=q at*
      have hune:=ev_some huc hun
      have eP:∀t,ev t p=ev t q*ev t u:=fun t=>by rw [← ev_mul,hm1]
      have hqne:∃t,ev t q≠0:=by
        obtain ⟨t,ht⟩:=hpne
        exact ⟨t,fun k=>ht (by rw [eP,k];grind)⟩
      -- x q + y z = 1
      have one:∀t,ev t x*ev t q+ev t y*ev t z=1:=fun t=>by
        have:=cancel (c:=u) (D:=sub (add (mul x q) (mul y z)) [1]) hune (fun s=>by
          rw [ev_sub,ev_add,ev_mul,ev_mul]
          have k1:=hxy s
          rw [eP s,hz s] at k1
          show _*(_ - (0*s+1))=0
          grind) t
        rw [ev_sub,ev_add,ev_mul,ev_mul] at this
        have e:ev t [1]=1:=by show 0*t+1=(1:Rat);grind
        rw [e] at this;grind
      -- f z = w q
      have fz:∀t,ev t f*ev t z=ev t w*ev t q:=fun t=>by
        have:=cancel (c:=u) (D:=sub (mul f z) (mul w q)) hune (fun s=>by
          rw [ev_sub,ev_mul,ev_mul]
          have k1:=hw s
          rw [eP s,hz s] at k1
          grind) t
        rw [ev_sub,ev_mul,ev_mul] at this;grind
      -- f = q g
      have fq:∀t,ev t f=ev t q*ev t (add (mul f x) (mul w y)):=fun t=>by
        have k1:=one t
        have k2:=fz t
        rw [ev_add,ev_mul,ev_mul]
        have:ev t f*(ev t x*ev t q+ev t y*ev t z)=ev t f:=by rw [k1];grind
        grind
      generalize add (mul f x) (mul w y)=g at fq
      -- f u' = w' u
      have dP:∀t,ev t (der p)=ev t (der q)*ev t u+ev t q*ev t (der u):=fun t=>by
        have e:der p=der (mul q u):=der_ext fun s=>by rw [ev_mul];exact eP s
        rw [e,der_mul,ev_add,ev_mul,ev_mul]
      have fu:∀t,ev t f*ev t (der u)=ev t (sub w (mul g (der q)))*ev t u:=fun t=>by
        have:=cancel (c:=q) (D:=sub (mul f (der u)) (mul (sub w (mul g (der q))) u)) hqne (fun s=>by
          rw [ev_sub,ev_mul,ev_mul,ev_sub,ev_mul]
          have k1:=hw s
          rw [dP s,eP s] at k1
          have k2:=fq s
          have k3:ev s f*(ev s (der q)*ev s u)=ev s q*ev s g*(ev s (der q)*ev s u):=by rw [← k2]
          grind) t
        rw [ev_sub,ev_mul,ev_mul] at this;grind
      obtain ⟨m2,m20,hm2'⟩:=ih u (by omega) huc hun ⟨_,fu⟩
      obtain ⟨M,M0,hM⟩:=ev_bound hR g
      have k1:0<m / (M+1):=div_pos' hm (by grind)
      have k1':m / (M+1)*(M+1)=m:=Rat.div_mul_cancel (by grind)
      generalize m / (M+1)=m1 at k1 k1'
      refine ⟨m1*m2,pos_mul k1 m20,fun t ht=> ?_⟩
      have hq1:m1≤qabs (ev t q):=by
        refine Rat.not_lt.1 fun k=> ?_
        have h3:=le2_mul (qabs_le2.2 (show qabs (ev t q)≤m1 by grind)) (hM t (hI t ht))
        rw [← fq t,qabs_le2] at h3
        have h4:=hf t ht
        grind
      rw [eP t]
      exact qabs_ge (by grind) (by grind) hq1 (hm2' t ht)
theorem low_p {p:List Rat} (hp:(cl p).length≠0) {m R:Rat} (hm:0<m) (hR:0≤R) {I:Rat→Prop} (hI:∀z,I z→le2 z R) (hf:∀z,I z→m≤qabs (ev z (sqf p))):∃m',0<m'∧∀z,I z→m'≤qabs (ev z p):=by
  have hc:=cl_cl p
  have hfn:(sqf p).length≠0:=fun e=>hp ((sqf_nil p).1 e)
  have key:=ode_low hm hR (ev_some (sqf_cl p) hfn) hI hf (cl p).length (cl p) (Nat.le_refl _) hc hp (by
    have hg:=gcd_cl (cl p) (der (cl p))
    have hn:(gcd (cl p) (der (cl p))).length≠0:=gcd_ne (by rw [hc];exact hp)
    obtain ⟨d1,z,hz⟩:=gcd_dvd (cl p) (der (cl p)) hc (der_cl _)
    have hm1:=exact_mul hc hg hn d1
    have he:sqf p=mo (dq (cl p) (gcd (cl p) (der (cl p)))):=if_neg hp
    have hqc:=dq_cl (cl p) (gcd (cl p) (der (cl p)))
    have hq0:(dq (cl p) (gcd (cl p) (der (cl p)))).length≠0:=fun k=>by
      rw [List.length_eq_zero_iff.1 k,mul_nil] at hm1
      exact hp (by rw [← hm1];rfl)
    have hl0:=lead_ne hqc (fun e=>hq0 (by rw [e];rfl))
    refine ⟨scl z (1 / lead (dq (cl p) (gcd (cl p) (der (cl p))))),fun t=> ?_⟩
    have h1:ev t (cl p)=ev t (dq (cl p) (gcd (cl p) (der (cl p))))*ev t (gcd (cl p) (der (cl p))):=by rw [← ev_mul,hm1]
    have h2:=mo_ev hqc t
    rw [← he] at h2
    have h3:1 / lead (dq (cl p) (gcd (cl p) (der (cl p))))*lead (dq (cl p) (gcd (cl p) (der (cl p))))=1:=Rat.div_mul_cancel hl0
    rw [ev_scl,hz t,h1,←h2]
    generalize 1 / lead (dq (cl p) (gcd (cl p) (der (cl p))))=c at*
    generalize lead (dq (cl p) (gcd (cl p) (der (cl p))))=d at*
    have:ev t z*c*(ev t (sqf p)*d*ev t (gcd (cl p) (der (cl p))))=(c*d)*(ev t (sqf p)*(ev t (gcd (cl p) (der (cl p)))*ev t z)):=by grind
    rw [this,h3];grind)
  obtain ⟨m',h1,h2⟩:=key
  exact ⟨m',h1,fun z hz=>by rw [← ev_cl];exact h2 z hz⟩
theorem keep_sign {p:List Rat} {a b m:Rat} (hm:0<m) (h:∀z,a≤z→z≤b→m≤qabs (ev z p)) {z:Rat} (h1:a≤z) (h2:z≤b) (h0:0<ev a p):0<ev z p:=by
  by_cases e:a=z
  · rw [← e];exact h0
  · have haz : a < z := by grind
    have hR:0≤qabs a+qabs b:=le2_nonneg (in_R (a:=a) (b:=b) (z:=a) Rat.le_refl (by grind))
    obtain ⟨L,hL,hl⟩:=ev_lip hR p
    have k1:0<m / (L+1):=div_pos' hm (by grind)
    have k1':m / (L+1)*(L+1)=m:=Rat.div_mul_cancel (by grind)
    generalize m / (L+1)=d at k1 k1'
    have:=walk (P:=fun x y=>a≤x→y≤b→0<ev x p→0<ev y p) (R:=qabs a+qabs b) k1 (fun x y hx hy hxy hle h3 h4 h5=>by
      have a1:=(hl x y hx hy (by grind)).1
      have a2:=Rat.mul_nonneg hL (show 0≤d - (y - x) by grind)
      have a3:=h x h3 (by grind)
      unfold qabs at a3
      split at a3 <;> grind) (fun x z y h3 h4 f1 f2 h5 h6 h7=>f2 (by grind) h6 (f1 h5 (by grind) h7)) a z (in_R Rat.le_refl (by grind)) (in_R h1 h2) haz
    exact this Rat.le_refl h2 h0
end Go.Proofs.YtpdbimfnhglhpaaGreat.Po
namespace Go.Proofs.YtpdbimfnhglhpaaGreat.Po
open Go.Proofs.YtpdbimfnhglhpaaGreat.Big
set_option linter.unusedVariables false
def tp:Nat→Rat
  |0=>1
  |n+1=>2*tp n
theorem tp_one:∀n,1≤tp n
  |0=>Rat.le_refl
  |n+1=>by have:=tp_one n;show 1≤2*tp n;grind
theorem tp_pos (n:Nat):0<tp n:=by have:=tp_one n;grind
theorem tp_add (a:Nat):∀b,tp (a+b)=tp a*tp b
  |0=>by show tp a=tp a*1;grind
  |b+1=>by show 2*tp (a+b)=tp a*(2*tp b);rw [tp_add a b];grind
def tq (n:Nat):Rat:=1 / tp n
theorem tq_tp (n:Nat):tq n*tp n=1:=Rat.div_mul_cancel (by have:=tp_pos n;grind)
theorem tq_pos (n:Nat):0<tq n:=div_pos' (by decide +kernel) (tp_pos n)
theorem tq_uniq {n:Nat} {x:Rat} (h:x*tp n=1):x=tq n:=by
  have h1:=tq_tp n
  have:x=x*(tq n*tp n):=by rw [h1];grind
  have e:x*(tq n*tp n)=(x*tp n)*tq n:=by grind
  rw [this,e,h];grind
theorem tq_add (a b:Nat):tq (a+b)=tq a*tq b:=by
  refine (tq_uniq ?_).symm
  have h1:=tq_tp a
  have h2:=tq_tp b
  rw [tp_add]
  have:tq a*tq b*(tp a*tp b)=(tq a*tp a)*(tq b*tp b):=by grind
  rw [this,h1,h2];decide +kernel
theorem tq_cut (a b:Nat):tq (a+b)*tp b=tq a:=by
  have h2:=tq_tp b
  rw [tq_add]
  have:tq a*tq b*tp b=tq a*(tq b*tp b):=by grind
  rw [this,h2];grind
theorem pw_tp:∀k,((Big.pw k:Int):Rat)≤tp (30*k)
  |0=>by show ((1:Int):Rat)≤1;decide +kernel
  |k+1=>by
    have h:=pw_tp k
    have h1:=tp_pos (30*k)
    rw [Big.pw_succ,Rat.intCast_mul,show 30*(k+1)=30*k+30 by omega,tp_add]
    have e:tp 30=1073741824:=by decide +kernel
    have e2:((1000000000:Int):Rat)=1000000000:=by decide +kernel
    rw [e,e2]
    grind
theorem zfh {z:Int} {K:Nat} (h:ln z≤K):le2 (z:Rat) (tp (30*K)):=by
  have h1:=zbe z
  have h2:=Big.pw_mono h
  have h3:=pw_tp K
  have a1:(z:Rat)≤((Big.pw K:Int):Rat):=by exact_mod_cast (show z≤Big.pw K by omega)
  have a2: -((Big.pw K:Int):Rat)≤(z:Rat):=by
    have:((-(Big.pw K):Int):Rat)≤(z:Rat):=by exact_mod_cast (show -(Big.pw K)≤z by omega)
    rw [Rat.intCast_neg] at this;exact this
  unfold le2
  constructor <;> grind
theorem frac_abs {x:Rat} {n d:Int} (hd:d≠0) (h:x*(d:Rat)=(n:Rat)) {T:Rat} (hn:le2 (n:Rat) T):le2 x T:=by
  have hT:=le2_nonneg hn
  rcases (show (1:Int)≤d∨d≤ -1 by omega) with k|k
  · have k1:(1:Rat)≤(d:Rat):=by
      have:((1:Int):Rat)≤(d:Rat):=by exact_mod_cast k
      rw [show ((1:Int):Rat)=1 by decide +kernel] at this;exact this
    unfold le2 at*
    refine ⟨Rat.not_lt.1 fun q=> ?_,Rat.not_lt.1 fun q=> ?_⟩
    · have:=Rat.mul_nonneg (show 0≤ -x by grind) (show 0≤(d:Rat) - 1 by grind);grind
    · have:=Rat.mul_nonneg (show 0≤x by grind) (show 0≤(d:Rat) - 1 by grind);grind
  · have k1:(d:Rat)≤ -1:=by
      have:(d:Rat)≤((-1:Int):Rat):=by exact_mod_cast k
      rw [show ((-1:Int):Rat)= -1 by decide +kernel] at this;exact this
    unfold le2 at*
    refine ⟨Rat.not_lt.1 fun q=> ?_,Rat.not_lt.1 fun q=> ?_⟩
    · have:=Rat.mul_nonneg (show 0≤ -x by grind) (show 0≤ -(d:Rat) - 1 by grind);grind
    · have:=Rat.mul_nonneg (show 0≤x by grind) (show 0≤ -(d:Rat) - 1 by grind);grind
theorem one_le_abs {n:Int} (h:n≠0):1≤qabs (n:Rat):=by
  have e:((1:Int):Rat)=1:=by decide +kernel
  have e':((-1:Int):Rat)= -1:=by decide +kernel
  rcases (show (1:Int)≤n∨n≤ -1 by omega) with k|k
  · have : ((1 : Int) : Rat) ≤ (n : Rat) := by exact_mod_cast k
    unfold qabs;split <;> grind
  · have : (n : Rat) ≤ ((-1 : Int) : Rat) := by exact_mod_cast k
    unfold qabs;split <;> grind
theorem frac_low {x:Rat} {n d:Int} {k:Nat} (hd:le2 (d:Rat) (tp k)) (h:x*(d:Rat)=(n:Rat)) (hn:n≠0):tq k≤qabs x:=by
  refine Rat.not_lt.1 fun q=> ?_
  have h1:=one_le_abs hn
  have h2:=le2_mul (qabs_le2.2 (show qabs x≤qabs x from Rat.le_refl)) hd
  rw [h,qabs_le2] at h2
  have h3:=tq_tp k
  have h4:=Rat.mul_pos (show 0<tq k - qabs x by grind) (tp_pos k)
  grind
def cf (T:Rat) (l:List Rat):Prop:=∀i,le2 (l.getD i 0) T
theorem cb_cf {K:Nat} {l:List Rat} (h:cb K l):cf (tp (30*K)) l:=fun i=>by
  obtain ⟨d,h0,h1,h2⟩:=h
  obtain ⟨n,h3,h4⟩:=h2 i
  exact frac_abs h0 h4 (zfh h3)
theorem cb_low {K:Nat} {l:List Rat} (h:cb K l) {i:Nat} (hi:l.getD i 0≠0):tq (30*K)≤qabs (l.getD i 0):=by
  obtain ⟨d,h0,h1,h2⟩:=h
  obtain ⟨n,h3,h4⟩:=h2 i
  refine frac_low (zfh h1) h4 fun e=> ?_
  rw [e] at h4
  rcases Rat.mul_eq_zero.1 (h4.trans (by rfl)) with q|q
  · exact hi q
  · exact cast_ne h0 q
theorem hq_tp {x:Rat} {K:Nat} (h:hq x≤K):le2 x (tp (30*K)):=by
  have h1:(x.num:Rat) / ((x.den:Int):Rat)=x:=by rw [← Rat.divInt_eq_div,Rat.num_divInt_den]
  have h2:=Rat.div_mul_cancel (a:=(x.num:Rat)) (cast_ne (den_ne x))
  rw [h1] at h2
  exact frac_abs (den_ne x) h2 (zfh (Nat.le_trans (hq_num x) h))
theorem const_at {a:List Rat} {c:Rat} (h:∀t,ev t a=c):c=a.getD 0 0:=by
  rw [← h 0]
  cases a with
  |nil=>rfl
  |cons x l=>show ev 0 l*0+x=x;grind
def mB (R C:Rat):Nat→Rat
  |0=>0
  |n+1=>mB R C n*R+C
def lB (R C:Rat):Nat→Rat
  |0=>0
  |n+1=>mB R C n+R*lB R C n
def kB (R C:Rat):Nat→Rat
  |0=>0
  |n+1=>lB R C n+R*kB R C n
theorem mB_nn {R C:Rat} (hR:0≤R) (hC:0≤C):∀n,0≤mB R C n
  |0=>Rat.le_refl
  |n+1=>by have:=Rat.mul_nonneg (mB_nn hR hC n) hR;show 0≤mB R C n*R+C;grind
theorem lB_nn {R C:Rat} (hR:0≤R) (hC:0≤C):∀n,0≤lB R C n
  |0=>Rat.le_refl
  |n+1=>by have:=Rat.mul_nonneg hR (lB_nn hR hC n);have:=mB_nn hR hC n;show 0≤mB R C n+R*lB R C n;grind
theorem kB_nn {R C:Rat} (hR:0≤R) (hC:0≤C):∀n,0≤kB R C n
  |0=>Rat.le_refl
  |n+1=>by have:=Rat.mul_nonneg hR (kB_nn hR hC n);have:=lB_nn hR hC n;show 0≤lB R C n+R*kB R C n;grind
theorem evB {R C:Rat} (hR:0≤R) (hC:0≤C) {t:Rat} (ht:le2 t R):∀(n:Nat) (l:List Rat),l.length≤n→cf C l→le2 (ev t l) (mB R C n)
  |n,[],_,_=>by have:=mB_nn hR hC n;show le2 0 _;unfold le2;constructor <;> grind
  |0,_ :: _,h,_=>by simp at h
  |n+1,a :: l,h,hc=>le2_add (le2_mul (evB hR hC ht n l (by simp at h;omega) fun i=>hc (i+1)) ht) (hc 0)
theorem lipB {R C:Rat} (hR:0≤R) (hC:0≤C) {s t:Rat} (hs:le2 s R) (ht:le2 t R) (hst:s≤t):∀(n:Nat) (l:List Rat),l.length≤n→cf C l→le2 (ev t l - ev s l) (lB R C n*(t - s))
  |n,[],_,_=>by
    have:=Rat.mul_nonneg (lB_nn hR hC n) (show 0≤t - s by grind)
    show le2 (0 - 0) _;unfold le2;constructor <;> grind
  |0,_ :: _,h,_=>by simp at h
  |n+1,a :: l,h,hc=>by
    have hl:l.length≤n:=by simp at h;omega
    have e:ev t (a :: l) - ev s (a :: l)=ev t l*(t - s)+s*(ev t l - ev s l):=by
      show ev t l*t+a - (ev s l*s+a)=_;grind
    have h1:=le2_mul (evB hR hC ht n l hl fun i=>hc (i+1)) (show le2 (t - s) (t - s) by unfold le2;constructor <;> grind)
    have h2:=le2_mul hs (lipB hR hC hs ht hst n l hl fun i=>hc (i+1))
    rw [e]
    refine le2_mono (le2_add h1 h2) ?_
    show _≤(mB R C n+R*lB R C n)*(t - s)
    grind
theorem tayB {R C:Rat} (hR:0≤R) (hC:0≤C) {s t:Rat} (hs:le2 s R) (ht:le2 t R) (hst:s≤t):∀(n:Nat) (l:List Rat),l.length≤n→cf C l→le2 (ev t l - ev s l - (t - s)*ev s (der l)) (kB R C n*((t - s)*(t - s)))
  |n,[],_,_=>by
    have h0:0≤t - s:=by grind
    have:=Rat.mul_nonneg (kB_nn hR hC n) (Rat.mul_nonneg h0 h0)
    have:ev s (der [])=0:=by
      have:der ([]:List Rat)=[]:=by decide +kernel
      rw [this];rfl
    rw [this]
    show le2 (0 - 0 - _) _;unfold le2;constructor <;> grind
  |0,_ :: _,h,_=>by simp at h
  |n+1,a :: l,h,hc=>by
    have hl:l.length≤n:=by simp at h;omega
    have e:ev t (a :: l) - ev s (a :: l) - (t - s)*ev s (der (a :: l))=(ev t l - ev s l)*(t - s)+s*(ev t l - ev s l - (t - s)*ev s (der l)):=by
      rw [der_cons]
      show ev t l*t+a - (ev s l*s+a) - _=_;grind
    have h1:=le2_mul (lipB hR hC hs ht hst n l hl fun i=>hc (i+1)) (show le2 (t - s) (t - s) by unfold le2;constructor <;> grind)
    have h2:=le2_mul hs (tayB hR hC hs ht hst n l hl fun i=>hc (i+1))
    rw [e]
    refine le2_mono (le2_add h1 h2) ?_
    show _≤(lB R C n+R*kB R C n)*((t - s)*(t - s))
    grind
theorem B4 {R C:Rat} (hR:1≤R) (hC:1≤C):mB R C 4+2≤8*(C*(R*(R*R)))∧lB R C 4+kB R C 4+1≤16*(C*(R*R)):=by
  have h1:=Rat.mul_nonneg (show 0≤R by grind) (show 0≤R - 1 by grind)
  have h2:=Rat.mul_nonneg (show 0≤R by grind) h1
  have a0:0≤C:=by grind
  have b1:=Rat.mul_nonneg a0 h1
  have b2:=Rat.mul_nonneg a0 h2
  have b3:=Rat.mul_nonneg a0 (show 0≤R - 1 by grind)
  simp only [mB,lB,kB]
  constructor <;> grind
def pq (y:Rat):Nat→Rat
  |0=>1
  |n+1=>pq y n*y
theorem pq_one {y:Rat} (h:1≤y):∀n,1≤pq y n
  |0=>Rat.le_refl
  |n+1=>by
    have:=pq_one h n
    have:=Rat.mul_nonneg (show 0≤pq y n by grind) (show 0≤y - 1 by grind)
    show 1≤pq y n*y;grind
theorem pq_le {y:Rat} {e:Nat} (h1:1≤y) (h:y≤tp e):∀n m,n≤m→pq y n≤tp (m*e)
  |0,m,_=>tp_one _
  |n+1,m,hm=>by
    obtain ⟨k,rfl⟩:∃k,m=k+1:=⟨m - 1,by omega⟩
    have:=pq_le h1 h n k (by omega)
    have a:=pq_one h1 n
    have:=Rat.mul_nonneg (show 0≤tp (k*e) - pq y n by grind) (show 0≤y by grind)
    have:=Rat.mul_nonneg (show 0≤tp (k*e) by have:=tp_pos (k*e);grind) (show 0≤tp e - y by grind)
    rw [Nat.succ_mul,tp_add]
    show pq y n*y≤_;grind
theorem const_sm {ε δ c:Rat} {a:List Rat} {x:Rat} (h:∀t,ev t a=c) (hc:ε≤qabs c) (hδ:δ≤ε):¬sm δ (ev x a):=fun z=>by
  rw [h] at z
  unfold sm at z
  unfold qabs at hc
  split at hc <;> grind
theorem chq_prsE {R Q ε:Rat} (hQ:0≤Q):∀S:List (List Rat),chq R Q S→(∀a,a∈S→∀c,c≠0→(∀t,ev t a=c)→ε≤qabs c)→∀δ,0<δ→δ*pq (Q+2) S.length≤ε→∀x,le2 x R→prs δ x S
  |[],_,_,_,_,_,_,_=>trivial
  |[a],⟨c,hc,h⟩,hs,δ,h0,hδ,x,hx=>const_sm h (hs a (by simp) c hc h) (by
      have:=pq_one (y:=Q+2) (by grind) [a].length
      have:=Rat.mul_nonneg (show 0≤δ by grind) (show 0≤pq (Q+2) [a].length - 1 by grind);grind)
  |[a,b],⟨c,hc,h⟩,hs,δ,h0,hδ,x,hx=>by
      have k:=const_sm (x:=x) h (hs b (by simp) c hc h) (show δ≤ε by
        have:=pq_one (y:=Q+2) (by grind) [a,b].length
        have:=Rat.mul_nonneg (show 0≤δ by grind) (show 0≤pq (Q+2) [a,b].length - 1 by grind);grind)
      exact ⟨fun z=>k z.2,k⟩
  |a :: b :: c :: l,⟨⟨q,h1,h2⟩,h3⟩,hs,δ,h0,hδ,x,hx=>by
    have hq2:0<Q+2:=by grind
    have hd':=Rat.mul_pos h0 hq2
    have hp:=chq_prsE hQ (b :: c :: l) h3 (fun a' ha'=>hs a' (List.mem_cons_of_mem _ ha')) (δ*(Q+2)) hd' (by
      have e:δ*(Q+2)*pq (Q+2) (b :: c :: l).length=δ*pq (Q+2) (a :: b :: c :: l).length:=by
        show _=δ*(pq (Q+2) (b :: c :: l).length*(Q+2));grind
      rw [e];exact hδ) x hx
    have hQε:=Rat.mul_nonneg hQ (show 0≤δ by grind)
    have hle:δ≤δ*(Q+2):=by grind
    refine ⟨fun z=> ?_,prs_mono hle _ hp⟩
    have h4:=le2_mul (h1 x hx) (show le2 (ev x b) δ by unfold sm at z;unfold le2;constructor <;> grind)
    have h5:=h2 x
    refine hp.1 ⟨sm_mono z.2 hle,?_⟩
    unfold sm le2 at*
    constructor <;> grind
theorem stepE {f0:List Rat} {T:List (List Rat)} {R Q δ1 δ L K h:Rat} (hQ:0≤Q) (hq:chq R Q (f0 :: der f0 :: T)) (hp:∀x,le2 x R→prs δ1 x (f0 :: der f0 :: T)) (hL:0≤L)
    (hl:∀g,g∈f0 :: der f0 :: T→∀s t,le2 s R→le2 t R→s≤t→le2 (ev t g - ev s g) (L*(t - s))) (hK:0≤K)
    (hk:∀s t,le2 s R→le2 t R→s≤t→le2 (ev t f0 - ev s f0 - (t - s)*ev s (der f0)) (K*((t - s)*(t - s))))
    (hd:0<δ) (ed:δ*(Q+2)≤δ1) (hh:0<h) (eh:h*(L+K+1)≤δ):∀x y,le2 x R→le2 y R→x<y→y - x≤h→Stp (f0 :: der f0 :: T) f0 x y:=by
  have hQδ:=Rat.mul_nonneg hQ (show 0≤δ by grind)
  have hLh:=Rat.mul_nonneg hL (show 0≤h by grind)
  have hKh:=Rat.mul_nonneg hK (show 0≤h by grind)
  intro x y hx hy hxy hyx
  have hlip:∀g,g∈f0 :: der f0 :: T→∀u v,x≤u→u≤v→v≤y→le2 (ev v g - ev u g) (L*h):=fun g hg u v h1 h2 h3=>by
    have:=Rat.mul_nonneg hL (show 0≤h - (v - u) by grind)
    exact le2_mono (hl g hg u v (by unfold le2 at *;constructor <;> grind) (by unfold le2 at *;constructor <;> grind) h2) (by grind)
  have hLδ:L*h<δ:=by grind
  have hxy':x≤y:=by grind
  have hlx:∀g,g∈f0 :: der f0 :: T→∃η,η<δ∧le2 (ev y g - ev x g) η:=fun g hg=>⟨L*h,hLδ,hlip g hg x y (by grind) hxy' (by grind)⟩
  by_cases h0:sm δ (ev x f0)
  · have hle : δ ≤ δ1 := by grind
    have h1:¬sm δ1 (ev x (der f0)):=fun z=>(hp x hx).1 ⟨sm_mono h0 hle,z⟩
    have h1':¬sm δ (ev x (der f0)):=fun z=>h1 (sm_mono z hle)
    obtain ⟨e1,e2⟩:=sgn_stay hd h1' (hlip (der f0) (by simp) x y (by grind) hxy' (by grind)) hLδ
    have ht:=tail_same hQ hd (show (Q+2)*δ≤δ1 by grind) hx T.length (der f0) T (Nat.le_refl _) (chq_tail hq) (prs_tail (hp x hx)) (fun g hg=>hlx g (List.mem_cons_of_mem _ hg)) h1' 0
    have vx:=vr_head (f0:=f0) (T:=T) rfl rfl e2 (z:=x) (f1:=der f0)
    have vy:=vr_head (f0:=f0) (T:=T) rfl e1 e2 (z:=y) (f1:=der f0)
    have hmono:∀u v,x≤u→u<v→v≤y→le2 (ev v f0 - ev u f0 - (v - u)*ev u (der f0)) (K*((v - u)*(v - u)))∧le2 (ev u (der f0) - ev x (der f0)) (L*h):=fun u v a b c=>
      ⟨hk u v (by unfold le2 at *;constructor <;> grind) (by unfold le2 at *;constructor <;> grind) (by grind),hlip (der f0) (by simp) x u (by grind) a (by grind)⟩
    refine .inr ?_
    have hδ1:δ+δ≤δ1:=by grind
    rcases sm_not h1 with z|z
    · refine .inr ⟨fun u v a b c => ?_, ?_⟩
      · obtain ⟨m1, m2⟩ := hmono u v a b c
        have hneg:ev u (der f0)< -δ:=by unfold le2 at m2;grind
        have hKw:K*(v - u)≤δ:=by
          have:=Rat.mul_nonneg hK (show 0≤h - (v - u) by grind)
          grind
        have:=pos_mul (show 0<v - u by grind) (show 0< -(ev u (der f0)) - K*(v - u) by grind)
        unfold le2 at m1
        grind
      · have s1 : sgq (ev x (der f0)) = -1 := sgq_n (by grind)
        rw [vx,vy,ht,s1]
        unfold b2
        have p1:∀w:Rat,(sgq w* -1<0)↔0<w:=fun w=>by have:=sgq_pos (x:=w);constructor <;> intro q <;> (first|(apply sgq_pos.1;omega)|(have:=sgq_pos.2 q;omega))
        simp only [p1]
        omega
    · refine .inl ⟨fun u v a b c => ?_, ?_⟩
      · obtain ⟨m1, m2⟩ := hmono u v a b c
        have hpos:δ<ev u (der f0):=by unfold le2 at m2;grind
        have hKw:K*(v - u)≤δ:=by
          have:=Rat.mul_nonneg hK (show 0≤h - (v - u) by grind)
          grind
        have:=pos_mul (show 0<v - u by grind) (show 0<ev u (der f0) - K*(v - u) by grind)
        unfold le2 at m1
        grind
      · have s1 : sgq (ev x (der f0)) = 1 := sgq_p (by grind)
        rw [vx,vy,ht,s1]
        unfold b2
        have p1:∀w:Rat,(sgq w*1<0)↔w<0:=fun w=>by rw [Int.mul_one];exact sgq_lt
        simp only [p1]
        omega
  · obtain ⟨e1, e2⟩ := sgn_stay hd h0 (hlip f0 (by simp) x y (by grind) hxy' (by grind)) hLδ
    refine .inl ⟨e1.symm,fun z a b c=> ?_,?_⟩
    · have := hlip f0 (by simp) x z (by grind) a b
      unfold le2 at this
      rcases sm_not h0 with w|w <;> grind
    · have ht := tail_same hQ hd (show (Q + 2) * δ ≤ δ1 by grind) hx (der f0 :: T).length f0 (der f0 :: T) (Nat.le_refl _) hq (hp x hx) hlx h0 0
      have hv:∀w,sgq (ev w f0)=sgq (ev x f0)→vr (f0 :: der f0 :: T) w=va w (der f0 :: T) 0 (sgq (ev x f0)):=fun w hw=>by
        unfold vr
        conv=>lhs;unfold va
        rw [hw,if_neg e2,Int.zero_mul,if_neg (by decide)]
      rw [hv x rfl,hv y e1]
      exact ht
theorem stp_bt {S:List (List Rat)} {f:List Rat} {x y:Rat} (hxy:x<y) (h:Stp S f x y):bt S x y=0∨bt S x y=1:=by
  unfold bt
  rcases h with ⟨h1,h2,h3⟩|⟨h1,h2⟩|⟨h1,h2⟩
  · left;omega
  · have hm := h1 x y Rat.le_refl hxy Rat.le_refl
    rw [h2];unfold b2
    by_cases k:ev y f<0
    · rw [if_pos k,if_pos (by grind)];left;rfl
    · rw [if_neg k]; split
      · right;rfl
      · left;rfl
  · have hm := h1 x y Rat.le_refl hxy Rat.le_refl
    rw [h2];unfold b2
    by_cases k:0<ev y f
    · rw [if_pos k,if_pos (by grind)];left;rfl
    · rw [if_neg k]; split
      · right;rfl
      · left;rfl
theorem st_chq {R Q:Rat} {K:Nat} (hQ:∀q:List Rat,q.length≤4→cb (K+6*(K+1)) q→∀t,le2 t R→le2 (ev t q) Q):∀(n:Nat) (a b:List Rat),(∀l,l∈a :: st n a b→cl l=l∧l.length≤4∧cb K l)→chn (a :: st n a b)→chq R Q (a :: st n a b)
  |0,a,b,_,h=>h
  |n+1,a,b,hm,h=>by
    by_cases hb:b.length=0
    · rw [st_nil hb] at h ⊢;exact h
    · have e : st (n + 1) a b = b :: st n b (mul (dr a b) [(((-1 : Int)) : Rat)]) := if_neg hb
      rw [e] at hm h ⊢
      have ih:=st_chq hQ n b (mul (dr a b) [(((-1:Int)):Rat)]) (fun l hl=>hm l (List.mem_cons_of_mem _ hl))
      cases hst:st n b (mul (dr a b) [(((-1:Int)):Rat)]) with
      |nil=>rw [hst] at h;exact h
      |cons d T=>
        have hd:d=mul (dr a b) [(((-1:Int)):Rat)]:=by
          cases n with
          |zero=>cases hst
          |succ n=>
            unfold st at hst
            split at hst
            · cases hst
            · exact (List.cons.inj hst).1.symm
        rw [hst] at h ih
        obtain ⟨a1,a2,a3⟩:=hm a (by simp)
        obtain ⟨b1,b2,b3⟩:=hm b (by simp)
        refine ⟨⟨dq a b,hQ _ (Nat.le_trans (dqr_len a b).1 a2) (div_cb a1 b1 hb a3 b3 (by omega)).1,fun t=> ?_⟩,ih h.2⟩
        rw [hd,ev_mul,div_ev a1 b1 hb t]
        have:ev t [((-1:Int):Rat)]= -1:=by show 0*t+((-1:Int):Rat)= -1;rw [show ((-1:Int):Rat)= -1 by decide +kernel];grind
        rw [this];grind
def eE (K r:Nat):Nat:=30*(K+6*(K+1))+3*r+3
def eH (K r:Nat):Nat:=30*K+5*eE K r+eE K r+(30*K+2*r+4)
theorem tp3 (a r:Nat):tp a*(tp r*(tp r*tp r))*8=tp (a+3*r+3):=by
  rw [tp_add,tp_add,show 3*r=r+(r+r) by omega,tp_add,tp_add]
  have:tp 3=8:=by decide +kernel
  rw [this]
theorem tp2 (a r:Nat):tp a*(tp r*tp r)*16=tp (a+2*r+4):=by
  rw [tp_add,tp_add,show 2*r=r+r by omega,tp_add]
  have:tp 4=16:=by decide +kernel
  rw [this]
theorem small_steps {p:List Rat} {K r:Nat} (hp:(cl p).length≠0) (hn:(sturm p).length≤5) (hS:∀l,l∈sturm p→cl l=l∧l.length≤4∧cb K l) {x y:Rat} (hx:le2 x (tp r)) (hy:le2 y (tp r)) (hxy:x<y) (hle:y - x≤tq (eH K r)):bt (sturm p) x y=0∨bt (sturm p) x y=1:=by
  rcases sturm_chn hp with ⟨d,hd,hdd,hs⟩|⟨T,hs,hch⟩
  · left
    have hv:∀z,vr (sturm p) z=0:=fun z=>by
      rw [hs]
      unfold vr
      rw [va_cons]
      split
      · rfl
      · show (if (0 : Int) * _ < 0 then _ else (0 : Int)) = 0
        rw [Int.zero_mul,if_neg (by decide)]
    unfold bt
    rw [hv,hv];rfl
  · have h0 : (sqf p).length ≠ 0 := fun e => hp ((sqf_nil p).1 e)
    have hs':sturm p=sqf p :: st (sqf p).length (sqf p) (der (sqf p)):=if_neg h0
    have hR:=tp_one r
    have hR0:0≤tp r:=by grind
    have hC:=tp_one (30*K)
    have hC':=tp_one (30*(K+6*(K+1)))
    have q4:=(B4 hR hC').1
    have l4:=(B4 hR hC).2
    have hch':=hch
    rw [← hs,hs'] at hch'
    have hq:=st_chq (R:=tp r) (Q:=mB (tp r) (tp (30*(K+6*(K+1)))) 4) (K:=K) (fun q hq hc t ht=>evB hR0 (by grind) ht 4 q hq (cb_cf hc)) _ _ _ (by rw [← hs'];exact hS) hch'
    rw [← hs'] at hq
    have hQ0:=mB_nn hR0 (show 0≤tp (30*(K+6*(K+1))) by grind) 4
    have hQe:mB (tp r) (tp (30*(K+6*(K+1)))) 4+2≤tp (eE K r):=by
      have:=tp3 (30*(K+6*(K+1))) r
      unfold eE
      rw [← this];grind
    have hLe:lB (tp r) (tp (30*K)) 4+kB (tp r) (tp (30*K)) 4+1≤tp (30*K+2*r+4):=by
      rw [← tp2];grind
    generalize mB (tp r) (tp (30*(K+6*(K+1)))) 4=Q at*
    have hpr:=chq_prsE (ε:=tq (30*K)) hQ0 (sturm p) hq (fun a ha c hc h=>by
      have h1:=const_at h
      rw [h1]
      exact cb_low (hS a ha).2.2 (by rw [← h1];exact hc)) (tq (30*K+5*eE K r)) (tq_pos _) (by
        have h1:=pq_le (y:=Q+2) (by grind) hQe (sturm p).length 5 hn
        have h2:=tq_cut (30*K) (5*eE K r)
        have:=Rat.mul_nonneg (show 0≤tq (30*K+5*eE K r) by have:=tq_pos (30*K+5*eE K r);grind) (show 0≤tp (5*eE K r) - pq (Q+2) (sturm p).length by grind)
        grind)
    rw [hs] at hq hpr hS ⊢
    refine stp_bt hxy (stepE (R:=tp r) (Q:=Q) (δ1:=tq (30*K+5*eE K r)) (δ:=tq (30*K+5*eE K r+eE K r)) (L:=lB (tp r) (tp (30*K)) 4) (K:=kB (tp r) (tp (30*K)) 4) (h:=tq (eH K r)) hQ0 hq hpr (lB_nn hR0 (by grind) 4)
      (fun g hg s t h1 h2 h3=>lipB hR0 (by grind) h1 h2 h3 4 g (hS g hg).2.1 (cb_cf (hS g hg).2.2)) (kB_nn hR0 (by grind) 4)
      (fun s t h1 h2 h3=>tayB hR0 (by grind) h1 h2 h3 4 _ (hS (sqf p) (by simp)).2.1 (cb_cf (hS (sqf p) (by simp)).2.2)) (tq_pos _) ?_ (tq_pos _) ?_ x y hx hy hxy hle)
    · have h1 := tq_cut (30 * K + 5 * eE K r) (eE K r)
      have:=Rat.mul_nonneg (show 0≤tq (30*K+5*eE K r+eE K r) by have:=tq_pos (30*K+5*eE K r+eE K r);grind) (show 0≤tp (eE K r) - (Q+2) by grind)
      grind
    · have h1 := tq_cut (30 * K + 5 * eE K r + eE K r) (30 * K + 2 * r + 4)
      have:=Rat.mul_nonneg (show 0≤tq (eH K r) by have:=tq_pos (eH K r);grind) (show 0≤tp (30*K+2*r+4) - (lB (tp r) (tp (30*K)) 4+kB (tp r) (tp (30*K)) 4+1) by grind)
      unfold eH at*
      grind
end Go.Proofs.YtpdbimfnhglhpaaGreat.Po
namespace Go.Proofs.YtpdbimfnhglhpaaGreat.Po
open Go.Proofs.YtpdbimfnhglhpaaGreat.Big
set_option linter.unusedVariables false
theorem st_cl:∀(n:Nat) (a b:List Rat),cl b=b→∀l,l∈st n a b→cl l=l
  |0,_,_,_,l,h=>by cases h
  |n+1,a,b,hb,l,h=>by
    unfold st at h
    split at h
    · cases h
    · rcases List.mem_cons.1 h with rfl | h
      · exact hb
      · exact st_cl n b _ (mul_cl _ _) l h
theorem sok4 {p:List Rat} (hl:p.length≤4) (h:cb 100 p):sok p∧∀q,q∈sturm p→cl q=q∧q.length≤4∧cb 150000000 q:=by
  have hP:cb 100 (cl p):=cb_cl h
  have hPl:=cl_le_len p
  have hD:cb 103 (der (cl p)):=cb_der hP (by omega)
  have hDl:=der_len (cl p)
  have hDc:=der_cl (cl p)
  have hsq:sqok p∧cb 112425 (sqf p):=by
    by_cases h0:(cl p).length=0
    · have e : sqf p = [] := if_pos h0
      refine ⟨⟨bd_mono (cb_bd h) (by decide),bd_mono (cb_bd hD) (by decide),fun k=>absurd h0 k⟩,?_⟩
      rw [e];exact cb_mono (cb_of_bd (l:=[]) (k:=1) (fun i=>by rw [gD0 (Nat.zero_le _),hq_zero];decide)) (by decide)
    · have hn : (der (cl p)).length ≤ 3 := by omega
      have hpw:=pow_le (N:=5) hn 103
      have h6:(103+1)*(5+1)^3=22464:=by decide
      have hg:=gok_cb (N:=5) (by decide) (der (cl p)).length 103 (mo (cl p)) (mo (der (cl p))) (mo_cl _) (mo_cl _) (cb_mo (cl_cl p) (cb_mono hP (by decide))) (cb_mo hDc hD) (by have:=mo_len (cl p);omega) (by have:=mo_len (der (cl p));omega) (by omega)
      have hG:cb 22464 (gcd (cl p) (der (cl p))):=by
        unfold gcd
        rw [cl_cl,hDc]
        exact cb_mono hg.2 (by omega)
      have hGn:(gcd (cl p) (der (cl p))).length≠0:=gcd_ne (by rw [cl_cl];exact h0)
      have hdiv:=(div_cb (N:=5) (cl_cl p) (gcd_cl _ _) hGn hP hG (by omega)).1
      refine ⟨⟨bd_mono (cb_bd h) (by decide),bd_mono (cb_bd hD) (by decide),fun _=>⟨⟨bd_mono (cb_bd hP) (by decide),bd_mono (cb_bd hD) (by decide),?_⟩,dgo_cb (N:=5) (cl_cl p) (gcd_cl _ _) hGn hP hG (by omega) (by decide) (by decide),bd_mono (cb_bd hdiv) (by decide)⟩⟩,?_⟩
      · rw [cl_cl,hDc];exact hg.1
      · unfold sqf
        rw [if_neg h0]
        exact cb_mo (dq_cl _ _) (cb_mono hdiv (by decide))
  obtain ⟨hs1,hs2⟩:=hsq
  have hsl:=sqf_len p
  have hsd:cb 112428 (der (sqf p)):=cb_der hs2 (by omega)
  have hsdl:=der_len (sqf p)
  have h5:(sqf p).length≤4:=by omega
  have hpw:=pow_le (N:=5) h5 112428
  have h6:(112428+1)*(5+1)^4=145707984:=by decide
  have hst:=stok_cb (N:=5) (by decide) (sqf p).length 112428 (sqf p) (der (sqf p)) (sqf_cl p) (der_cl _) (cb_mono hs2 (by decide)) hsd (by omega) (by omega) (by omega)
  refine ⟨⟨hs1,bd_mono (cb_bd hs2) (by decide),bd_mono (cb_bd hsd) (by decide),hst.1⟩,fun q hq=> ?_⟩
  unfold sturm at hq
  split at hq
  · cases hq
  · rcases List.mem_cons.1 hq with rfl | hq
    · exact ⟨sqf_cl _,by omega,cb_mono hs2 (by decide)⟩
    · obtain ⟨k1, k2⟩ := hst.2 q hq
      exact ⟨st_cl _ _ _ (der_cl _) q hq,by omega,cb_mono k2 (by omega)⟩
theorem iso_len {l:List (List Rat)}:∀(n:Nat) (a b:Rat),isk l n a b→((iso l n a b).length:Int)=bt l a b
  |0,_,_,h=>h.elim
  |n+1,a,b,h=>by
    by_cases h0:bt l a b=0
    · rw [iso_none h0,h0];rfl
    · by_cases h1 : bt l a b = 1
      · rw [iso_one h1,h1];rfl
      · have k1 := iso_len n a (mid a b) (h.2 h0 h1).1
        have k2:=iso_len n (mid a b) b (h.2 h0 h1).2
        rw [iso_more h0 h1,List.length_append]
        unfold bt at*
        omega
def P2 (k:Nat):Int:=((2^k:Nat):Int)
theorem P2_pos (k:Nat):0<P2 k:=by have:0<2^k:=Nat.pow_pos (by decide);unfold P2;omega
theorem P2_succ (k:Nat):P2 (k+1)=2*P2 k:=by unfold P2;rw [Nat.pow_succ];omega
theorem tp_P2:∀k,tp k=((P2 k:Int):Rat)
  |0=>by decide +kernel
  |k+1=>by
    show 2*tp k=_
    rw [P2_succ,Rat.intCast_mul,←tp_P2 k]
    have:((2:Int):Rat)=2:=by decide +kernel
    rw [this]
theorem P2_pw:∀m,P2 (29*m)≤Big.pw m
  |0=>by decide
  |m+1=>by
    have h:=P2_pw m
    have h1:=P2_pos (29*m)
    have e:P2 (29*(m+1))=P2 (29*m)*536870912:=by
      unfold P2
      rw [show 29*(m+1)=29*m+29 by omega,Nat.pow_add]
      have:2^29=536870912:=by decide
      rw [this];omega
    rw [e,Big.pw_succ]
    omega
theorem ln_P2 {z:Int} {k:Nat} (h1: - P2 k≤z) (h2:z≤P2 k):ln z≤k / 29+1:=by
  have h3:=P2_pw (k / 29+1)
  have h4:P2 k<P2 (29*(k / 29+1)):=by
    unfold P2
    have:=Nat.pow_lt_pow_right (show 1<2 by decide) (show k<29*(k / 29+1) by omega)
    exact_mod_cast this
  exact zae (by omega) (by omega)
theorem grid_hq {i:Int} {k:Nat} (h1: - P2 k≤i) (h2:i≤P2 k):hq ((i:Rat)*tq k)≤k / 29+1:=by
  have hp:=P2_pos k
  have e:(i:Rat)*tq k=Rat.divInt i (P2 k):=by
    rw [Rat.divInt_eq_div,tq,tp_P2,Rat.div_def,Rat.div_def];grind
  rw [e]
  have:=hq_divInt (n:=i) (d:=P2 k) (by omega)
  have:=ln_P2 h1 h2
  have:=ln_P2 (z:=P2 k) (k:=k) (by omega) (by omega)
  omega
theorem grid_le {b:Rat} (hb:0<b) {i:Int} {k:Nat} (h1: - P2 k≤i) (h2:i≤P2 k):le2 (b*((i:Rat)*tq k)) b:=by
  have a1:((i:Int):Rat)≤tp k:=by rw [tp_P2];exact_mod_cast h2
  have a2: -tp k≤((i:Int):Rat):=by
    have:((-(P2 k):Int):Rat)≤(i:Rat):=by exact_mod_cast h1
    rw [Rat.intCast_neg] at this;rw [tp_P2];exact this
  have h0:=tq_pos k
  have h3:=tq_tp k
  have c1:=Rat.mul_nonneg (show 0≤tp k - i by grind) (show 0≤tq k by grind)
  have c2:=Rat.mul_nonneg (show 0≤tp k+i by grind) (show 0≤tq k by grind)
  have d1:=Rat.mul_nonneg (show 0≤b by grind) (show 0≤1 - i*tq k by grind)
  have d2:=Rat.mul_nonneg (show 0≤b by grind) (show 0≤1+i*tq k by grind)
  unfold le2
  constructor <;> grind
theorem tq_half (k:Nat):tq k=2*tq (k+1):=by
  have h:=tq_cut k 1
  have e:tp 1=2:=by decide +kernel
  rw [e] at h
  rw [← h];grind
theorem cast2 (i:Int):((2*i:Int):Rat)=2*(i:Rat):=by
  rw [Rat.intCast_mul];have:((2:Int):Rat)=2:=by decide +kernel
  rw [this]
theorem castp2 (i:Int):((i+2:Int):Rat)=(i:Rat)+2:=by
  rw [Rat.intCast_add];have:((2:Int):Rat)=2:=by decide +kernel
  rw [this]
theorem isk_grid {S:List (List Rat)} {b h:Rat} {M K D:Nat} (hb0:0<b) (hb:hq b≤M) (hS:∀q,q∈S→q.length≤10∧bd K q) (hK:K≤60000000000) (hD:M+(D / 29+1)≤100000000000) (hD2:1+10*(K+(M+(D / 29+1))+1)≤200000000000)
    (hstep:∀x y,le2 x b→le2 y b→x<y→y - x≤h→bt S x y=0∨bt S x y=1):
    ∀(n k:Nat) (i:Int),2*b*tq k≤h*tp n→ - P2 k≤i→i+2≤P2 k→n+k≤D→isk S (n+1) (b*((i:Rat)*tq k)) (b*(((i+2:Int):Rat)*tq k)):=by
  have size:∀(k:Nat) (i:Int),- P2 k≤i→i≤P2 k→k≤D→hq (b*((i:Rat)*tq k))≤M+(D / 29+1):=fun k i h1 h2 hk=>by
    have a1:=hq_mul b ((i:Rat)*tq k)
    have a2:=grid_hq h1 h2
    have:k / 29≤D / 29:=Nat.div_le_div_right hk
    omega
  intro n
  induction n with
  |zero=>
    intro k i hh h1 h2 hk
    have s1:=size k i h1 (by omega) (by omega)
    have s2:=size k (i+2) (by omega) h2 (by omega)
    refine ⟨⟨by omega,by omega,vok_of s1 hS hK hD2,vok_of s2 hS hK hD2⟩,fun h0 h1'=> ?_⟩
    have hq0:=Rat.mul_pos hb0 (tq_pos k)
    have e:tp 0=1:=rfl
    rw [e] at hh
    rcases hstep _ _ (grid_le hb0 h1 (by omega)) (grid_le hb0 (by omega) h2) (by rw [castp2];grind) (by rw [castp2];grind) with z|z
    · exact absurd z h0
    · exact absurd z h1'
  |succ n ih=>
    intro k i hh h1 h2 hk
    have s1:=size k i h1 (by omega) (by omega)
    have s2:=size k (i+2) (by omega) h2 (by omega)
    have hP:=P2_succ k
    have hh':2*b*tq (k+1)≤h*tp n:=by
      have e:tp (n+1)=2*tp n:=rfl
      rw [e,tq_half k] at hh
      grind
    have e1:b*((i:Rat)*tq k)=b*(((2*i:Int):Rat)*tq (k+1)):=by rw [cast2,tq_half k];grind
    have e2:mid (b*((i:Rat)*tq k)) (b*(((i+2:Int):Rat)*tq k))=b*(((2*i+2:Int):Rat)*tq (k+1)):=by
      have e:Rat.divInt 1 2=1 / 2:=by decide +kernel
      unfold mid
      rw [castp2,castp2,cast2,e,tq_half k];grind
    have e3:b*(((i+2:Int):Rat)*tq k)=b*(((2*i+2+2:Int):Rat)*tq (k+1)):=by
      rw [castp2,castp2,castp2,cast2,tq_half k];grind
    refine ⟨⟨by omega,by omega,vok_of s1 hS hK hD2,vok_of s2 hS hK hD2⟩,fun _ _=> ?_⟩
    rw [e2,e1,e3]
    exact ⟨ih (k+1) (2*i) hh' (by omega) (by omega) (by omega),ih (k+1) (2*i+2) hh' (by omega) (by omega) (by omega)⟩
theorem bm_nn (P:List Rat):∀i,0≤bm P i
  |0=>by show 0≤((0:Int):Rat);decide +kernel
  |i+1=>by
    have h:=bm_nn P i
    unfold bm
    split
    · exact le2_nonneg (le2_abs _)
    · exact h
theorem int1:((1:Int):Rat)=1:=by decide +kernel
theorem bound_pos (P:List Rat):1≤bound P:=by
  have:=bm_nn P (P.length - 1)
  unfold bound
  rw [int1];grind
theorem isk_cubic {p:List Rat} (hl:p.length≤4) (h:cb 100 p) (hp:(cl p).length≠0):∃n,isk (sturm p) n (-bound (cl p)) (bound (cl p)):=by
  have hS:=(sok4 hl h).2
  have hb1:=bound_pos (cl p)
  have hbq:=bound_hq (cb_bd (cb_cl h)) (lead_ne (cl_cl p) (fun e=>hp (by rw [e];rfl)))
  have hbr:=hq_tp hbq
  have hlen:=sturm_len p
  generalize hB:bound (cl p)=b at*
  have k:=isk_grid (S:=sturm p) (b:=b) (h:=tq (eH 150000000 6060)) (M:=202) (K:=150000000) (D:=eH 150000000 6060+6061) (by grind) hbq (fun q hq=>⟨by have:=(hS q hq).2.1;omega,cb_bd (hS q hq).2.2⟩) (by decide) (by decide) (by decide)
    (fun x y hx hy hxy hle=>small_steps (r:=6060) hp (by omega) hS (le2_mono hx (by unfold le2 at hbr;exact hbr.2)) (le2_mono hy (by unfold le2 at hbr;exact hbr.2)) hxy hle)
    (eH 150000000 6060+6061) 0 (-1) (by
      have e1:tq 0=1:=by decide +kernel
      have e2:=tq_tp (eH 150000000 6060)
      have e3:tp 6061=2*tp 6060:=rfl
      have h2:=hbr.2
      rw [e1,tp_add]
      have e4:tq (eH 150000000 6060)*(tp (eH 150000000 6060)*tp 6061)=(tq (eH 150000000 6060)*tp (eH 150000000 6060))*tp 6061:=by grind
      rw [e4,e2,e3]
      grind) (by decide) (by decide) (Nat.le_refl _)
  have e1:tq 0=1:=by decide +kernel
  have c1:((-1:Int):Rat)= -1:=by decide +kernel
  have c2:((-1+2:Int):Rat)=1:=by decide +kernel
  rw [e1,c1,c2,show b*(-1*1)= -b by grind,show b*(1*1)=b by grind] at k
  exact ⟨_,k⟩
theorem bm_ge (P:List Rat):∀n i,i<n→qabs (P.getD i 0 / lead P)≤bm P n
  |0,i,h=>by omega
  |n+1,i,h=>by
    unfold bm
    by_cases e:i=n
    · subst e;split <;> grind
    · have := bm_ge P n i (by omega)
      split <;> grind
theorem sturm_neg {p:List Rat} {a b:Rat} (hab:a<b) (h:bt (sturm p) a b=0) (h0:ev a p<0) {z:Rat} (h1:a≤z) (h2:z≤b):ev z p<0:=by
  have hp:(cl p).length≠0:=cl_ne ⟨a,by grind⟩
  have hfa:ev a (sqf p)≠0:=fun k=>by have:=(sqf_root hp a).1 k;grind
  have hR:0≤qabs a+qabs b:=le2_nonneg (in_R (a:=a) (b:=b) (z:=a) Rat.le_refl (by grind))
  have hk:=fun z h3 h4=>sqf_keeps hp hab h (z:=z) h3 h4
  obtain ⟨m,m0,hm⟩:∃m,0<m∧∀z,a≤z→z≤b→m≤qabs (ev z (sqf p)):=by
    by_cases hs:0<ev a (sqf p)
    · exact sqf_low hp (s:=1) (by grind) (.inl rfl) (fun z h3 h4=>by have:=(hk z h3 h4).1 hs;grind)
    · exact sqf_low hp (s:= -1) (by grind) (.inr rfl) (fun z h3 h4=>by have:=(hk z h3 h4).2 (by grind);grind)
  obtain ⟨m',m1,hm'⟩:=low_p hp m0 hR (I:=fun z=>a≤z∧z≤b) (fun z hz=>in_R hz.1 hz.2) (fun z hz=>hm z hz.1 hz.2)
  have:=keep_sign (p:=scl p (-1)) m1 (a:=a) (b:=b) (fun z h3 h4=>by
    rw [ev_scl]
    have:=hm' z ⟨h3,h4⟩
    have e:qabs (ev z p* -1)=qabs (ev z p):=by unfold qabs;split <;> split <;> grind
    rw [e];exact this) h1 h2 (by rw [ev_scl];grind)
  rw [ev_scl] at this
  grind
theorem iso_some {p:List Rat} {n:Nat} {b:Rat} (hb:0<b) (hk:isk (sturm p) n (-b) b) (h1:ev (-b) p<0) (h2:0<ev b p):iso (sturm p) n (-b) b≠[]:=fun e=>by
  have h:=iso_len n (-b) b hk
  rw [e] at h
  have:=sturm_neg (p:=p) (a:= -b) (b:=b) (by grind) (show bt (sturm p) (-b) b=0 by rw [← h];rfl) h1 (z:=b) (by grind) Rat.le_refl
  grind
theorem iso_small {p:List Rat} {n:Nat} {b:Rat} (hk:isk (sturm p) n (-b) b):(iso (sturm p) n (-b) b).length≤p.length+1:=by
  have h:=iso_len n (-b) b hk
  have a1:=vr_rng (sturm p) (-b)
  have a2:=vr_rng (sturm p) b
  have a3:=sturm_len p
  unfold bt at h
  omega
end Go.Proofs.YtpdbimfnhglhpaaGreat.Po
namespace Go.Proofs.YtpdbimfnhglhpaaGreat.Dt
open Go.Proofs.YtpdbimfnhglhpaaGreat.Po Go.Proofs.YtpdbimfnhglhpaaGreat.Big
set_option linter.unusedVariables false
set_option linter.unusedSimpArgs false
theorem mul_hq {x y:Rat} {a b:Nat} (hx:hq x≤a) (hy:hq y≤b):hq (x*y)≤a+b:=by have:=hq_mul x y;omega
theorem add_hq {x y:Rat} {a b:Nat} (hx:hq x≤a) (hy:hq y≤b):hq (x+y)≤a+b+1:=by have:=hq_add x y;omega
theorem sub_hq {x y:Rat} {a b:Nat} (hx:hq x≤a) (hy:hq y≤b):hq (x - y)≤a+b+1:=by have:=hq_sub x y;omega
theorem neg_hq' {x:Rat} {a:Nat} (hx:hq x≤a):hq (-x)≤a:=by rw [hq_neg];exact hx
theorem zgb {m:M4} {k:Nat} (h:∀r c,hq (m r c)≤k) (a b c d:Nat):hq (d2 m a b c d)≤4*k+1:=by
  have:=sub_hq (mul_hq (h a c) (h b d)) (mul_hq (h a d) (h b c))
  unfold d2;omega
theorem zhg {m:M4} {k:Nat} (h:∀r c,hq (m r c)≤k) (a b c:Nat):hq (d3 m a b c)≤15*k+5:=by
  have:=add_hq (sub_hq (mul_hq (h a a) (zgb h b c b c)) (mul_hq (h a b) (zgb h b c a c))) (mul_hq (h a c) (zgb h b c a b))
  unfold d3;omega
theorem det4_hq {m:M4} {k:Nat} (h:∀r c,hq (m r c)≤k):hq (det4 m)≤48*k+17:=by
  have:=zgb h
  have:=add_hq (sub_hq (add_hq (add_hq (sub_hq (mul_hq (zgb h 0 1 0 1) (zgb h 2 3 2 3)) (mul_hq (zgb h 0 1 0 2) (zgb h 2 3 1 3))) (mul_hq (zgb h 0 1 0 3) (zgb h 2 3 1 2))) (mul_hq (zgb h 0 1 1 2) (zgb h 2 3 0 3))) (mul_hq (zgb h 0 1 1 3) (zgb h 2 3 0 2))) (mul_hq (zgb h 0 1 2 3) (zgb h 2 3 0 1))
  unfold det4;omega
theorem zed_hq {n:Nat} {m:M4} {k:Nat} (hk:1≤k) (h:∀r c,r<n→c<n→hq (m r c)≤k) (r c:Nat):hq (zed n m r c)≤k:=by
  unfold zed
  split
  · rename_i e;exact h r c e.1 e.2
  · rw [hq_zero];exact hk
theorem pad_hq {n:Nat} {m:M4} {k:Nat} (hk:1≤k) (h:∀r c,r<n→c<n→hq (m r c)≤k) (r c:Nat):hq (pad n m r c)≤k:=by
  unfold pad
  split
  · rename_i e;exact h r c e.1 e.2
  · split
    · rw [hq_one];exact hk
    · rw [hq_zero];exact hk
theorem bd_of {l:List Rat} {K:Nat} (hK:1≤K) (h:∀x,x∈l→hq x≤K):bd K l:=fun i=>by
  rw [List.getD_eq_getElem?_getD]
  by_cases hi:i<l.length
  · rw [List.getElem?_eq_getElem hi];exact h _ (List.getElem_mem hi)
  · rw [List.getElem?_eq_none (by omega)];show hq 0≤K;rw [hq_zero];exact hK
theorem cp_bd {m:M4} {n k:Nat} (h1:1≤n) (h4:n≤4) (hk:1≤k) (hm:∀r c,r<n→c<n→hq (m r c)≤k):bd (60*k+24) (cp m n):=by
  have hn:n=1∨n=2∨n=3∨n=4:=by omega
  have e1:hq (1:Rat)≤1:=by rw [hq_one];exact Nat.le_refl _
  have K3:∀{z:M4},(∀r c,hq (z r c)≤k)→hq (k3 z)≤4*k+3:=fun {z} h=>by
    have:=neg_hq' (add_hq (add_hq (add_hq (h 0 0) (h 1 1)) (h 2 2)) (h 3 3));unfold k3;omega
  have K2:∀{z:M4},(∀r c,hq (z r c)≤k)→hq (k2 z)≤24*k+11:=fun {z} h=>by
    have:=add_hq (add_hq (add_hq (add_hq (add_hq (zgb h 0 1 0 1) (zgb h 0 2 0 2)) (zgb h 0 3 0 3)) (zgb h 1 2 1 2)) (zgb h 1 3 1 3)) (zgb h 2 3 2 3);unfold k2;omega
  have K1:∀{z:M4},(∀r c,hq (z r c)≤k)→hq (k1 z)≤60*k+23:=fun {z} h=>by
    have:=neg_hq' (add_hq (add_hq (add_hq (zhg h 0 1 2) (zhg h 0 1 3)) (zhg h 0 2 3)) (zhg h 1 2 3));unfold k1;omega
  refine bd_of (by omega) fun x hx=> ?_
  rcases hn with rfl|rfl|rfl|rfl
  · have hz := zed_hq hk hm
    simp only [cp,List.mem_cons,List.not_mem_nil,or_false] at hx
    rcases hx with rfl|rfl
    · have:=K3 hz;omega
    · omega
  · have hz := zed_hq hk hm
    simp only [cp,List.mem_cons,List.not_mem_nil,or_false] at hx
    rcases hx with rfl|rfl|rfl
    · have:=K2 hz;omega
    · have:=K3 hz;omega
    · omega
  · have hz := zed_hq hk hm
    simp only [cp,List.mem_cons,List.not_mem_nil,or_false] at hx
    rcases hx with rfl|rfl|rfl|rfl
    · have:=K1 hz;omega
    · have:=K2 hz;omega
    · have:=K3 hz;omega
    · omega
  · have hz : ∀ r c, hq (zed 4 m r c) ≤ k := zed_hq hk hm
    have q1:k1 m=k1 (zed 4 m):=by simp [k1,d3,d2,zed]
    have q2:k2 m=k2 (zed 4 m):=by simp [k2,d2,zed]
    have q3:k3 m=k3 (zed 4 m):=by simp [k3,zed]
    have q0:det4 m=det4 (zed 4 m):=by simp [det4,d2,zed]
    simp only [cp,List.mem_cons,List.not_mem_nil,or_false] at hx
    rw [q0,q1,q2,q3] at hx
    rcases hx with rfl|rfl|rfl|rfl|rfl
    · have:=det4_hq hz;omega
    · have:=K1 hz;omega
    · have:=K2 hz;omega
    · have:=K3 hz;omega
    · omega
theorem cp_cb {m:M4} {n:Nat} (h1:1≤n) (h3:n≤3) (hm:∀r c,r<n→c<n→hq (m r c)≤1):cb 100 (cp m n):=by
  have hz:=zed_hq (Nat.le_refl 1) hm
  have e1:hq (1:Rat)≤1:=by rw [hq_one];exact Nat.le_refl _
  have hb:bd 20 (cp m n):=by
    refine bd_of (by decide) fun x hx=> ?_
    have hn:n=1∨n=2∨n=3:=by omega
    rcases hn with rfl|rfl|rfl
    · have a3 : k3 (zed 1 m) = -(zed 1 m 0 0) := by simp [k3, zed]; try grind
      simp only [cp,List.mem_cons,List.not_mem_nil,or_false] at hx
      rcases hx with rfl|rfl
      · rw [a3];have:=neg_hq' (hz 0 0);omega
      · omega
    · have a3 : k3 (zed 2 m) = -(zed 2 m 0 0 + zed 2 m 1 1) := by simp [k3, zed]; try grind
      have a2:k2 (zed 2 m)=d2 (zed 2 m) 0 1 0 1:=by simp [k2,d2,zed];try grind
      simp only [cp,List.mem_cons,List.not_mem_nil,or_false] at hx
      rcases hx with rfl|rfl|rfl
      · rw [a2];have:=zgb hz 0 1 0 1;omega
      · rw [a3];have:=neg_hq' (add_hq (hz 0 0) (hz 1 1));omega
      · omega
    · have a3 : k3 (zed 3 m) = -(zed 3 m 0 0 + zed 3 m 1 1 + zed 3 m 2 2) := by simp [k3, zed]; try grind
      have a2:k2 (zed 3 m)=d2 (zed 3 m) 0 1 0 1+d2 (zed 3 m) 0 2 0 2+d2 (zed 3 m) 1 2 1 2:=by simp [k2,d2,zed];try grind
      have a1:k1 (zed 3 m)= -(d3 (zed 3 m) 0 1 2):=by simp [k1,d3,d2,zed];try grind
      simp only [cp,List.mem_cons,List.not_mem_nil,or_false] at hx
      rcases hx with rfl|rfl|rfl|rfl
      · rw [a1];have:=neg_hq' (zhg hz 0 1 2);omega
      · rw [a2];have:=add_hq (add_hq (zgb hz 0 1 0 1) (zgb hz 0 2 0 2)) (zgb hz 1 2 1 2);omega
      · rw [a3];have:=neg_hq' (add_hq (add_hq (hz 0 0) (hz 1 1)) (hz 2 2));omega
      · omega
  have hl:=(cp_len (m:=m) h1 (by omega)).1
  have:=cb_of_bd hb
  exact cb_mono this (by rw [hl];omega)
theorem ab2 {x M:Rat} (h:qabs x≤M): -M≤x∧x≤M:=by unfold qabs at h;split at h <;> constructor <;> grind
theorem sg1 {a b:Rat} (ha:qabs a≤b - 1) (hb:1≤b):0<ev b [a,1]∧ev (-b) [a,1]<0:=by
  have:=ab2 ha
  simp only [ev]
  constructor <;> grind
theorem sg3 {a c d b:Rat} (ha:qabs a≤b - 1) (hc:qabs c≤b - 1) (hd:qabs d≤b - 1) (hb:1≤b):0<ev b [a,c,d,1]∧ev (-b) [a,c,d,1]<0:=by
  have h1:=ab2 ha;have h2:=ab2 hc;have h3:=ab2 hd
  simp only [ev]
  constructor
  · have e1 : 1 ≤ (0 * b + 1) * b + d := by grind
    generalize (0*b+1)*b+d=u at*
    have:=Rat.mul_nonneg (show 0≤u - 1 by grind) (show 0≤b by grind)
    have e2:1≤u*b+c:=by grind
    generalize u*b+c=w at*
    have:=Rat.mul_nonneg (show 0≤w - 1 by grind) (show 0≤b by grind)
    grind
  · have e1 : (0 * -b + 1) * -b + d ≤ -1 := by grind
    generalize (0* -b+1)* -b+d=u at*
    have:=Rat.mul_nonneg (show 0≤ -1 - u by grind) (show 0≤b by grind)
    have e2:1≤u* -b+c:=by grind
    generalize u* -b+c=w at*
    have:=Rat.mul_nonneg (show 0≤w - 1 by grind) (show 0≤b by grind)
    grind
theorem bnd_ge {P:List Rat} (hl:lead P=1) {i:Nat} (h:i<P.length - 1):qabs (P.getD i 0)≤bound P - 1:=by
  have:=bm_ge P (P.length - 1) i h
  rw [hl] at this
  have e : P.getD i 0 / 1 = P.getD i 0 := by rw [Rat.div_def]; have : (1 : Rat)⁻¹ = 1 := by decide +kernel
                                             rw [this];grind
  rw [e] at this
  unfold bound
  rw [int1];grind
theorem cp_sgn {m:M4} {n:Nat} (h1:1≤n) (h3:n≤3) (ho:n%2=1):0<ev (bound (cp m n)) (cp m n)∧ev (-bound (cp m n)) (cp m n)<0:=by
  have hl:lead (cp m n)=1:=by
    have:=cp_len (m:=m) h1 (by omega)
    unfold lead;rw [this.1];exact this.2
  have hb:=bound_pos (cp m n)
  have hn:n=1∨n=3:=by omega
  rcases hn with rfl|rfl
  · have L0 : 0 < (cp m 1).length - 1 := Nat.zero_lt_one
    exact sg1 (bnd_ge hl (i:=0) L0) hb
  · have L0 : 0 < (cp m 3).length - 1 := (show 0 < 3 by decide)
    have L1:1<(cp m 3).length - 1:=(show 1<3 by decide)
    have L2:2<(cp m 3).length - 1:=(show 2<3 by decide)
    exact sg3 (bnd_ge hl (i:=0) L0) (bnd_ge hl (i:=1) L1) (bnd_ge hl (i:=2) L2) hb
theorem cp_all {m:M4} {n:Nat} (h1:1≤n) (h3:n≤3) (hm:∀r c,r<n→c<n→hq (m r c)≤1):
    ∃k,sok (cp m n)∧bd 40000000000 (cp m n)∧(sturm (cp m n)).length≠0∧(cl (cp m n)).length≠0∧(sturm (cp m n)).length≤400∧isk (sturm (cp m n)) k (-bound (cl (cp m n))) (bound (cl (cp m n)))
      ∧(iso (sturm (cp m n)) k (-bound (cl (cp m n))) (bound (cl (cp m n)))).length≤1000000∧(n%2=1→(iso (sturm (cp m n)) k (-bound (cl (cp m n))) (bound (cl (cp m n)))).length≠0):=by
  have hc:=cp_cb h1 h3 hm
  have hl:=(cp_len (m:=m) h1 (by omega)).1
  have hcl:=cp_cl (m:=m) (n:=n)
  have hn:(cl (cp m n)).length≠0:=by rw [hcl,hl];omega
  obtain ⟨k,hk⟩:=isk_cubic (by omega) hc hn
  have hs:=sturm_len (cp m n)
  have hi:=iso_small hk
  have hne:(sturm (cp m n)).length≠0:=by
    have h0:(sqf (cp m n)).length≠0:=fun e=>hn ((sqf_nil (cp m n)).1 e)
    unfold sturm
    rw [if_neg h0]
    simp
  refine ⟨k,(sok4 (by omega) hc).1,bd_mono (cb_bd hc) (by decide),hne,hn,by omega,hk,by omega,fun ho=> ?_⟩
  have hg:=cp_sgn (m:=m) h1 h3 ho
  have hb:=bound_pos (cp m n)
  rw [hcl] at hk ⊢
  exact fun e=>iso_some (by grind) hk hg.2 hg.1 (List.length_eq_zero_iff.1 e)
end Go.Proofs.YtpdbimfnhglhpaaGreat.Dt
namespace Go.Proofs.YtpdbimfnhglhpaaGreat.Td
open Go.Proofs.YtpdbimfnhglhpaaGreat.Mx Go.Proofs.YtpdbimfnhglhpaaGreat.Big
theorem dl_skip {l m:List Rat} {i:Nat} (h:l.getD i 0=0∨m.getD i 0=0):dl l m i=dl l m (i+1):=by
  show _=dl l m i+l.getD i 0*m.getD i 0
  rcases h with h|h <;> rw [h] <;> grind
theorem sgq_0 {x:Rat} (h:yi x=0):x=0:=Rat.num_eq_zero.1 (Big.sign_zero.1 h)
theorem dl_zero {l m:List Rat} {i:Nat} (h:¬(yi (l.getD i 0)≠0∧yi (m.getD i 0)≠0)):l.getD i 0=0∨m.getD i 0=0:=by
  by_cases k:yi (l.getD i 0)=0
  · exact .inl (sgq_0 k)
  · exact .inr (sgq_0 (Decidable.byContradiction fun z=>h ⟨k,z⟩))
theorem dl_sm (l m:List Rat):∀n,dl l m n=sm n (fun t=>l.getD t 0*m.getD t 0)
  |0=>by show ((0:Int):Rat)=0;decide +kernel
  |n+1=>by show dl l m n+_=sm n _+_;rw [dl_sm l m n]
end Go.Proofs.YtpdbimfnhglhpaaGreat.Td
namespace Go.Proofs.YtpdbimfnhglhpaaGreat.Dt
open Go.Proofs.YtpdbimfnhglhpaaGreat.Mx Go.Proofs.YtpdbimfnhglhpaaGreat.Big Go.Proofs.YtpdbimfnhglhpaaGreat.Td Go.Proofs.YtpdbimfnhglhpaaGreat.Po
set_option linter.unusedVariables false
set_option linter.unusedSimpArgs false
def okM (M:Mt):Prop:=(1≤M.length∧M.length≤64)∧(1≤(M.getD 0 []).length∧(M.getD 0 []).length≤64)∧∀i,i<M.length→(M.getD i []).length=(M.getD 0 []).length
theorem okM_of {M:Mt} {K N:Nat} (hl:M.length=K) (hr:∀i,i<K→(M.getD i []).length=N) (h1:1≤K∧K≤64) (h2:1≤N∧N≤64):okM M:=
  ⟨by rw [hl];exact h1,by rw [hr 0 (by omega)];exact h2,fun i hi=>by rw [hr i (by omega),hr 0 (by omega)]⟩
theorem okM_two {A B:Mt} (ha:okM A) (hb:okM B):∀i,i<2→okM (([A,B]:List Mt).getD i []):=fun i hi=>by
  have:i=0∨i=1:=by omega
  rcases this with rfl|rfl
  · exact ha
  · exact hb
theorem mk_congr {K N:Nat} {f g:Nat→Nat→Rat} (h:∀i j,i<K→j<N→f i j=g i j):mk K N f=mk K N g:=by
  unfold mk
  refine List.map_congr_left fun i hi=>List.map_congr_left fun j hj=> ?_
  exact h i j (List.mem_range.1 hi) (List.mem_range.1 hj)
theorem mk_out {K N:Nat} {f:Nat→Nat→Rat} {i c:Nat} (h:¬(i<K∧c<N)):e (mk K N f) i c=0:=by
  unfold e
  by_cases hi:i<K
  · rw [mk_row hi,range_getD,if_neg (fun k=>h ⟨hi,k⟩)]
  · have : (mk K N f).getD i [] = [] := by rw [List.getD_eq_getElem?_getD, List.getElem?_eq_none (by rw [mk_len]; omega)]; rfl
    rw [this];rfl
theorem mk_bdW {K N k:Nat} {f:Nat→Nat→Rat} (h:∀i j,i<K→j<N→hq (f i j)≤k) (h1:1≤k):Mx.bd (mk K N f) k:=fun i c=>by
  by_cases hc:i<K∧c<N
  · rw [mk_e hc.1 hc.2];exact h i c hc.1 hc.2
  · rw [mk_out hc,hq_zero];exact h1
theorem pad_congr {n:Nat} {f g:M4} (h:∀r c,r<n→c<n→f r c=g r c):pad n f=pad n g:=by
  funext r c
  unfold pad
  split
  · rename_i k;exact h r c k.1 k.2
  · rfl
theorem un_hq (i j:Nat):hq (un i j)≤1:=by
  unfold un;split
  · rw [show ((1:Int):Rat)=1 by decide +kernel,hq_one];exact Nat.le_refl _
  · rw [show ((0:Int):Rat)=0 by decide +kernel,hq_zero];exact Nat.le_refl _
theorem un_eq (i j:Nat):un i j=if i=j then 1 else 0:=by
  unfold un;split
  · decide +kernel
  · decide +kernel
def XI (n:Nat) (x:Rat):Mt:=mk n n (fun ii jj=>x*e (mk n n (fun ii jj=>un ii jj)) ii jj)
theorem XI_e {n:Nat} {x:Rat} {r c:Nat} (hr:r<n) (hc:c<n):e (XI n x) r c=if r=c then x else 0:=by
  unfold XI
  rw [mk_e hr hc,mk_e hr hc,un_eq]
  split <;> grind
theorem XI_hq {n:Nat} {x:Rat} {k:Nat} (hx:hq x≤k):Mx.bd (XI n x) k:=by
  have h1:=hq_pos x
  refine mk_bdW (fun i j hi hj=> ?_) (by omega)
  rw [mk_e hi hj,un_eq]
  split
  · rw [show x*1=x by grind];exact hx
  · rw [show x*0=0 by grind,hq_zero];omega
def XA (n:Nat) (x:Rat) (A:Mt):Mt:=mk n n (fun ii jj=>e (XI n x) ii jj - e A ii jj)
theorem XA_det {n:Nat} {x:Rat} {A:Mt}:det4 (pad n (e (XA n x A)))=det4 (pad n (xsub x (e A))):=by
  rw [pad_congr fun r c hr hc=> ?_]
  unfold XA
  rw [mk_e hr hc,XI_e hr hc];rfl
theorem XA_hq {n:Nat} {x:Rat} {A:Mt} {k b:Nat} (hx:hq x≤k) (hA:Mx.bd A b):Mx.bd (XA n x A) (k+b+1):=by
  refine mk_bdW (fun i j hi hj=> ?_) (by omega)
  have:=hq_sub (e (XI n x) i j) (e A i j)
  have:=XI_hq (n:=n) hx i j
  have:=hA i j
  omega
def dp (m:M4):Nat→Rat
  |0=>((1:Int):Rat)
  |j+1=>dp m j*m j j
theorem dp_congr {m k:M4}:∀{j:Nat},(∀i,i<j→m i i=k i i)→dp m j=dp k j
  |0,_=>rfl
  |j+1,h=>by show dp m j*m j j=dp k j*k j j;rw [dp_congr (j:=j) fun i hi=>h i (by omega),h j (by omega)]
theorem dp_hq {m:M4} {B:Nat} (h:∀i,hq (m i i)≤B):∀j,hq (dp m j)≤1+j*B
  |0=>by show hq ((1:Int):Rat)≤_;rw [show ((1:Int):Rat)=1 by decide +kernel,hq_one];omega
  |j+1=>by
    have:=dp_hq h j;have:=hq_mul (dp m j) (m j j);have:=h j
    show hq (dp m j*m j j)≤_
    rw [Nat.succ_mul];omega
theorem sg_hq {s x:Rat} (hs:s=1∨s= -1):hq (s*x)=hq x:=by
  rcases hs with rfl|rfl
  · rw [show (1:Rat)*x=x by grind]
  · rw [show (-1:Rat)*x= -x by grind,hq_neg]
theorem det_dp {n:Nat} {m:M4} (h4:n≤4) (h:Up (pad n m) n):det4 (pad n m)=dp m n:=by
  rw [det_tri (pad n m) fun r c hc hr=> ?_]
  · have hn : n = 0 ∨ n = 1 ∨ n = 2 ∨ n = 3 ∨ n = 4 := by omega
    have e1:((1:Int):Rat)=1:=by decide +kernel
    rcases hn with rfl|rfl|rfl|rfl|rfl <;> (simp only [dp,e1];simp [pad];try grind)
  · by_cases k : c < n
    · exact h r c k hc hr
    · unfold pad;rw [if_neg (by omega),if_neg (by omega)]
theorem dp_start {m:M4}:((1:Int):Rat)*dp m 0=((1:Int):Rat):=by
  show ((1:Int):Rat)*((1:Int):Rat)=_
  decide +kernel
def Gq (b:Nat):Nat→Nat
  |0=>b
  |j+1=>4*Gq b j+2
theorem Gq_mono (b:Nat):∀{j k:Nat},j≤k→Gq b j≤Gq b k:=fun {j k} h=>by
  induction h with
  |refl=>exact Nat.le_refl _
  |step _ ih=>rw [Gq];omega
structure El (n:Nat) (M0:Mt) (b:Nat) (hs:Sp.HP) (M:Mt) (j:Nat) (s:Rat):Prop where
  sm:Sm hs M n n
  up:Up (pad n (e M)) j
  s1:s=1∨s= -1
  de:det4 (pad n (e M0))=s*det4 (pad n (e M))
  bd:Mx.bd M (Gq b j)
section
variable {n : Nat} {M0 M : Mt} {b : Nat} {hs : Sp.HP} {j : Nat} {s : Rat}
theorem El.start (h:Sm hs M n n) (hd:det4 (pad n (e M0))=det4 (pad n (e M))) (hb:Mx.bd M b):El n M0 b hs M 0 ((1:Int):Rat):=
  ⟨h,fun r c hc=>by omega,.inl (by decide +kernel),by rw [hd,show ((1:Int):Rat)=1 by decide +kernel];grind,hb⟩
theorem El.none (h:El n M0 b hs M j s) (h4:n≤4) (hj:j<n) (hz:∀i,j≤i→i<n→e M i j=0):det4 (pad n (e M0))=((0:Int):Rat):=by
  rw [h.de,det_none (by omega) h.up fun r h1 h2=> ?_]
  · rw [show ((0:Int):Rat)=0 by decide +kernel];grind
  · unfold pad
    split
    · rename_i k;exact hz r h1 k.1
    · rw [if_neg (by omega)]
theorem El.fin (h:El n M0 b hs M n s) (h4:n≤4):s*dp (e M) n=det4 (pad n (e M0)):=by
  rw [h.de,det_dp h4 h.up]
theorem El.swp (h:El n M0 b hs M j s) (h4:n≤4) {k:Nat} (hj:j<k) (hk:k<n):El n M0 b (Sp.sw hs k j) (Mx.swp M k j) j (-s)∧ -(s*dp (e M) j)= -s*dp (e (Mx.swp M k j)) j:=by
  have hjl:=h.sm.mk' (show j<n by omega)
  have hkl:=h.sm.mk' hk
  have ep:pad n (e (Mx.swp M k j))=swr (pad n (e M)) j k:=by
    funext r c
    unfold swr pad
    rw [e_swp hkl hjl]
    have hjn:j<n:=by omega
    have hjk:¬j=k:=by omega
    have hkj:¬k=j:=by omega
    by_cases hc:c<n
    · by_cases h1 : r = j
      · subst h1;simp [hc,hjn,hk,hjk]
      · by_cases h2 : r = k
        · subst h2;simp [hc,hjn,hk,h1]
        · simp [h1,h2]
    · have hjc : ¬ j = c := by omega
      have hkc:¬k=c:=by omega
      by_cases h1:r=j
      · subst h1;simp [hc,hjc,hkc]
      · by_cases h2 : r = k
        · subst h2;simp [hc,hjc,hkc]
        · simp [hc,h1,h2]
  refine ⟨⟨h.sm.swp hk (by omega),by rw [ep];exact up_swr h.up (by omega) (by omega),?_,?_,h.bd.swp hkl hjl⟩,?_⟩
  · rcases h.s1 with e1 | e1
    · exact .inr (by rw [e1])
    · exact .inl (by rw [e1];grind)
  · rw [h.de,ep,det_swr _ (by omega) (by omega) (by omega)];grind
  · rw [dp_congr (m := e (Mx.swp M k j)) (k := e M) fun i hi => by rw [e_swp hkl hjl, if_neg (by omega), if_neg (by omega)]]
    grind
theorem El.dq (h:El n M0 b hs M j s) (h4:n≤4) (hj:j≤n) (hG:Gq b n≤20000):hq (s*dp (e M) j)≤80001:=by
  rw [sg_hq h.s1]
  have h1:=dp_hq (m:=e M) (B:=Gq b j) (fun i=>h.bd i i) j
  have h2:=Gq_mono b hj
  have h3:j*Gq b j≤4*20000:=Nat.mul_le_mul (by omega) (by omega)
  omega
theorem El.es (h:El n M0 b hs M j s) (h4:n≤4) {k:Nat} (hj:j<k) (hk:k<n) (hz:e M k j≠0):e (Mx.swp M k j) j j≠0:=by
  rw [e_swp (h.sm.mk' hk) (h.sm.mk' (by omega)),if_pos rfl];exact hz
structure Ei (n:Nat) (M1 M:Mt) (hs:Sp.HP) (j i B:Nat):Prop where
  sm:Sm hs M n n
  up:Up (pad n (e M)) j
  de:det4 (pad n (e M))=det4 (pad n (e M1))
  zr:∀r,j<r→r<i→e M r j=0
  sa:∀r c,r≤j∨i≤r→e M r c=e M1 r c
  bd:Mx.bd M (4*B+2)
theorem El.ei (h:El n M0 b hs M j s):Ei n M M hs j (j+1) (Gq b j):=⟨h.sm,h.up,rfl,fun r h1 h2=>by omega,fun _ _ _=>rfl,h.bd.up (by omega)⟩
theorem Ei.skip {M1:Mt} {i B:Nat} (h:Ei n M1 M hs j i B) (hz:e M i j=0):Ei n M1 M hs j (i+1) B:=
  ⟨h.sm,h.up,h.de,fun r h1 h2=>by
    by_cases k:r=i
    · rw [k];exact hz
    · exact h.zr r h1 (by omega),fun r c hr=>h.sa r c (by omega),h.bd⟩
theorem Ei.step {M1:Mt} {i B:Nat} (h:Ei n M1 M hs j i B) (h4:n≤4) (hB:Mx.bd M1 B) (hji:j<i) (hi:i<n) (hp:e M j j≠0) {q:Rat} (hq':q=e M i j / e M j j):
    Ei n M1 (M.set i (sb (M.getD i []) (M.getD j []) q j n)) hs j (i+1) B:=by
  have hil:=h.sm.mk' hi
  have hrow:=h.sm.row hi
  have ee:∀r c,e (M.set i (sb (M.getD i []) (M.getD j []) q j n)) r c=if r=i then (if c<n then (if j≤c then e M i c - q*e M j c else e M i c) else 0) else e M r c:=fun r c=>by
    rw [e_set hil]
    split
    · by_cases hc : c < n
      · rw [sb_get (by rw [hrow]; exact hc), if_pos hc]
        by_cases k:j≤c
        · rw [if_pos ⟨k,hc⟩,if_pos k];rfl
        · rw [if_neg (fun z=>k z.1),if_neg k];rfl
      · rw [if_neg hc,List.getD_eq_getElem?_getD,List.getElem?_eq_none (by rw [sb_len];omega)];rfl
    · rfl
  have ep:pad n (e (M.set i (sb (M.getD i []) (M.getD j []) q j n)))=sbr (pad n (e M)) i j q:=by
    funext r c
    unfold sbr
    by_cases h1:r=i
    · subst h1
      rw [if_pos rfl]
      by_cases hc:c<n
      · have z1 : pad n (e M) r c = e M r c := by unfold pad; rw [if_pos ⟨hi, hc⟩]
        have z2:pad n (e M) j c=e M j c:=by unfold pad;rw [if_pos ⟨by omega,hc⟩]
        have z3:pad n (e (M.set r (sb (M.getD r []) (M.getD j []) q j n))) r c=e (M.set r (sb (M.getD r []) (M.getD j []) q j n)) r c:=by unfold pad;rw [if_pos ⟨hi,hc⟩]
        rw [z1,z2,z3,ee,if_pos rfl,if_pos hc]
        split
        · rfl
        · have := h.up j c (by omega) (by omega) (by omega)
          rw [z2] at this
          rw [this];grind
      · unfold pad
        have hrc:¬r=c:=by omega
        have hjc:¬j=c:=by omega
        simp only [hc,hrc,hjc,and_false,if_false];grind
    · rw [if_neg h1]
      unfold pad
      rw [ee,if_neg h1]
  have hqb:hq q≤B+B:=by
    have h1:=hq_div (e M i j) hp
    have h2:=hB i j
    have h3:=hB j j
    rw [← h.sa i j (.inr (Nat.le_refl _))] at h2
    rw [← h.sa j j (.inl (Nat.le_refl _))] at h3
    rw [hq'];omega
  refine ⟨h.sm.setSb hi,by rw [ep];exact up_sbr h.up hji (by omega),by rw [ep,det_sbr _ (by omega) (by omega) (by omega)];exact h.de,fun r h1 h2=> ?_,fun r c hr=> ?_,fun r c=> ?_⟩
  · rw [ee]
    split
    · rename_i k
      rw [if_pos (by omega),if_pos (Nat.le_refl _),hq',Rat.div_mul_cancel hp];grind
    · exact h.zr r h1 (by omega)
  · rw [ee,if_neg (by omega)];exact h.sa r c (by omega)
  · rw [ee]
    split
    · have h2 := hB i c
      have h3:=hB j c
      rw [← h.sa i c (.inr (Nat.le_refl _))] at h2
      rw [← h.sa j c (.inl (Nat.le_refl _))] at h3
      have h5:=hq_mul q (e M j c)
      have h6:=hq_sub (e M i c) (q*e M j c)
      split
      · split <;> omega
      · rw [hq_zero];omega
    · exact h.bd r c
theorem Ei.done {M1:Mt} (h:Ei n M1 M hs j n (Gq b j)) (h1:El n M0 b hs M1 j s) (hj:j<n):El n M0 b hs M (j+1) s∧(∀c,e M j c=e M1 j c)∧dp (e M1) j=dp (e M) j:=by
  refine ⟨⟨h.sm,fun r c hc hr h4=> ?_,h1.s1,by rw [h.de];exact h1.de,h.bd⟩,fun c=>h.sa j c (.inl (Nat.le_refl _)),dp_congr fun i hi=>(h.sa i i (.inl (by omega))).symm⟩
  by_cases k:c=j
  · subst k
    unfold pad
    split
    · rename_i z;exact h.zr r hr z.1
    · rw [if_neg (by omega)]
  · exact h.up r c (by omega) hr h4
end
def Hs (n:Nat) (A:M4) (p:Nat→Rat):Nat→M4
  |0=>fun _ _=>0
  |k+1=>fun r c=>Mx.sm n (fun t=>Hs n A p k r t*A t c)+(if r=c then p (n - k) else 0)
def HM (n:Nat) (A:Mt) (p:Nat→Rat) (k:Nat):Mt:=mk n n (Hs n (e A) p k)
def PM (n:Nat) (S A:Mt):Mt:=mk n n (fun ii jj=>dl (S.getD ii []) ((mk n n (fun ii jj=>e A jj ii)).getD jj []) n)
theorem PM_e {n:Nat} {S A:Mt} {r c:Nat} (hr:r<n) (hc:c<n):e (PM n S A) r c=Mx.sm n (fun t=>e S r t*e A t c):=by
  unfold PM
  rw [mk_e hr hc,dl_sm]
  exact Mx.sm_congr fun t ht=>by
    show e S r t*e (mk n n (fun ii jj=>e A jj ii)) c t=_
    rw [mk_e hc ht]
theorem HM_zero {n:Nat} {A:Mt} {p:Nat→Rat}:XI n ((0:Int):Rat)=HM n A p 0:=by
  unfold HM
  rw [← show mk n n (fun ii jj=>e (XI n ((0:Int):Rat)) ii jj)=XI n ((0:Int):Rat) by unfold XI;exact mk_congr fun i j hi hj=>by rw [mk_e hi hj]]
  exact mk_congr fun i j hi hj=>by
    rw [XI_e hi hj]
    show _=(0:Rat)
    split
    · decide +kernel
    · rfl
theorem HM_step {n:Nat} {A:Mt} {p:Nat→Rat} {k:Nat} {x:Rat} (hx:x=p (n - k)):mk n n (fun ii jj=>e (PM n (HM n A p k) A) ii jj+e (XI n x) ii jj)=HM n A p (k+1):=mk_congr fun i j hi hj=>by
  rw [PM_e hi hj,XI_e hi hj,hx]
  show _=Mx.sm n (fun t=>Hs n (e A) p k i t*e A t j)+_
  rw [Mx.sm_congr (f:=fun t=>e (HM n A p k) i t*e A t j) fun t ht=>by unfold HM;rw [mk_e hi ht]]
theorem sm_hq {n a:Nat} {f:Nat→Rat} (h:∀i,i<n→hq (f i)≤a):hq (Mx.sm n f)≤1+n*(a+1):=by
  induction n with
  |zero=>show hq 0≤_;rw [hq_zero];omega
  |succ n ih=>
    have:=ih fun i hi=>h i (by omega)
    have:=h n (by omega)
    rw [Mx.sm_succ]
    have:=hq_add (Mx.sm n f) (f n)
    rw [Nat.succ_mul];omega
def Hb:Nat→Nat
  |0=>1
  |k+1=>4*Hb k+100
theorem PM_hq {n a:Nat} {S A:Mt} (h4:n≤4) (hS:Mx.bd S a) (hA:Mx.bd A 1):Mx.bd (PM n S A) (4*a+9):=by
  refine mk_bdW (fun i j hi hj=> ?_) (by omega)
  have h1:=PM_e (S:=S) (A:=A) hi hj
  unfold PM at h1
  rw [mk_e hi hj] at h1
  rw [h1]
  have:=sm_hq (n:=n) (a:=a+1) (f:=fun t=>e S i t*e A t j) fun t ht=>by
    have:=hq_mul (e S i t) (e A t j);have:=hS i t;have:=hA t j;omega
  have h2:n*(a+1+1)≤4*(a+1+1):=Nat.mul_le_mul_right _ h4
  omega
theorem Hs_hq {n:Nat} {A:Mt} {p:Nat→Rat} (h4:n≤4) (hA:Mx.bd A 1) (hp:∀i,hq (p i)≤84):∀k,Mx.bd (HM n A p k) (Hb k)
  |0=>mk_bdW (fun i j hi hj=>by show hq (0:Rat)≤1;rw [hq_zero];exact Nat.le_refl _) (Nat.le_refl _)
  |k+1=>by
    rw [← HM_step rfl]
    refine mk_bdW (fun i j hi hj=> ?_) (by show 1≤4*Hb k+100;omega)
    have:=hq_add (e (PM n (HM n A p k) A) i j) (e (XI n (p (n - k))) i j)
    have:=PM_hq h4 (Hs_hq h4 hA hp k) hA i j
    have:=XI_hq (n:=n) (hp (n - k)) i j
    show _≤4*Hb k+100
    omega
theorem Hb_mono:∀{j k:Nat},j≤k→Hb j≤Hb k:=fun {j k} h=>by
  induction h with
  |refl=>exact Nat.le_refl _
  |step _ ih=>rw [Hb];omega
theorem Hs_end (m:M4) {n:Nat} (h1:1≤n) (h4:n≤4) {r c:Nat} (hr:r<n) (hc:c<n):Hs n m (fun i=>(cp m n).getD i 0) (n+1) r c=0:=by
  have hn:n=1∨n=2∨n=3∨n=4:=by omega
  rcases hn with rfl|rfl|rfl|rfl
  · have e1 : r = 0 := by omega
    have e2:c=0:=by omega
    subst e1;subst e2
    simp [Hs,Mx.sm,cp,k3,zed];grind
  · have e1 : r = 0 ∨ r = 1 := by omega
    have e2:c=0∨c=1:=by omega
    rcases e1 with rfl|rfl <;> rcases e2 with rfl|rfl <;> (simp [Hs,Mx.sm,cp,k3,k2,d2,zed];grind)
  · have e1 : r = 0 ∨ r = 1 ∨ r = 2 := by omega
    have e2:c=0∨c=1∨c=2:=by omega
    rcases e1 with rfl|rfl|rfl <;> rcases e2 with rfl|rfl|rfl <;> (simp [Hs,Mx.sm,cp,k3,k2,k1,d3,d2,zed];grind)
  · have e1 : r = 0 ∨ r = 1 ∨ r = 2 ∨ r = 3 := by omega
    have e2:c=0∨c=1∨c=2∨c=3:=by omega
    rcases e1 with rfl|rfl|rfl|rfl <;> rcases e2 with rfl|rfl|rfl|rfl <;> (simp [Hs,Mx.sm,cp,k3,k2,k1,d3,d2,det4];grind)
end Go.Proofs.YtpdbimfnhglhpaaGreat.Dt
namespace Go.Proofs.YtpdbimfnhglhpaaGreat.Sp
open Go
set_option linter.unusedVariables false
set_option maxRecDepth 100000
set_option maxHeartbeats 8000000
theorem zEg {p:Option Addr} {n:Nat} {cap:Nat} {l:List Rat} {p2:Option Addr} {cap2:Nat} {l2:List Rat} (hn:l.length=n) (hn2:l2.length=n) (hn9:n≤64) (hl1:∀i,ye (l.getD i 0)≤100000) (hl2:∀i,ye (l2.getD i 0)≤100000):Con yd 93 [.slice p n cap,.slice p2 n cap2] [] [slF rQ p cap l,slF rQ p2 cap2 l2] (Y:=Wd×Wd) (fun y=>True) (fun y=> .agg #[y.1.b,y.1.l,y.2.b,y.2.l]) (fun y=>[]) (fun y=>[qF true y.1 y.2 (Td.dl l l2 n)]):=by
 refine zk Tryz.func93 rfl rfl rfl (fun c=> ?_)
 show RunC _ _ _ _ _ [(0,.slice p n cap),(1,.slice p2 n cap2)] [] [slF rQ p cap l,slF rQ p2 cap2 l2]
 refine zP 0 rfl (fun hL0=> ?_)
 refine zP 1 rfl (fun hL1=> ?_)
 refine ze<|za<|zM rfl rfl (zA zr32 rfl) (fun b1=> ?_)
 refine zf<|zc<|ze<|za<|zm rfl rfl (.c rfl .n) ce52 (zJa (z:=0) (hz:=cbo)) (.n) ?_
 rintro ⟨w33,w44⟩ -
 dsimp only [aq,nq,cq]
 refine zM rfl rfl (zA zr32 rfl) (fun b5=> ?_)
 refine zl 0 rfl rfl rfl rfl rfl sz32 rfl (.t4 .nil) .z<|zf<|zc<|ze<|ze<|za<|e_mv rfl<|e_p (zv yc rfl)<|e_mv rfl<|zf<|zc<|zt<|zca (X:=Nat×Wd×Wd) (fun x:Nat×Wd×Wd=>x.1≤n) (fun x=>[(11,.int .i64 ((x.1:Nat):Int)),(10,.int .i64 ((n:Nat):Int)),(9,.slice p n cap),(5,.pointer (some ⟨b5,0,none⟩)),(4,.pointer (some ⟨b1,0,none⟩)),(1,.slice p2 n cap2)]) (fun x=>[boxA b5 32 (cw [x.2.1,x.2.2]),boxA b1 32 (cw [wz,wz])]) (fun x=>[qF true x.2.1 x.2.2 (Td.dl l l2 x.1),qF true w33 w44 ((0:Int):Rat),slF rQ p cap l,slF rQ p2 cap2 l2]) (fun x:Nat×Wd×Wd=>n - x.1) (0,w33,w44) (show 0≤n from by exact Nat.zero_le _) ((.e rfl cgs (.of rfl)):SubM _ _) (ho:=((.of [0,0] rfl):PickO _ _ _)) ((.e (j:=0) rfl (by rfl) (.of [0,1,2] rfl)):SelR _ _ _) ?_
 rintro ⟨i,wa,wb⟩ hI
 replace hI:i≤n:=hI
 try dsimp only [cw]
 have hdl:=Td.dl_hq hl1 hl2 i
 have hi1:=hl1 i
 have hi2:=hl2 i
 have hm:=Big.hq_mul (l.getD i 0) (l2.getD i 0)
 have hin:i*(2*100000+1)≤64*(2*100000+1):=Nat.mul_le_mul_right _ (Nat.le_trans hI hn9)
 refine ze<|za<|e_p (zY rfl rfl)<|zf<|zc<|ze<|zD rfl (fun h6=> ?_) (fun h6=> ?_)
 ·
  refine zw<|zc<|ze<|zt<|ze<|za<|e_mv rfl<|r_vl rfl rfl (zQ (x0:=(l.getD i (0:Rat))) 2 i rfl yc sz32 rfl cbo rfl rfl (gD (d:=(0:Rat)) om)) ?_
  rintro ⟨b7,o8,w9,w10⟩ -
  dsimp only [aq,nq,cq]
  refine zqa open_rQ<|e_ru (zO (j:=0) 0 ty32 rfl rfl rfl (.t4 .nil))<|zM rfl rfl (zA zr32 rfl) (fun b11=> ?_)
  refine e_p (zb rfl)<|zl 0 rfl rfl rfl rfl rfl sz32 rfl (.t4 .nil) .z<|zf<|zc<|zab (X:=Unit) (fun x=>True) (fun x=>[(26,.bool (decide ((yi (l.getD i (0:Rat))≠0)∧(yi (l2.getD i (0:Rat))≠0)))),(6,.int .i64 ((i:Nat):Int)),(7,.pointer (some ⟨b11,0,none⟩)),(11,.int .i64 ((i:Nat):Int)),(10,.int .i64 ((n:Nat):Int)),(9,.slice p n cap),(5,.pointer (some ⟨b5,0,none⟩)),(4,.pointer (some ⟨b1,0,none⟩)),(1,.slice p2 n cap2)]) (fun x=>[boxA b11 32 (cw [w9,w10]),boxA b5 32 (cw [wa,wb]),boxA b1 32 (cw [wz,wz])]) (fun x=>[atF b7 o8 [w9.b,w9.l,w10.b,w10.l],qF true w9 w10 (l.getD i (0:Rat)),qF true wa wb (Td.dl l l2 i),qF true w33 w44 ((0:Int):Rat),slF rQ p cap l,slF rQ p2 cap2 l2]) ?_ ?_
  ·
   refine za<|e_ru (zd 0 ty32 rfl rfl (.t4 .nil))<|zR rfl rfl (.c rfl .n) ce80 (znb (k1:=true) (u1:=w9) (v1:=w10) (q1:=(l.getD i (0:Rat)))) (.c (j:=1) rfl .n)<|e_p (zxa rfl rfl)<|zga rfl rfl (zja rfl) (fun h12=> ?_) (fun h12=> ?_)
   ·
    refine e_mv rfl<|e_mv rfl<|r_vl rfl rfl (zQ (x0:=(l2.getD i (0:Rat))) 5 i rfl yc sz32 rfl cbo rfl rfl (gD (d:=(0:Rat)) om)) ?_
    rintro ⟨b13,o14,w15,w17⟩ -
    dsimp only [aq,nq,cq]
    refine zqa open_rQ<|e_ru (zO (j:=0) 0 ty32 rfl rfl rfl (.t4 .nil))<|zR rfl rfl (.c rfl .n) ce80 (znb (k1:=true) (u1:=w15) (v1:=w17) (q1:=(l2.getD i (0:Rat)))) (.c (j:=1) rfl .n)<|e_p (zxa rfl rfl)<|e_p (zE rfl rfl)<|zf ?_
    exact zla () tt9 ((.e rfl (congrArg Value.bool cbu) (.of rfl)):SubM _ _) (ho:=((.of [0,0,0] rfl):PickO _ _ _)) ((.of [2,3,4,5,6,7] rfl):SelR _ _ _)
   ·
    refine e_no<|e_no<|e_no<|e_no<|e_no<|e_no<|e_p (zE rfl rfl)<|zf ?_
    exact zla () tt9 ((.e rfl (congrArg Value.bool cbu) (.of rfl)):SubM _ _) (ho:=((.of [0,0,0] rfl):PickO _ _ _)) ((.of [0,1,2,3,4,5] rfl):SelR _ _ _)
  ·
   rintro ⟨⟩ -
   try dsimp only [cw]
   refine zD rfl (fun h26=> ?_) (fun h26=> ?_)
   ·
    refine zpa (.c (i:=1) rfl (.c (i:=0) rfl (.c (i:=0) rfl .n)))<|zW (OW:=[boxA b5 32 (cw [wa,wb])]) (O:=[boxA b11 32 (cw [w9,w10]),boxA b1 32 (cw [wz,wz])]) 8 mixed (.block (.then (.then (.block (.then .ret))))) kr<|e_uw 0 rfl rfl (zd 0 ty32 rfl rfl (.t4 .nil))<|e_uw 1 rfl rfl (zd 1 ty32 rfl rfl (.t4 .nil))<|e_dm 2 rfl rfl rfl<|e_dm 3 rfl rfl rfl<|d_vl 4 rfl rfl kr kr rfl rfl (zQ (x0:=(l2.getD i (0:Rat))) 5 i rfl yc sz32 rfl cbo rfl rfl (gD (d:=(0:Rat)) om)) ?_
    rintro ⟨b18,o19,w20,w21⟩ -
    dsimp only [aq,nq,cq]
    refine zQa open_rQ<|e_u 5 rfl rfl (zO (j:=0) 0 ty32 rfl rfl rfl (.t4 .nil))<|e_one 6 (zB rfl rfl rfl rfl (.c rfl (.c rfl .n)) ce56 (zsb (k1:=true) (u1:=w9) (v1:=w10) (q1:=(l.getD i (0:Rat))) (k2:=true) (u2:=w20) (v2:=w21) (q2:=(l2.getD i (0:Rat))) (hl:=cbo)) (.c (j:=3) rfl (.c (j:=1) rfl .n)) ?_)
    rintro ⟨w322,w423⟩ -
    dsimp only [aq,nq,cq]
    refine e_one 7 (zB rfl rfl rfl rfl (.c rfl (.c rfl .n)) ce57 (zrb (k1:=true) (u1:=wa) (v1:=wb) (q1:=(Td.dl l l2 i)) (k2:=true) (u2:=w322) (v2:=w423) (q2:=(l.getD i (0:Rat))*(l2.getD i (0:Rat))) (hl:=cbo)) (.c (j:=5) rfl (.c (j:=0) rfl .n)) ?_)
    rintro ⟨w324,w425⟩ -
    dsimp only [aq,nq,cq]
    refine e_one 8 (zC kr rfl rfl rfl rfl rfl sz32 rfl (.t4 .nil) ?_)
    refine zU kr<|zK<|zc<|za<|e_p (zJ (z:=(((i+1):Nat):Int)) rfl rfl (w64 om))<|e_mv rfl<|zf<|zV ((i+1),w324,w425) (show (i+1)≤n from by show i+1≤n;omega) (by show n - (i+1)<n - i;omega) (mR rfl) (ho:=((.of [0,1] rfl):PickO _ _ _)) ((.e (j:=0) rfl (by rfl) (.of [7,8,9] rfl)):SelR _ _ _)
   ·
    refine zw<|zK<|zc<|za<|e_p (zJ (z:=(((i+1):Nat):Int)) rfl rfl (w64 om))<|e_mv rfl<|zf<|zV ((i+1),wa,wb) (show (i+1)≤n from by show i+1≤n;omega) (by show n - (i+1)<n - i;omega) (mR rfl) (ho:=((.of [1,1] rfl):PickO _ _ _)) ((.e (j:=2) rfl (by rw [← Td.dl_skip (by first|exact Td.dl_zero h26|exact Td.dl_zero1 h26 h17)]) (.of [3,4,5] rfl)):SelR _ _ _)
 ·
  refine zaa<|zg<|zg<|zp<|zc<|ze<|za<|e_ru (zd 0 ty32 rfl rfl (.t4 .nil))<|zl 1 rfl rfl rfl rfl rfl sz32 rfl (.t4 .nil) (.s .z)<|zf<|zc<|zG ?_
  exact zx Tryz.results93 (wa,wb) trivial (zq 1 ty32 rfl rfl (.t4 .nil)) rfl (ho:=oN) ((.e (j:=0) rfl (by rw [show i=n by omega]) .n):SelR _ _ _)
theorem zig {i0:Nat} {j0:Nat} {bA:Nat} {pA:Option Addr} {nA:Nat} {cA:Nat} {A:List (List Rat)} {bB:Nat} {pB:Option Addr} {nB:Nat} {cB:Nat} {B:List (List Rat)} {n9:Nat} (hnA:A.length=nA) (hnB:B.length=nB) (hrA:∀i,i<nA→(A.getD i []).length=n9) (hrB:∀i,i<nB→(B.getD i []).length=n9) (hqA:Mx.bd A 100000) (hqB:Mx.bd B 100000) (hn9:n9≤64) (hi0:i0<nA) (hj0:j0<nB):Con yd 92 [.int .i64 ((i0:Nat):Int),.int .i64 ((j0:Nat):Int),.pointer (some ⟨bA,0,none⟩),.pointer (some ⟨bB,0,none⟩)] [] [atF bA 0 [.slice pA nA cA],slF (rS rQ) pA cA A,atF bB 0 [.slice pB nB cB],slF (rS rQ) pB cB B] (Y:=Wd×Wd) (fun y=>True) (fun y=> .agg #[y.1.b,y.1.l,y.2.b,y.2.l]) (fun y=>[]) (fun y=>[qF true y.1 y.2 (Td.dl (A.getD i0 []) (B.getD j0 []) n9)]):=by
 refine zk Tryz.func92 rfl rfl rfl (fun c=> ?_)
 show RunC _ _ _ _ _ [(0,.int .i64 ((i0:Nat):Int)),(1,.int .i64 ((j0:Nat):Int)),(2,.pointer (some ⟨bA,0,none⟩)),(3,.pointer (some ⟨bB,0,none⟩))] [] [atF bA 0 [.slice pA nA cA],slF (rS rQ) pA cA A,atF bB 0 [.slice pB nB cB],slF (rS rQ) pB cB B]
 refine zP 1 rfl (fun hL1=> ?_)
 refine zP 3 rfl (fun hL3=> ?_)
 have hra:=hrA i0 hi0
 have hrb:=hrB j0 hj0
 refine ze<|za<|zM rfl rfl (zA zr32 rfl) (fun b1=> ?_)
 refine zf<|zc<|ze<|zW (OW:=[boxA b1 32 (cw [wz,wz])]) (O:=[]) 9 mixed (.then .ret) kr<|e_u 0 rfl rfl (zh (j:=0) 0 ty60 rfl rfl rfl rfl)<|e_dm 1 rfl rfl rfl<|d_vl 2 rfl rfl kr kr rfl rfl (zQ (x0:=(A.getD i0 [])) 1 i0 rfl yb sz62 rfl (by first|rfl|assumption|omega|(simp;done)) rfl rfl (gD (d:=[]) om)) ?_
 rintro ⟨b2,o3,p4,c5⟩ -
 dsimp only [aq,nq,cq]
 refine e_u 3 rfl rfl (zh (j:=0) 0 ty62 rfl rfl rfl rfl)<|e_u 4 rfl rfl (zh (j:=0) 4 ty60 rfl rfl rfl rfl)<|e_dm 5 rfl rfl rfl<|d_vl 6 rfl rfl kr kr rfl rfl (zQ (x0:=(B.getD j0 [])) 5 j0 rfl yb sz62 rfl (by first|rfl|assumption|omega|(simp;done)) rfl rfl (gD (d:=[]) om)) ?_
 rintro ⟨b6,o7,p8,c9⟩ -
 dsimp only [aq,nq,cq]
 refine e_u 7 rfl rfl (zh (j:=0) 0 ty62 rfl rfl rfl rfl) ?_
 have e10:(.slice p4 ((A.getD i0 []).length) c5:Value)= .slice p4 n9 c5:=by rw [hra]
 rw [e10]
 have e11:(.slice p8 ((B.getD j0 []).length) c9:Value)= .slice p8 n9 c9:=by rw [hrb]
 rw [e11]
 refine e_one 8 (zB rfl rfl rfl rfl (.c rfl (.c rfl .n)) ce93 (zEg (p:=p4) (n:=n9) (cap:=c5) (l:=(A.getD i0 [])) (p2:=p8) (cap2:=c9) (l2:=(B.getD j0 [])) (hn:=cbo) (hn2:=cbo) (hn9:=ass) (hl1:=by exact fun c=>hqA i0 c) (hl2:=by exact fun c=>hqB j0 c)) (.c (j:=3) rfl (.c (j:=1) rfl .n)) ?_)
 rintro ⟨w312,w413⟩ -
 dsimp only [aq,nq,cq]
 refine e_one 9 (zC kr rfl rfl rfl rfl rfl sz32 rfl (.t4 .nil) ?_)
 refine zU kr<|zc<|zG ?_
 exact zx Tryz.results92 (w312,w413) trivial (zq 0 ty32 rfl rfl (.t4 .nil)) rfl (ho:=oN) (s0 rfl)
theorem znf {K:Nat} {N:Nat} {bA:Nat} {pA:Option Addr} {nA:Nat} {cA:Nat} {A:List (List Rat)} {bB:Nat} {pB:Option Addr} {nB:Nat} {cB:Nat} {B:List (List Rat)} {n9:Nat} (hK:K≤64) (hN:N≤70) (hnA:A.length=nA) (hnB:B.length=nB) (hrA:∀i,i<nA→(A.getD i []).length=n9) (hrB:∀i,i<nB→(B.getD i []).length=n9) (hqA:Mx.bd A 100000) (hqB:Mx.bd B 100000) (hn9:n9≤64) (hKA:K=nA) (hNB:N=nB):Con yd 86 [.int .i64 ((K:Nat):Int),.int .i64 ((N:Nat):Int),.func (.func 92) #[] #[.pointer (some ⟨bA,0,none⟩),.pointer (some ⟨bB,0,none⟩)]] [] [atF bA 0 [.slice pA nA cA],slF (rS rQ) pA cA A,atF bB 0 [.slice pB nB cB],slF (rS rQ) pB cB B] (Y:=(Option Addr)×Nat×HP) (fun y=>y.2.2.length=K) (fun y=> .slice (y.1) K (y.2.1)) (fun y=>[rowA 62 rV (y.1) (y.2.1) (oh y.2.2 N),rowsM 32 rQ (y.2.2) (Mx.mk K N (fun ii jj=>Td.dl (A.getD ii []) (B.getD jj []) n9))]) (fun y=>[]):=by
 refine zk Tryz.func86 rfl rfl rfl (fun c=> ?_)
 show RunC _ _ _ _ _ [(0,.int .i64 ((K:Nat):Int)),(1,.int .i64 ((N:Nat):Int)),(2,.func (.func 92) #[] #[.pointer (some ⟨bA,0,none⟩),.pointer (some ⟨bB,0,none⟩)])] [] [atF bA 0 [.slice pA nA cA],slF (rS rQ) pA cA A,atF bB 0 [.slice pB nB cB],slF (rS rQ) pB cB B]
 refine zP 1 rfl (fun hL1=> ?_)
 refine zP 3 rfl (fun hL3=> ?_)
 refine ze<|za<|e_p (zb rfl)<|zf<|zc<|ze<|za<|e_mv rfl<|zma rfl rfl (zua (r:=rV) (k:=K) (x0:=(none,0,0)) (γ0:=()) yb inf62 rfl rfl rfl rfl om om rfl (fun g _=>by trivial) dd) (fun b1 _=> ?_)
 refine e_p (zb rfl)<|zf<|zc<|ze<|ze<|zjd (fun w mm=>mm.rmNil 32 rQ) ?_
 have e2:(List.replicate K (none,0,0):List (Option Addr×Nat×Nat))=(Mx.oz ([]:HP) N K):=by exact Mx.oz_start N K
 rw [e2]
 refine za<|e_mv rfl<|e_p (zv yb rfl)<|e_mv rfl<|zf<|zc<|zt<|zca (X:=Nat×HP) (fun x:Nat×HP=>x.1≤K∧x.2.length=x.1) (fun x=>[(14,.int .i64 ((x.1:Nat):Int)),(13,.int .i64 ((K:Nat):Int)),(7,.slice (some ⟨b1,0,none⟩) K K),(6,.slice none 0 0),(1,.int .i64 ((N:Nat):Int)),(2,.func (.func 92) #[] #[.pointer (some ⟨bA,0,none⟩),.pointer (some ⟨bB,0,none⟩)])]) (fun x=>[rowsM 32 rQ (x.2) (Mx.mk x.1 N (fun ii jj=>Td.dl (A.getD ii []) (B.getD jj []) n9)),rowA 62 rV (some ⟨b1,0,none⟩) K (Mx.oz x.2 N K)]) (fun x=>[atF bA 0 [.slice pA nA cA],slF (rS rQ) pA cA A,atF bB 0 [.slice pB nB cB],slF (rS rQ) pB cB B]) (fun x:Nat×HP=>K - x.1) (0,([]:HP)) (show 0≤K∧([]:HP).length=0 from by exact ⟨Nat.zero_le _,rfl⟩) ((.e rfl cgs (.of rfl)):SubM _ _) (ho:=((.e (i:=0) rfl (by rfl) (.c (i:=0) rfl .n)):PickO _ _ _)) ((.of [0,1,2,3] rfl):SelR _ _ _) ?_
 rintro ⟨i,hs⟩ hI
 replace hI:i≤K∧hs.length=i:=hI
 try dsimp only
 obtain ⟨hi,hlen⟩:=hI
 refine ze<|za<|e_p (zY rfl rfl)<|zf<|zc<|ze<|zD rfl (fun h3=> ?_) (fun h3=> ?_)
 ·
  refine zw<|zc<|ze<|zt<|ze<|za<|e_mv rfl<|e_p (zb rfl)<|zf<|zc<|ze<|za<|e_mv rfl<|e_mv rfl<|e_mv rfl<|zma rfl rfl (zua (r:=rE) (k:=N) (x0:=(none:Option Rat)) (γ0:=(wz,wz)) yc inf32 rfl rfl rfl rfl om om rfl (fun g _=>eF_wz g) dd) (fun b4 _=> ?_)
  refine e_p (zI (j:=i) yb sz62 rfl rfl rfl om)<|zya 2 rfl rfl rfl (zL (j:=i) (x0:=(some ⟨b4,0,none⟩,N,N)) (γ0:=()) rfl rfl (by first|omega|(rw [Mx.oz_len om];omega)|(rw [Mx.fil_len];omega)) rfl rfl sz62 (fun _ _=>by trivial)) (fun _=>(.s (.s .z))) (fun _ _=> ?_)
  refine zf<|zc<|ze ?_
  have e5:(((Mx.oz hs N K).set i (some ⟨b4,0,none⟩,N,N)):List (Option Addr×Nat×Nat))=(Mx.oz (hs++[((some ⟨b4,0,none⟩:Option Addr),N)]) N K):=by exact Mx.oz_step' hlen om
  rw [e5]
  have e6:(List.replicate N (none:Option Rat):List (Option Rat))=(Mx.fil 0 N (fun jj=>Td.dl (A.getD i []) (B.getD jj []) n9)):=by exact Mx.fil_start N _
  rw [e6]
  refine za<|e_mv rfl<|e_mv rfl<|e_p (zI (j:=i) yb sz62 rfl rfl rfl om)<|r_vl rfl rfl (zN (x0:=(some ⟨b4,0,none⟩,N,N)) (v:= .slice (some ⟨b4,0,none⟩) N N) 2 i rfl ty62 rfl rfl (by exact Mx.oz_last (K:=K) om) rfl) (fun _ hok7=> ?_)
  refine e_p (zv yc rfl)<|e_mv rfl<|zf<|zc<|zt<|zca (X:=Nat) (fun x:Nat=>x≤N) (fun x=>[(27,.int .i64 ((x:Nat):Int)),(26,.int .i64 ((N:Nat):Int)),(8,.int .i64 ((i:Nat):Int)),(14,.int .i64 ((i:Nat):Int)),(13,.int .i64 ((K:Nat):Int)),(7,.slice (some ⟨b1,0,none⟩) K K),(6,.slice none 0 0),(1,.int .i64 ((N:Nat):Int)),(2,.func (.func 92) #[] #[.pointer (some ⟨bA,0,none⟩),.pointer (some ⟨bB,0,none⟩)])]) (fun x=>[rowA 32 rE (some ⟨b4,0,none⟩) N (Mx.fil x N (fun jj=>Td.dl (A.getD i []) (B.getD jj []) n9)),rowsM 32 rQ hs (Mx.mk i N (fun ii jj=>Td.dl (A.getD ii []) (B.getD jj []) n9)),rowA 62 rV (some ⟨b1,0,none⟩) K (Mx.oz (hs++[((some ⟨b4,0,none⟩:Option Addr),N)]) N K)]) (fun x=>[atF bA 0 [.slice pA nA cA],slF (rS rQ) pA cA A,atF bB 0 [.slice pB nB cB],slF (rS rQ) pB cB B]) (fun x:Nat=>N - x) 0 (show 0≤N from by exact Nat.zero_le _) ((.e rfl cgs (.of rfl)):SubM _ _) (ho:=((.of [0,0,0] rfl):PickO _ _ _)) ((.of [0,1,2,3] rfl):SelR _ _ _) ?_
  rintro j hJ
  replace hJ:j≤N:=hJ
  try dsimp only
  refine ze<|za<|e_p (zY rfl rfl)<|zf<|zc<|ze<|zD rfl (fun h8=> ?_) (fun h8=> ?_)
  ·
   refine zw<|zc<|ze<|zt<|ze<|za<|e_mv rfl<|e_p (zb rfl)<|zf<|zc<|zW (OW:=[rowA 32 rE (some ⟨b4,0,none⟩) N (Mx.fil j N (fun jj=>Td.dl (A.getD i []) (B.getD jj []) n9))]) (O:=[rowsM 32 rQ hs (Mx.mk i N (fun ii jj=>Td.dl (A.getD ii []) (B.getD jj []) n9)),rowA 62 rV (some ⟨b1,0,none⟩) K (Mx.oz (hs++[((some ⟨b4,0,none⟩:Option Addr),N)]) N K)]) 10 mixed (.block (.then (.then (.block (.block (.then (.then (.block (.then .ret))))))))) kr<|e_dm 0 rfl rfl rfl<|e_dm 1 rfl rfl rfl<|e_pv 2 rfl rfl (zI (j:=i) yb sz62 rfl rfl rfl om)<|zvb 3 rfl rfl kr kr kr rfl rfl (zN (x0:=(some ⟨b4,0,none⟩,N,N)) (v:= .slice (some ⟨b4,0,none⟩) N N) 2 i rfl ty62 rfl rfl (by exact Mx.oz_last (K:=K) om) rfl) (fun _ hok9=> ?_)
   refine e_dm 4 rfl rfl rfl<|e_dm 5 rfl rfl rfl<|e_dm 6 rfl rfl rfl<|e_dm 7 rfl rfl rfl<|e_one 8 (ztc (first:=[]) (cap:=[.pointer (some ⟨bA,0,none⟩),.pointer (some ⟨bB,0,none⟩)]) rfl rfl rfl rfl rfl (.c rfl (.c rfl .n)) ce92 (zig (i0:=i) (j0:=j) (bA:=bA) (pA:=pA) (nA:=nA) (cA:=cA) (A:=A) (bB:=bB) (pB:=pB) (nB:=nB) (cB:=cB) (B:=B) (n9:=n9) (hnA:=ass) (hnB:=ass) (hrA:=ass) (hrB:=ass) (hqA:=ass) (hqB:=ass) (hn9:=ass) (hi0:=cbo) (hj0:=cbo)) (.c (j:=0) rfl (.c (j:=1) rfl (.c (j:=2) rfl (.c (j:=3) rfl .n)))) ?_)
   rintro ⟨w310,w411⟩ -
   dsimp only [aq,nq,cq]
   refine e_pv 9 rfl rfl (zI (j:=j) yc sz32 rfl rfl rfl om)<|e_one 10 (zQb (A':=fun _=>rowA 32 rE (some ⟨b4,0,none⟩) N ((Mx.fil j N (fun jj=>Td.dl (A.getD i []) (B.getD jj []) n9)).set j (some (Td.dl (A.getD i []) (B.getD j []) n9)))) kr rfl rfl rfl (zL (r:=rE) (j:=j) (x0:=(some (Td.dl (A.getD i []) (B.getD j []) n9))) (γ0:=(w310,w411)) rfl rfl (by first|omega|(rw [Mx.oz_len om];omega)|(rw [Mx.fil_len];omega)) rfl rfl sz32 (fun g hr=>qF_e (Holds.get 0 rfl hr))) (fun _ _=> ?_))
   refine zU kr<|zK<|zc<|za<|e_p (zJ (z:=(((j+1):Nat):Int)) rfl rfl (w64 om))<|e_mv rfl<|zf<|zV (j+1) (show (j+1)≤N from by show j+1≤N;omega) (by show N - (j+1)<N - j;omega) (mR rfl) (ho:=((.e (i:=0) rfl (by first|rfl|(rw [Mx.fil_step om])) (.of [0,0] rfl)):PickO _ _ _)) ((.of [1,2,3,4] rfl):SelR _ _ _)
  ·
   refine zaa<|zg<|zg<|zp<|zK<|zc<|za<|e_p (zJ (z:=(((i+1):Nat):Int)) rfl rfl (w64 om))<|e_mv rfl<|zf<|zib (fun w mm=>mm.rowEQ (l2:=((List.range N).map (fun jj=>Td.dl (A.getD i []) (B.getD jj []) n9))) 0 rfl (by rw [show j=N by omega];exact Mx.fil_end N _)) ?_
   try dsimp only [List.eraseIdx]
   refine zib (fun w mm=>mm.rmSnoc 0 0 rfl rfl (by rw [Mx.mk_len];exact hlen)) ?_
   try dsimp only [List.eraseIdx]
   refine zV ((i+1),(hs++[((some ⟨b4,0,none⟩:Option Addr),N)])) (show (i+1)≤K∧(hs++[((some ⟨b4,0,none⟩:Option Addr),N)]).length=(i+1) from by exact ⟨by omega,by rw [List.length_append,hlen];rfl⟩) (by show K - (i+1)<K - i;omega) (mR rfl) (ho:=((.e (i:=0) rfl (by first|rfl|(rw [Mx.mk_succ])) (.c (i:=0) rfl .n)):PickO _ _ _)) ((.of [0,1,2,3] rfl):SelR _ _ _)
 ·
  refine zaa<|zg<|zg<|zp<|zc<|ze<|za<|e_mv rfl<|e_p (zb rfl)<|zf<|zc<|zG ?_
  have e12:((Mx.oz hs N K):List (Option Addr×Nat×Nat))=(oh hs N):=by exact Mx.oz_end (hlen.trans om)
  rw [e12]
  have e13:(Mx.mk i N (fun ii jj=>Td.dl (A.getD ii []) (B.getD jj []) n9))=(Mx.mk K N (fun ii jj=>Td.dl (A.getD ii []) (B.getD jj []) n9)):=by rw [show i=K by omega]
  rw [e13]
  exact zx Tryz.results86 (some ⟨b1,0,none⟩,K,hs) (hlen.trans om) (zo rfl) rfl (ho:=((.of [1,0] rfl):PickO _ _ _)) sN
theorem zhd {p:Option Addr} {n:Nat} {cap:Nat} {L:List (List (List Rat))} (hn:L.length=n) (hall:∀i,i<n→Dt.okM (L.getD i [])):Con yd 90 [.slice p n cap] [] [slF (rS (rS rQ)) p cap L] (Y:=Unit) (fun y=>True) (fun y=> .int .i64 0) (fun y=>[]) (fun y=>[]):=by
 refine zk Tryz.func90 rfl rfl rfl (fun c=> ?_)
 show RunC _ _ _ _ _ [(0,.slice p n cap)] [] [slF (rS (rS rQ)) p cap L]
 refine zP 0 rfl (fun hL0=> ?_)
 refine ze<|za<|e_p (zb rfl)<|zf<|zc<|ze<|ze<|za<|e_mv rfl<|e_p (zv yf rfl)<|e_mv rfl<|zf<|zc<|zt<|zca (X:=Nat) (fun x:Nat=>x≤n) (fun x=>[(8,.int .i64 ((x:Nat):Int)),(7,.int .i64 ((n:Nat):Int)),(6,.slice p n cap)]) (fun x=>[]) (fun x=>[slF (rS (rS rQ)) p cap L]) (fun x:Nat=>n - x) 0 (show 0≤n from by exact Nat.zero_le _) ((.e rfl cgs (.c rfl (.c rfl .n))):SubM _ _) (ho:=oN) (s0 rfl) ?_
 rintro i hI
 replace hI:i≤n:=hI
 try dsimp only
 refine ze<|za<|e_p (zY rfl rfl)<|zf<|zc<|ze<|zD rfl (fun h1=> ?_) (fun h1=> ?_)
 ·
  refine zw<|zc<|ze<|zt<|ze<|za<|r_vl rfl rfl (zQ (x0:=(L.getD i [])) 0 i rfl yf sz60 rfl cbo rfl rfl (gD (d:=[]) om)) ?_
  rintro ⟨b2,o3,p4,c5⟩ -
  dsimp only [aq,nq,cq]
  refine e_ru (zh (j:=0) 0 ty60 rfl rfl rfl rfl)<|e_p (zb rfl)<|zf<|zc<|ze<|za<|e_mv rfl<|zR rfl rfl (.c rfl .n) ce19 (zmc (pM:=p4) (nM:=(L.getD i []).length) (cM:=c5) (M:=(L.getD i [])) (hnM:=by rfl) (hM1:=by exact (hall i om).1.1) (hU:=by exact (hall i om).2.2) (hK:=by exact (hall i om).1.2) (hN:=by exact (hall i om).2.1)) (.c (j:=1) rfl .n)<|e_p (zb rfl)<|zf<|zc<|ze<|za<|e_mv rfl<|e_p (zxa rfl rfl)<|zf<|zc<|zoa rfl rfl<|zw<|zK<|zc<|za<|e_p (zJ (z:=(((i+1):Nat):Int)) rfl rfl (w64 om))<|e_mv rfl<|zf<|zV (i+1) (show (i+1)≤n from by show i+1≤n;omega) (by show n - (i+1)<n - i;omega) (mR rfl) (ho:=oN) ((.c (j:=2) rfl .n):SelR _ _ _)
 ·
  refine zaa<|zg<|zg<|zp<|zc<|ze<|za<|e_p (zb rfl)<|zf<|zc<|zG ?_
  exact zx Tryz.results90 () trivial (zo rfl) rfl (ho:=oN) sN
theorem zRd {pA:Option Addr} {nA:Nat} {cA:Nat} {A:List (List Rat)} {pB:Option Addr} {cB:Nat} {B:List (List Rat)} {N:Nat} (hnA:A.length=nA) (hrA:∀i,i<nA→(A.getD i []).length=N) (hnB:B.length=nA) (hrB:∀i,i<nA→(B.getD i []).length=N) (h1:1≤nA∧nA≤64) (h2:1≤N∧N≤64):Con yd 94 [.slice pA nA cA,.slice pB nA cB] [] [slF (rS rQ) pA cA A,slF (rS rQ) pB cB B] (Y:=Unit) (fun y=>True) (fun y=> .int .i64 0) (fun y=>[]) (fun y=>[]):=by
 refine zk Tryz.func94 rfl rfl rfl (fun c=> ?_)
 show RunC _ _ _ _ _ [(0,.slice pA nA cA),(1,.slice pB nA cB)] [] [slF (rS rQ) pA cA A,slF (rS rQ) pB cB B]
 refine zP 0 rfl (fun hL0=> ?_)
 refine zP 1 rfl (fun hL1=> ?_)
 have hA0:=hrA 0 om
 have hUA:∀i,i<nA→(A.getD i []).length=(A.getD 0 []).length:=fun i hi=>by rw [hrA i hi,hA0]
 have hB0:=hrB 0 om
 refine ze<|za<|e_p (zb rfl)<|zf<|zc<|ze<|ze<|za<|e_mv rfl<|e_mv rfl ?_
 have e1:(.slice pA nA cA:Value)= .slice pA (A.length) cA:=by rw [hnA]
 rw [e1]
 have e2:(.slice pB nA cB:Value)= .slice pB (B.length) cB:=by rw [hnB]
 rw [e2]
 refine zma rfl rfl (zka (r:=rS (rS rQ)) (k:=2) yf inf60 rfl dd dd dd (.c (x:=A) (cs:=[.slice pA (A.length) cA]) (pA,cA) rfl rfl rfl (fun g hr=>Holds.get 0 rfl hr) (.c (x:=B) (cs:=[.slice pB (B.length) cB]) (pB,cB) rfl rfl rfl (fun g hr=>Holds.get 1 rfl hr) .n))) (fun b3 _=> ?_)
 have e4:(.slice pA (A.length) cA:Value)= .slice pA nA cA:=by rw [hnA]
 rw [e4]
 have e5:(.slice pB (B.length) cB:Value)= .slice pB nA cB:=by rw [hnB]
 rw [e5]
 refine zea 0 rfl .z<|zR rfl rfl (.c rfl .n) ce90 (zhd (p:=some ⟨b3,0,none⟩) (n:=2) (cap:=2) (L:=[A,B]) (hn:=by rfl) (hall:=by exact Dt.okM_two (Dt.okM_of hnA hrA h1 h2) (Dt.okM_of hnB hrB h1 h2))) (.c (j:=0) rfl .n)<|e_p (zb rfl)<|zf<|zc<|ze<|za<|e_mv rfl<|e_p (zxa rfl rfl)<|zf<|zc<|zoa rfl rfl<|zw<|zc<|ze<|zab (X:=Unit) (fun x=>True) (fun x=>[(28,.bool (decide ((((nA:Nat):Int)≠((nA:Nat):Int))∨((((A.getD 0 []).length:Nat):Int)≠(((B.getD 0 []).length:Nat):Int))))),(4,.int .i64 0)]) (fun x=>[]) (fun x=>[slF (rS (rS rQ)) (some ⟨b3,0,none⟩) 2 ([A,B]),slF (rS rQ) pA cA A,slF (rS rQ) pB cB B]) ?_ ?_
 ·
  refine zW (OW:=[]) (O:=[emA]) 100000 mixed (.then (.then .ret)) kr<|e_dm 0 rfl rfl rfl<|e_pv 1 rfl rfl (zv yb rfl)<|e_dm 2 rfl rfl rfl<|e_pv 3 rfl rfl (zv yb rfl)<|e_pv 4 rfl rfl (zxa rfl rfl)<|zEe 5 rfl rfl kr kr rfl rfl (zja rfl) (fun h6=> ?_) (fun h6=> ?_)
  ·
   refine e_skip 6 rfl rfl<|e_skip 7 rfl rfl<|e_skip 8 rfl rfl<|e_skip 9 rfl rfl<|e_skip 10 rfl rfl<|e_skip 11 rfl rfl<|e_skip 12 rfl rfl<|e_skip 13 rfl rfl<|e_skip 14 rfl rfl<|e_pv 15 rfl rfl (zE rfl rfl)<|zU kr ?_
   exact zla () tt9 ((.e rfl (congrArg Value.bool cbu) (.c rfl .n)):SubM _ _) (ho:=oN) ((.of [0,1,2] rfl):SelR _ _ _)
  ·
   refine e_dm 6 rfl rfl rfl<|d_vl 7 rfl rfl kr kr rfl rfl (zQ (x0:=(A.getD 0 [])) 1 0 rfl yb sz62 rfl cbo rfl rfl (gD (d:=[]) om)) ?_
   rintro ⟨b7,o8,p9,c10⟩ -
   dsimp only [aq,nq,cq]
   refine e_u 8 rfl rfl (zh (j:=0) 0 ty62 rfl rfl rfl rfl)<|e_pv 9 rfl rfl (zv yc rfl)<|e_dm 10 rfl rfl rfl<|d_vl 11 rfl rfl kr kr rfl rfl (zQ (x0:=(B.getD 0 [])) 4 0 rfl yb sz62 rfl cbo rfl rfl (gD (d:=[]) om)) ?_
   rintro ⟨b11,o12,p13,c14⟩ -
   dsimp only [aq,nq,cq]
   refine e_u 12 rfl rfl (zh (j:=0) 0 ty62 rfl rfl rfl rfl)<|e_pv 13 rfl rfl (zv yc rfl)<|e_pv 14 rfl rfl (zxa rfl rfl)<|e_pv 15 rfl rfl (zE rfl rfl)<|zU kr ?_
   exact zla () tt9 ((.e rfl (congrArg Value.bool cbu) (.c rfl .n)):SubM _ _) (ho:=oN) ((.of [4,5,6] rfl):SelR _ _ _)
 ·
  rintro ⟨⟩ -
  try dsimp only
  refine zD rfl (fun h28=> ?_) (fun h28=> ?_)
  ·
   omega
  ·
   refine zw<|zc<|ze<|za<|e_p (zb rfl)<|zf<|zc<|zG ?_
   exact zx Tryz.results94 () trivial (zo rfl) rfl (ho:=oN) sN
theorem zgc {n:Nat} (h1:1≤n∧n≤64):Con yd 27 [.int .i64 ((n:Nat):Int)] [] [] (Y:=(Option Addr)×Nat) (fun y=>True) (fun y=> .tuple #[.slice (y.1) n (y.2),.int .i64 0]) (fun y=>[]) (fun y=>[slF (rS rQ) (y.1) (y.2) (Mx.mk n n (fun ii jj=>Td.un ii jj))]):=by
 refine zk Tryz.func27 rfl rfl rfl (fun c=> ?_)
 show RunC _ _ _ _ _ [(0,.int .i64 ((n:Nat):Int))] [] []
 refine ze<|za<|e_p (zb rfl)<|e_p (zb rfl)<|zf<|zc<|ze<|ze<|za<|e_mv rfl<|e_p (zY rfl rfl) ?_
 rw [show (decide (((n:Nat):Int)<1))=false from by exact decide_eq_false om]
 refine e_mv rfl<|e_mv rfl<|e_p (zra rfl rfl) ?_
 rw [show (decide (64<((n:Nat):Int)))=false from by exact decide_eq_false om]
 refine e_p (zE rfl rfl)<|zf<|zc<|zoa rfl rfl<|zw<|zc<|ze<|za<|e_mv rfl<|e_mv rfl<|zm rfl rfl (.c rfl (.c rfl (.c rfl .n))) ce86 (zZf (K:=n) (N:=n) (hK:=by first|rfl|assumption|omega|exact ⟨by omega,by omega⟩) (hN:=by first|rfl|assumption|omega|exact ⟨by omega,by omega⟩)) (.n) ?_
 rintro ⟨p31,c32,hs3⟩ hsl
 dsimp only [aq,nq,cq]
 replace hsl:hs3.length=n:=hsl
 refine e_p (zb rfl)<|e_p (zb rfl)<|zf<|zc<|zG<|zib (fun w mm=>mm.rmFreeze 0 1 rfl rfl ((Mx.mk_sm n n _ hsl).hl) ((Mx.mk_sm n n _ hsl).rl)) ?_
 try dsimp only [List.set]
 exact zBa Tryz.results27 (p31,c32) trivial (zo rfl) (zo rfl) rfl (ho:=oN) (s0 rfl)
theorem znc {pA:Option Addr} {nA:Nat} {cA:Nat} {A:List (List Rat)} {N:Nat} {uk:Wd} {vk:Wd} {xk:Rat} (hnA:A.length=nA) (hrA:∀i,i<nA→(A.getD i []).length=N) (h1:1≤nA∧nA≤64) (h2:1≤N∧N≤64) (hqA:Mx.bd A 100000) (hxk:ye xk≤100000):Con yd 28 [.slice pA nA cA,.agg #[uk.b,uk.l,vk.b,vk.l]] [] [slF (rS rQ) pA cA A,qF true uk vk xk] (Y:=(Option Addr)×Nat) (fun y=>True) (fun y=> .tuple #[.slice (y.1) nA (y.2),.int .i64 0]) (fun y=>[]) (fun y=>[slF (rS rQ) (y.1) (y.2) (Mx.mk nA N (fun ii jj=>xk*Mx.e A ii jj))]):=by
 refine zk Tryz.func28 rfl rfl rfl (fun c=> ?_)
 show RunC _ _ _ _ _ [(0,.slice pA nA cA),(1,.agg #[uk.b,uk.l,vk.b,vk.l])] [] [slF (rS rQ) pA cA A,qF true uk vk xk]
 refine zP 0 rfl (fun hL0=> ?_)
 have hA0:=hrA 0 om
 have hUA:∀i,i<nA→(A.getD i []).length=(A.getD 0 []).length:=fun i hi=>by rw [hrA i hi,hA0]
 refine ze<|za<|zM rfl rfl (zT rfl rfl) (fun b1=> ?_)
 refine zM rfl rfl (zT rfl rfl) (fun b2=> ?_)
 refine e_p (zb rfl)<|e_p (zb rfl)<|zf<|zc<|ze<|ze<|za<|e_ru (zi 1 ty60 rfl rfl rfl)<|zR rfl rfl (.c rfl .n) ce19 (zmc (pM:=pA) (nM:=nA) (cM:=cA) (M:=A) (hnM:=ass) (hM1:=by exact h1.1) (hU:=by exact hUA) (hK:=by exact h1.2) (hN:=by exact ⟨by omega,by omega⟩)) (.c (j:=0) rfl .n)<|e_p (zb rfl)<|zf<|zc<|ze<|za<|e_mv rfl<|e_p (zxa rfl rfl)<|zf<|zc<|zoa rfl rfl<|zw<|zc<|ze<|ze<|za<|e_ru (zd 0 ty32 rfl rfl (.t4 .nil))<|zR rfl rfl (.c rfl .n) ce88 (zSc (u1:=uk) (v1:=vk) (q1:=xk)) (.c (j:=1) rfl .n)<|e_p (zUa rfl)<|zf<|zc<|zoa rfl rfl<|zw<|zc<|ze<|zDa 1 rfl (.s .z)<|zDa 0 rfl .z<|zW (OW:=[]) (O:=[emA,emA]) 100000 mixed (.then .ret) kr<|e_u 0 rfl rfl (zh (j:=0) 1 ty60 rfl rfl rfl rfl)<|e_pv 1 rfl rfl (zv yb rfl)<|e_u 2 rfl rfl (zh (j:=0) 1 ty60 rfl rfl rfl rfl)<|d_vl 3 rfl rfl kr kr rfl rfl (zQ (x0:=(A.getD 0 [])) 2 0 rfl yb sz62 rfl cbo rfl rfl (gD (d:=[]) om)) ?_
 rintro ⟨b3,o4,p5,c6⟩ -
 dsimp only [aq,nq,cq]
 refine e_u 4 rfl rfl (zh (j:=0) 0 ty62 rfl rfl rfl rfl)<|e_pv 5 rfl rfl (zv yc rfl) ?_
 have e7:((((A.getD 0 []).length:Nat):Int):Int)=((N:Nat):Int):=by omega
 rw [e7]
 refine e_pv 6 rfl rfl (zEa .n (.c rfl (.c rfl .n)))<|e_one 7 (zB rfl rfl rfl rfl (.c rfl (.c rfl (.c rfl .n))) ce86 (zmf (K:=nA) (N:=N) (bK:=b2) (uk:=uk) (vk:=vk) (xk:=xk) (bA:=b1) (pA:=pA) (nA:=nA) (cA:=cA) (A:=A) (hK:=by first|rfl|assumption|omega|exact ⟨by omega,by omega⟩) (hN:=by first|rfl|assumption|omega|exact ⟨by omega,by omega⟩) (hnA:=ass) (hKA:=by first|rfl|assumption|omega|exact ⟨by omega,by omega⟩) (hrA:=ass) (hqA:=ass) (hxk:=ass)) (.c (j:=2) rfl (.c (j:=5) rfl (.c (j:=3) rfl (.c (j:=4) rfl .n)))) ?_)
 rintro ⟨p38,c39,hs10⟩ hsl
 dsimp only [aq,nq,cq]
 replace hsl:hs10.length=nA:=hsl
 refine e_pv 8 rfl rfl (zb rfl)<|e_pv 9 rfl rfl (zb rfl)<|zU kr<|zc<|zG<|zib (fun w mm=>mm.rmFreeze 0 1 rfl rfl ((Mx.mk_sm nA N _ hsl).hl) ((Mx.mk_sm nA N _ hsl).rl)) ?_
 try dsimp only [List.set]
 exact zBa Tryz.results28 (p38,c39) trivial (zo rfl) (zo rfl) rfl (ho:=oN) (s0 rfl)
theorem zFg {pA:Option Addr} {nA:Nat} {cA:Nat} {A:List (List Rat)} {pB:Option Addr} {cB:Nat} {B:List (List Rat)} {N:Nat} (hnA:A.length=nA) (hrA:∀i,i<nA→(A.getD i []).length=N) (hnB:B.length=nA) (hrB:∀i,i<nA→(B.getD i []).length=N) (h1:1≤nA∧nA≤64) (h2:1≤N∧N≤64) (hqA:Mx.bd A 100000) (hqB:Mx.bd B 100000):Con yd 30 [.slice pA nA cA,.slice pB nA cB] [] [slF (rS rQ) pA cA A,slF (rS rQ) pB cB B] (Y:=(Option Addr)×Nat) (fun y=>True) (fun y=> .tuple #[.slice (y.1) nA (y.2),.int .i64 0]) (fun y=>[]) (fun y=>[slF (rS rQ) (y.1) (y.2) (Mx.mk nA N (fun ii jj=>Mx.e A ii jj+Mx.e B ii jj))]):=by
 refine zk Tryz.func30 rfl rfl rfl (fun c=> ?_)
 show RunC _ _ _ _ _ [(0,.slice pA nA cA),(1,.slice pB nA cB)] [] [slF (rS rQ) pA cA A,slF (rS rQ) pB cB B]
 refine zP 0 rfl (fun hL0=> ?_)
 refine zP 1 rfl (fun hL1=> ?_)
 have hA0:=hrA 0 om
 have hUA:∀i,i<nA→(A.getD i []).length=(A.getD 0 []).length:=fun i hi=>by rw [hrA i hi,hA0]
 have hB0:=hrB 0 om
 refine ze<|za<|zM rfl rfl (zT rfl rfl) (fun b1=> ?_)
 refine zM rfl rfl (zT rfl rfl) (fun b2=> ?_)
 refine e_p (zb rfl)<|e_p (zb rfl)<|zf<|zc<|ze<|ze<|za<|e_ru (zi 1 ty60 rfl rfl rfl)<|e_ru (zi 0 ty60 rfl rfl rfl)<|zR rfl rfl (.c rfl (.c rfl .n)) ce94 (zRd (pA:=pA) (nA:=nA) (cA:=cA) (A:=A) (pB:=pB) (cB:=cB) (B:=B) (N:=N) (hnA:=ass) (hrA:=ass) (hnB:=ass) (hrB:=ass) (h1:=ass) (h2:=ass)) (.c (j:=0) rfl (.c (j:=1) rfl .n))<|e_p (zb rfl)<|zf<|zc<|ze<|za<|e_mv rfl<|e_p (zxa rfl rfl)<|zf<|zc<|zoa rfl rfl<|zw<|zc<|ze<|zDa 1 rfl (.s .z)<|zDa 0 rfl .z<|zW (OW:=[]) (O:=[emA,emA]) 100000 mixed (.then .ret) kr<|e_u 0 rfl rfl (zh (j:=0) 1 ty60 rfl rfl rfl rfl)<|e_pv 1 rfl rfl (zv yb rfl)<|e_u 2 rfl rfl (zh (j:=0) 1 ty60 rfl rfl rfl rfl)<|d_vl 3 rfl rfl kr kr rfl rfl (zQ (x0:=(A.getD 0 [])) 2 0 rfl yb sz62 rfl cbo rfl rfl (gD (d:=[]) om)) ?_
 rintro ⟨b3,o4,p5,c6⟩ -
 dsimp only [aq,nq,cq]
 refine e_u 4 rfl rfl (zh (j:=0) 0 ty62 rfl rfl rfl rfl)<|e_pv 5 rfl rfl (zv yc rfl) ?_
 have e7:((((A.getD 0 []).length:Nat):Int):Int)=((N:Nat):Int):=by omega
 rw [e7]
 refine e_pv 6 rfl rfl (zEa .n (.c rfl (.c rfl .n)))<|e_one 7 (zB rfl rfl rfl rfl (.c rfl (.c rfl (.c rfl .n))) ce86 (zkf (K:=nA) (N:=N) (bA:=b1) (pA:=pA) (nA:=nA) (cA:=cA) (A:=A) (bB:=b2) (pB:=pB) (nB:=nA) (cB:=cB) (B:=B) (hK:=by first|rfl|assumption|omega|exact ⟨by omega,by omega⟩) (hN:=by first|rfl|assumption|omega|exact ⟨by omega,by omega⟩) (hnA:=ass) (hnB:=ass) (hKA:=by first|rfl|assumption|omega|exact ⟨by omega,by omega⟩) (hKB:=by first|rfl|assumption|omega|exact ⟨by omega,by omega⟩) (hrA:=ass) (hrB:=ass) (hqA:=ass) (hqB:=ass)) (.c (j:=3) rfl (.c (j:=4) rfl (.c (j:=2) rfl (.c (j:=5) rfl .n)))) ?_)
 rintro ⟨p38,c39,hs10⟩ hsl
 dsimp only [aq,nq,cq]
 replace hsl:hs10.length=nA:=hsl
 refine e_pv 8 rfl rfl (zb rfl)<|e_pv 9 rfl rfl (zb rfl)<|zU kr<|zc<|zG<|zib (fun w mm=>mm.rmFreeze 0 1 rfl rfl ((Mx.mk_sm nA N _ hsl).hl) ((Mx.mk_sm nA N _ hsl).rl)) ?_
 try dsimp only [List.set]
 exact zBa Tryz.results30 (p38,c39) trivial (zo rfl) (zo rfl) rfl (ho:=oN) (s0 rfl)
theorem zGg {pA:Option Addr} {nA:Nat} {cA:Nat} {A:List (List Rat)} {pB:Option Addr} {cB:Nat} {B:List (List Rat)} {N:Nat} (hnA:A.length=nA) (hrA:∀i,i<nA→(A.getD i []).length=N) (hnB:B.length=nA) (hrB:∀i,i<nA→(B.getD i []).length=N) (h1:1≤nA∧nA≤64) (h2:1≤N∧N≤64) (hqA:Mx.bd A 100000) (hqB:Mx.bd B 100000):Con yd 76 [.slice pA nA cA,.slice pB nA cB] [] [slF (rS rQ) pA cA A,slF (rS rQ) pB cB B] (Y:=(Option Addr)×Nat) (fun y=>True) (fun y=> .tuple #[.slice (y.1) nA (y.2),.int .i64 0]) (fun y=>[]) (fun y=>[slF (rS rQ) (y.1) (y.2) (Mx.mk nA N (fun ii jj=>Mx.e A ii jj - Mx.e B ii jj))]):=by
 refine zk Tryz.func76 rfl rfl rfl (fun c=> ?_)
 show RunC _ _ _ _ _ [(0,.slice pA nA cA),(1,.slice pB nA cB)] [] [slF (rS rQ) pA cA A,slF (rS rQ) pB cB B]
 refine zP 0 rfl (fun hL0=> ?_)
 refine zP 1 rfl (fun hL1=> ?_)
 have hA0:=hrA 0 om
 have hUA:∀i,i<nA→(A.getD i []).length=(A.getD 0 []).length:=fun i hi=>by rw [hrA i hi,hA0]
 have hB0:=hrB 0 om
 refine ze<|za<|zM rfl rfl (zT rfl rfl) (fun b1=> ?_)
 refine zM rfl rfl (zT rfl rfl) (fun b2=> ?_)
 refine e_p (zb rfl)<|e_p (zb rfl)<|zf<|zc<|ze<|ze<|za<|e_ru (zi 1 ty60 rfl rfl rfl)<|e_ru (zi 0 ty60 rfl rfl rfl)<|zR rfl rfl (.c rfl (.c rfl .n)) ce94 (zRd (pA:=pA) (nA:=nA) (cA:=cA) (A:=A) (pB:=pB) (cB:=cB) (B:=B) (N:=N) (hnA:=ass) (hrA:=ass) (hnB:=ass) (hrB:=ass) (h1:=ass) (h2:=ass)) (.c (j:=0) rfl (.c (j:=1) rfl .n))<|e_p (zb rfl)<|zf<|zc<|ze<|za<|e_mv rfl<|e_p (zxa rfl rfl)<|zf<|zc<|zoa rfl rfl<|zw<|zc<|ze<|zDa 1 rfl (.s .z)<|zDa 0 rfl .z<|zW (OW:=[]) (O:=[emA,emA]) 100000 mixed (.then .ret) kr<|e_u 0 rfl rfl (zh (j:=0) 1 ty60 rfl rfl rfl rfl)<|e_pv 1 rfl rfl (zv yb rfl)<|e_u 2 rfl rfl (zh (j:=0) 1 ty60 rfl rfl rfl rfl)<|d_vl 3 rfl rfl kr kr rfl rfl (zQ (x0:=(A.getD 0 [])) 2 0 rfl yb sz62 rfl cbo rfl rfl (gD (d:=[]) om)) ?_
 rintro ⟨b3,o4,p5,c6⟩ -
 dsimp only [aq,nq,cq]
 refine e_u 4 rfl rfl (zh (j:=0) 0 ty62 rfl rfl rfl rfl)<|e_pv 5 rfl rfl (zv yc rfl) ?_
 have e7:((((A.getD 0 []).length:Nat):Int):Int)=((N:Nat):Int):=by omega
 rw [e7]
 refine e_pv 6 rfl rfl (zEa .n (.c rfl (.c rfl .n)))<|e_one 7 (zB rfl rfl rfl rfl (.c rfl (.c rfl (.c rfl .n))) ce86 (zlf (K:=nA) (N:=N) (bA:=b1) (pA:=pA) (nA:=nA) (cA:=cA) (A:=A) (bB:=b2) (pB:=pB) (nB:=nA) (cB:=cB) (B:=B) (hK:=by first|rfl|assumption|omega|exact ⟨by omega,by omega⟩) (hN:=by first|rfl|assumption|omega|exact ⟨by omega,by omega⟩) (hnA:=ass) (hnB:=ass) (hKA:=by first|rfl|assumption|omega|exact ⟨by omega,by omega⟩) (hKB:=by first|rfl|assumption|omega|exact ⟨by omega,by omega⟩) (hrA:=ass) (hrB:=ass) (hqA:=ass) (hqB:=ass)) (.c (j:=3) rfl (.c (j:=4) rfl (.c (j:=2) rfl (.c (j:=5) rfl .n)))) ?_)
 rintro ⟨p38,c39,hs10⟩ hsl
 dsimp only [aq,nq,cq]
 replace hsl:hs10.length=nA:=hsl
 refine e_pv 8 rfl rfl (zb rfl)<|e_pv 9 rfl rfl (zb rfl)<|zU kr<|zc<|zG<|zib (fun w mm=>mm.rmFreeze 0 1 rfl rfl ((Mx.mk_sm nA N _ hsl).hl) ((Mx.mk_sm nA N _ hsl).rl)) ?_
 try dsimp only [List.set]
 exact zBa Tryz.results76 (p38,c39) trivial (zo rfl) (zo rfl) rfl (ho:=oN) (s0 rfl)
theorem zwe {pA:Option Addr} {nA:Nat} {cA:Nat} {A:List (List Rat)} {N:Nat} (hnA:A.length=nA) (hrA:∀i,i<nA→(A.getD i []).length=N) (h1:1≤nA∧nA≤64) (h2:1≤N∧N≤64):Con yd 91 [.slice pA nA cA] [] [slF (rS rQ) pA cA A] (Y:=(Option Addr)×Nat) (fun y=>True) (fun y=> .slice (y.1) N (y.2)) (fun y=>[]) (fun y=>[slF (rS rQ) (y.1) (y.2) (Mx.mk N nA (fun ii jj=>Mx.e A jj ii))]):=by
 refine zk Tryz.func91 rfl rfl rfl (fun c=> ?_)
 show RunC _ _ _ _ _ [(0,.slice pA nA cA)] [] [slF (rS rQ) pA cA A]
 refine zP 0 rfl (fun hL0=> ?_)
 have hA0:=hrA 0 om
 have hUA:∀i,i<nA→(A.getD i []).length=(A.getD 0 []).length:=fun i hi=>by rw [hrA i hi,hA0]
 refine ze<|za<|zM rfl rfl (zT rfl rfl) (fun b1=> ?_)
 refine e_p (zb rfl)<|zf<|zc<|ze<|zDa 0 rfl .z<|zW (OW:=[]) (O:=[emA]) 100000 mixed (.then .ret) kr<|e_u 0 rfl rfl (zh (j:=0) 0 ty60 rfl rfl rfl rfl)<|d_vl 1 rfl rfl kr kr rfl rfl (zQ (x0:=(A.getD 0 [])) 1 0 rfl yb sz62 rfl cbo rfl rfl (gD (d:=[]) om)) ?_
 rintro ⟨b2,o3,p4,c5⟩ -
 dsimp only [aq,nq,cq]
 refine e_u 2 rfl rfl (zh (j:=0) 0 ty62 rfl rfl rfl rfl)<|e_pv 3 rfl rfl (zv yc rfl)<|e_u 4 rfl rfl (zh (j:=0) 2 ty60 rfl rfl rfl rfl)<|e_pv 5 rfl rfl (zv yb rfl) ?_
 have e6:((((A.getD 0 []).length:Nat):Int):Int)=((N:Nat):Int):=by omega
 rw [e6]
 refine e_pv 6 rfl rfl (zEa .n (.c rfl .n))<|e_one 7 (zB rfl rfl rfl rfl (.c rfl (.c rfl (.c rfl .n))) ce86 (zeg (K:=N) (N:=nA) (bA:=b1) (pA:=pA) (nA:=nA) (cA:=cA) (A:=A) (hK:=by first|rfl|assumption|omega|exact ⟨by omega,by omega⟩) (hN:=by first|rfl|assumption|omega|exact ⟨by omega,by omega⟩) (hnA:=ass) (hNA:=by first|rfl|assumption|omega|exact ⟨by omega,by omega⟩) (hrA:=ass)) (.c (j:=2) rfl (.c (j:=3) rfl .n)) ?_)
 rintro ⟨p37,c38,hs9⟩ hsl
 dsimp only [aq,nq,cq]
 replace hsl:hs9.length=N:=hsl
 refine e_pv 8 rfl rfl (zb rfl)<|zU kr<|zc<|zG<|zib (fun w mm=>mm.rmFreeze 0 1 rfl rfl ((Mx.mk_sm N nA _ hsl).hl) ((Mx.mk_sm N nA _ hsl).rl)) ?_
 try dsimp only [List.set]
 exact zx Tryz.results91 (p37,c38) trivial (zo rfl) rfl (ho:=oN) (s0 rfl)
theorem zxe {pA:Option Addr} {nA:Nat} {cA:Nat} {A:List (List Rat)} {N:Nat} (hnA:A.length=nA) (hrA:∀i,i<nA→(A.getD i []).length=N) (h1:1≤nA∧nA≤64) (h2:1≤N∧N≤64):Con yd 79 [.slice pA nA cA] [] [slF (rS rQ) pA cA A] (Y:=(Option Addr)×Nat×HP) (fun y=>y.2.2.length=nA) (fun y=> .slice (y.1) nA (y.2.1)) (fun y=>[rowA 62 rV (y.1) (y.2.1) (oh y.2.2 N),rowsM 32 rQ (y.2.2) (Mx.mk nA N (fun ii jj=>Mx.e A ii jj))]) (fun y=>[]):=by
 refine zk Tryz.func79 rfl rfl rfl (fun c=> ?_)
 show RunC _ _ _ _ _ [(0,.slice pA nA cA)] [] [slF (rS rQ) pA cA A]
 refine zP 0 rfl (fun hL0=> ?_)
 have hA0:=hrA 0 om
 have hUA:∀i,i<nA→(A.getD i []).length=(A.getD 0 []).length:=fun i hi=>by rw [hrA i hi,hA0]
 refine ze<|za<|zM rfl rfl (zT rfl rfl) (fun b1=> ?_)
 refine e_p (zb rfl)<|zf<|zc<|ze<|zDa 0 rfl .z<|zW (OW:=[]) (O:=[emA]) 100000 mixed (.then .ret) kr<|e_u 0 rfl rfl (zh (j:=0) 0 ty60 rfl rfl rfl rfl)<|e_pv 1 rfl rfl (zv yb rfl)<|e_u 2 rfl rfl (zh (j:=0) 0 ty60 rfl rfl rfl rfl)<|d_vl 3 rfl rfl kr kr rfl rfl (zQ (x0:=(A.getD 0 [])) 1 0 rfl yb sz62 rfl cbo rfl rfl (gD (d:=[]) om)) ?_
 rintro ⟨b2,o3,p4,c5⟩ -
 dsimp only [aq,nq,cq]
 refine e_u 4 rfl rfl (zh (j:=0) 0 ty62 rfl rfl rfl rfl)<|e_pv 5 rfl rfl (zv yc rfl) ?_
 have e6:((((A.getD 0 []).length:Nat):Int):Int)=((N:Nat):Int):=by omega
 rw [e6]
 refine e_pv 6 rfl rfl (zEa .n (.c rfl .n))<|e_one 7 (zB rfl rfl rfl rfl (.c rfl (.c rfl (.c rfl .n))) ce86 (zjf (K:=nA) (N:=N) (bA:=b1) (pA:=pA) (nA:=nA) (cA:=cA) (A:=A) (hK:=by first|rfl|assumption|omega|exact ⟨by omega,by omega⟩) (hN:=by first|rfl|assumption|omega|exact ⟨by omega,by omega⟩) (hnA:=ass) (hKA:=by first|rfl|assumption|omega|exact ⟨by omega,by omega⟩) (hrA:=ass)) (.c (j:=2) rfl (.c (j:=3) rfl .n)) ?_)
 rintro ⟨p37,c38,hs9⟩ hsl
 dsimp only [aq,nq,cq]
 replace hsl:hs9.length=nA:=hsl
 refine e_pv 8 rfl rfl (zb rfl)<|zU kr<|zc<|zG ?_
 exact zx Tryz.results79 (p37,c38,hs9) hsl (zo rfl) rfl (ho:=((.of [0,0] rfl):PickO _ _ _)) sN
theorem zHg {pA:Option Addr} {nA:Nat} {cA:Nat} {A:List (List Rat)} {pB:Option Addr} {cB:Nat} {B:List (List Rat)} (hnA:A.length=nA) (hrA:∀i,i<nA→(A.getD i []).length=nA) (hnB:B.length=nA) (hrB:∀i,i<nA→(B.getD i []).length=nA) (h1:1≤nA∧nA≤64) (hqA:Mx.bd A 100000) (hqB:Mx.bd B 100000):Con yd 29 [.slice pA nA cA,.slice pB nA cB] [] [slF (rS rQ) pA cA A,slF (rS rQ) pB cB B] (Y:=(Option Addr)×Nat) (fun y=>True) (fun y=> .tuple #[.slice (y.1) nA (y.2),.int .i64 0]) (fun y=>[]) (fun y=>[slF (rS rQ) (y.1) (y.2) (Mx.mk nA nA (fun ii jj=>Td.dl (A.getD ii []) ((Mx.mk nA nA (fun ii jj=>Mx.e B jj ii)).getD jj []) nA))]):=by
 refine zk Tryz.func29 rfl rfl rfl (fun c=> ?_)
 show RunC _ _ _ _ _ [(0,.slice pA nA cA),(1,.slice pB nA cB)] [] [slF (rS rQ) pA cA A,slF (rS rQ) pB cB B]
 refine zP 0 rfl (fun hL0=> ?_)
 refine zP 1 rfl (fun hL1=> ?_)
 have hA0:=hrA 0 om
 have hUA:∀i,i<nA→(A.getD i []).length=(A.getD 0 []).length:=fun i hi=>by rw [hrA i hi,hA0]
 have hB0:=hrB 0 om
 have hqT:Mx.bd (Mx.mk nA nA (fun ii jj=>Mx.e B jj ii)) 100000:=Dt.mk_bdW (fun i j _ _=>hqB j i) dd
 refine ze<|za<|zM rfl rfl (zT rfl rfl) (fun b1=> ?_)
 refine e_p (zb rfl)<|e_p (zb rfl)<|zf<|zc<|ze<|ze<|za<|e_ru (zi 0 ty60 rfl rfl rfl)<|e_mv rfl ?_
 have e2:(.slice pA nA cA:Value)= .slice pA (A.length) cA:=by rw [hnA]
 rw [e2]
 have e3:(.slice pB nA cB:Value)= .slice pB (B.length) cB:=by rw [hnB]
 rw [e3]
 refine zma rfl rfl (zka (r:=rS (rS rQ)) (k:=2) yf inf60 rfl dd dd dd (.c (x:=A) (cs:=[.slice pA (A.length) cA]) (pA,cA) rfl rfl rfl (fun g hr=>Holds.get 0 rfl hr) (.c (x:=B) (cs:=[.slice pB (B.length) cB]) (pB,cB) rfl rfl rfl (fun g hr=>Holds.get 1 rfl hr) .n))) (fun b4 _=> ?_)
 have e5:(.slice pA (A.length) cA:Value)= .slice pA nA cA:=by rw [hnA]
 rw [e5]
 have e6:(.slice pB (B.length) cB:Value)= .slice pB nA cB:=by rw [hnB]
 rw [e6]
 refine zea 0 rfl .z<|zR rfl rfl (.c rfl .n) ce90 (zhd (p:=some ⟨b4,0,none⟩) (n:=2) (cap:=2) (L:=[A,B]) (hn:=by rfl) (hall:=by exact Dt.okM_two (Dt.okM_of hnA hrA h1 h1) (Dt.okM_of hnB hrB h1 h1))) (.c (j:=0) rfl .n)<|e_p (zb rfl)<|zf<|zc<|ze<|za<|e_mv rfl<|e_p (zxa rfl rfl)<|zf<|zc<|zoa rfl rfl<|zw<|zc<|ze<|ze<|za<|e_ru (zi 1 ty60 rfl rfl rfl)<|r_vl rfl rfl (zQ (x0:=(A.getD 0 [])) 1 0 rfl yb sz62 rfl cbo rfl rfl (gD (d:=[]) om)) ?_
 rintro ⟨b7,o8,p9,c10⟩ -
 dsimp only [aq,nq,cq]
 refine e_ru (zh (j:=0) 0 ty62 rfl rfl rfl rfl)<|e_p (zv yc rfl)<|e_mv rfl<|e_p (zv yb rfl)<|e_p (zxa rfl rfl)<|zf<|zc<|zD rfl (fun h21=> ?_) (fun h21=> ?_)
 ·
  omega
 ·
  refine zw<|zc<|ze<|za<|e_mv rfl<|zm rfl rfl (.c rfl .n) ce91 (zwe (pA:=pB) (nA:=nA) (cA:=cB) (A:=B) (N:=nA) (hnA:=ass) (hrA:=ass) (h1:=ass) (h2:=ass)) (.c (j:=4) rfl .n) ?_
  rintro ⟨p311,c312⟩ -
  dsimp only [aq,nq,cq]
  refine zM rfl rfl (zA zr60 rfl) (fun b13=> ?_)
  refine zl 0 rfl rfl rfl rfl rfl sz60 rfl (.take .nil) .z<|zf<|zc<|ze<|zDa 2 rfl (.s (.s .z))<|zDa 0 rfl .z<|zW (OW:=[]) (O:=[emA,emA,emA]) 100000 mixed (.then .ret) kr<|e_u 0 rfl rfl (zh (j:=0) 1 ty60 rfl rfl rfl rfl)<|e_pv 1 rfl rfl (zv yb rfl)<|e_dm 2 rfl rfl rfl<|d_vl 3 rfl rfl kr kr rfl rfl (zQ (x0:=(B.getD 0 [])) 7 0 rfl yb sz62 rfl cbo rfl rfl (gD (d:=[]) om)) ?_
  rintro ⟨b14,o15,p16,c17⟩ -
  dsimp only [aq,nq,cq]
  refine e_u 4 rfl rfl (zh (j:=0) 0 ty62 rfl rfl rfl rfl)<|e_pv 5 rfl rfl (zv yc rfl) ?_
  have e18:((((B.getD 0 []).length:Nat):Int):Int)=((nA:Nat):Int):=by omega
  rw [e18]
  refine e_pv 6 rfl rfl (zEa .n (.c rfl (.c rfl .n)))<|e_one 7 (zB rfl rfl rfl rfl (.c rfl (.c rfl (.c rfl .n))) ce86 (znf (K:=nA) (N:=nA) (bA:=b1) (pA:=pA) (nA:=nA) (cA:=cA) (A:=A) (bB:=b13) (pB:=p311) (nB:=nA) (cB:=c312) (B:=(Mx.mk nA nA (fun ii jj=>Mx.e B jj ii))) (n9:=nA) (hK:=by first|rfl|assumption|omega|exact ⟨by omega,by omega⟩|exact Mx.mk_len _ _ _|exact Mx.mk_rl _ _ _) (hN:=by first|rfl|assumption|omega|exact ⟨by omega,by omega⟩|exact Mx.mk_len _ _ _|exact Mx.mk_rl _ _ _) (hnA:=ass) (hnB:=by first|rfl|assumption|omega|exact ⟨by omega,by omega⟩|exact Mx.mk_len _ _ _|exact Mx.mk_rl _ _ _) (hrA:=ass) (hrB:=by first|rfl|assumption|omega|exact ⟨by omega,by omega⟩|exact Mx.mk_len _ _ _|exact Mx.mk_rl _ _ _) (hqA:=ass) (hqB:=by exact hqT) (hn9:=by first|rfl|assumption|omega|exact ⟨by omega,by omega⟩|exact Mx.mk_len _ _ _|exact Mx.mk_rl _ _ _) (hKA:=by first|rfl|assumption|omega|exact ⟨by omega,by omega⟩|exact Mx.mk_len _ _ _|exact Mx.mk_rl _ _ _) (hNB:=by first|rfl|assumption|omega|exact ⟨by omega,by omega⟩|exact Mx.mk_len _ _ _|exact Mx.mk_rl _ _ _)) (.c (j:=3) rfl (.c (j:=8) rfl (.c (j:=2) rfl (.c (j:=4) rfl .n)))) ?_)
  rintro ⟨p319,c320,hs21⟩ hsl
  dsimp only [aq,nq,cq]
  replace hsl:hs21.length=nA:=hsl
  refine e_pv 8 rfl rfl (zb rfl)<|e_pv 9 rfl rfl (zb rfl)<|zU kr<|zc<|zG<|zib (fun w mm=>mm.rmFreeze 0 1 rfl rfl ((Mx.mk_sm nA nA _ hsl).hl) ((Mx.mk_sm nA nA _ hsl).rl)) ?_
  try dsimp only [List.set]
  exact zBa Tryz.results29 (p319,c320) trivial (zo rfl) (zo rfl) rfl (ho:=oN) (s0 rfl)
end Go.Proofs.YtpdbimfnhglhpaaGreat.Sp
namespace Go.Proofs.YtpdbimfnhglhpaaGreat.Sp
open Go
set_option linter.unusedVariables false
set_option maxRecDepth 100000
set_option maxHeartbeats 8000000
theorem zsd {pA:Option Addr} {nA:Nat} {cA:Nat} {A:List (List Rat)} {b:Nat} (hnA:A.length=nA) (hrA:∀i,i<nA→(A.getD i []).length=nA) (h1:1≤nA∧nA≤4) (hb1:1≤b) (hbA:Mx.bd A b) (hG:Dt.Gq b nA≤20000):Con yd 24 [.slice pA nA cA] [] [slF (rS rQ) pA cA A] (Y:=Wd×Wd) (fun y=>True) (fun y=> .tuple #[.agg #[y.1.b,y.1.l,y.2.b,y.2.l],.int .i64 0]) (fun y=>[]) (fun y=>[qF true y.1 y.2 (Dt.det4 (Dt.pad nA (Mx.e A)))]):=by
 refine zk Tryz.func24 rfl rfl rfl (fun c=> ?_)
 show RunC _ _ _ _ _ [(0,.slice pA nA cA)] [] [slF (rS rQ) pA cA A]
 refine zP 0 rfl (fun hL0=> ?_)
 have hA0:=hrA 0 om
 have hUA:∀i,i<nA→(A.getD i []).length=(A.getD 0 []).length:=fun i hi=>by rw [hrA i hi,hA0]
 refine ze<|za<|zM rfl rfl (zA zr32 rfl) (fun b1=> ?_)
 refine e_p (zb rfl)<|zf<|zc<|ze<|ze<|za<|e_mv rfl<|zR rfl rfl (.c rfl .n) ce78 (zcf (pM:=pA) (nM:=nA) (cM:=cA) (M:=A) (hnM:=ass) (hM1:=by first|rfl|assumption|omega|exact ⟨by omega,by omega⟩) (hU:=by exact hUA) (hK:=by first|rfl|assumption|omega|exact ⟨by omega,by omega⟩) (hN:=by first|rfl|assumption|omega|exact ⟨by omega,by omega⟩)) (.c (j:=0) rfl .n)<|e_p (zb rfl)<|zf<|zc<|ze<|za<|e_mv rfl<|e_p (zxa rfl rfl)<|zf<|zc<|zoa rfl rfl<|zw<|zc<|ze<|za<|e_mv rfl<|zm rfl rfl (.c rfl .n) ce79 (zxe (pA:=pA) (nA:=nA) (cA:=cA) (A:=A) (N:=nA) (hnA:=ass) (hrA:=ass) (h1:=by exact ⟨by omega,by omega⟩) (h2:=by exact ⟨by omega,by omega⟩)) (.c (j:=0) rfl .n) ?_
 rintro ⟨pM,cM,hs0⟩ hsl
 dsimp only [aq,nq,cq]
 replace hsl:hs0.length=nA:=hsl
 refine e_p (zb rfl)<|zf<|zc<|ze<|za<|zm rfl rfl (.c rfl .n) ce52 (zJa (z:=1) (hz:=by first|rfl|assumption|omega|exact ⟨by omega,by omega⟩)) (.n) ?_
 rintro ⟨w33,w44⟩ -
 dsimp only [aq,nq,cq]
 refine zM rfl rfl (zA zr32 rfl) (fun b5=> ?_)
 refine zl 0 rfl rfl rfl rfl rfl sz32 rfl (.t4 .nil) .z<|zf<|zc<|ze<|ze<|za<|e_mv rfl<|e_p (zv yb rfl)<|e_mv rfl<|zf<|zc<|zt<|zca (X:=Nat×HP×(List (List Rat))×Rat×Wd×Wd) (fun x:Nat×HP×(List (List Rat))×Rat×Wd×Wd=>x.1≤nA∧Dt.El nA A b x.2.1 x.2.2.1 x.1 x.2.2.2.1) (fun x=>[(21,.int .i64 ((x.1:Nat):Int)),(20,.int .i64 ((nA:Nat):Int)),(6,.pointer (some ⟨b5,0,none⟩)),(5,.slice pM nA cM),(2,.pointer (some ⟨b1,0,none⟩))]) (fun x=>[boxA b5 32 (cw [x.2.2.2.2.1,x.2.2.2.2.2]),rowA 62 rV pM cM (oh x.2.1 nA),rowsM 32 rQ (x.2.1) (x.2.2.1),boxA b1 32 (cw [wz,wz])]) (fun x=>[qF true x.2.2.2.2.1 x.2.2.2.2.2 (x.2.2.2.1*Dt.dp (Mx.e x.2.2.1) x.1),qF true w33 w44 ((1:Int):Rat),slF (rS rQ) pA cA A]) (fun x:Nat×HP×(List (List Rat))×Rat×Wd×Wd=>nA - x.1) (0,hs0,(Mx.mk nA nA (fun ii jj=>Mx.e A ii jj)),((1:Int):Rat),w33,w44) (show 0≤nA∧Dt.El nA A b hs0 (Mx.mk nA nA (fun ii jj=>Mx.e A ii jj)) 0 ((1:Int):Rat) from by exact ⟨Nat.zero_le _,Dt.El.start (Mx.mk_sm _ _ _ hsl) (by rw [Dt.pad_congr fun r c hr hc=>(Mx.mk_e (f:=fun ii jj=>Mx.e A ii jj) hr hc)]) (Dt.mk_bdW (fun i c _ _=>hbA i c) hb1)⟩) ((.e rfl cgs (.of rfl)):SubM _ _) (ho:=((.of [0,0,0,0] rfl):PickO _ _ _)) ((.e (j:=0) rfl (by rw [Dt.dp_start]) (.of [0,1] rfl)):SelR _ _ _) ?_
 rintro ⟨j,hs1,M1,s,wa,wb⟩ hI
 replace hI:j≤nA∧Dt.El nA A b hs1 M1 j s:=hI
 try dsimp only [cw]
 obtain ⟨hj,hE⟩:=hI
 have hSm1:=hE.sm
 refine ze<|za<|e_p (zY rfl rfl)<|zf<|zc<|ze<|zD rfl (fun h6=> ?_) (fun h6=> ?_)
 ·
  refine zw<|zc<|ze<|zt<|ze<|za<|e_mv rfl<|e_p (zb rfl)<|zf<|zc<|ze<|za<|e_mv rfl<|e_p (zb rfl)<|zf<|zc<|ze<|zt<|zca (X:=Nat) (fun x:Nat=>j≤x∧x≤nA∧∀i,j≤i→i<x→Mx.e M1 i j=0) (fun x=>[(8,.int .i64 ((x:Nat):Int)),(7,.int .i64 ((j:Nat):Int)),(21,.int .i64 ((j:Nat):Int)),(20,.int .i64 ((nA:Nat):Int)),(6,.pointer (some ⟨b5,0,none⟩)),(5,.slice pM nA cM),(2,.pointer (some ⟨b1,0,none⟩))]) (fun x=>[boxA b5 32 (cw [wa,wb]),rowA 62 rV pM cM (oh hs1 nA),rowsM 32 rQ hs1 M1,boxA b1 32 (cw [wz,wz])]) (fun x=>[qF true wa wb (s*Dt.dp (Mx.e M1) j),qF true w33 w44 ((1:Int):Rat),slF (rS rQ) pA cA A]) (fun x:Nat=>nA - x) j (show j≤j∧j≤nA∧∀i,j≤i→i<j→Mx.e M1 i j=0 from by exact ⟨Nat.le_refl _,by omega,fun i h1 h2=>by omega⟩) (mR rfl) (ho:=((.of [0,0,0,0] rfl):PickO _ _ _)) ((.of [0,1,2] rfl):SelR _ _ _) ?_
  rintro k hK2
  replace hK2:j≤k∧k≤nA∧∀i,j≤i→i<k→Mx.e M1 i j=0:=hK2
  try dsimp only [cw]
  obtain ⟨hk1,hk2,hk0⟩:=hK2
  refine ze<|zab (X:=Unit) (fun x=>True) (fun x=>[(39,.bool (decide ((((k:Nat):Int)<((nA:Nat):Int))∧(yi (Mx.e M1 k j)=0)))),(8,.int .i64 ((k:Nat):Int)),(7,.int .i64 ((j:Nat):Int)),(21,.int .i64 ((j:Nat):Int)),(20,.int .i64 ((nA:Nat):Int)),(6,.pointer (some ⟨b5,0,none⟩)),(5,.slice pM nA cM),(2,.pointer (some ⟨b1,0,none⟩))]) (fun x=>[boxA b5 32 (cw [wa,wb]),rowA 62 rV pM cM (oh hs1 nA),rowsM 32 rQ hs1 M1,boxA b1 32 (cw [wz,wz])]) (fun x=>[qF true wa wb (s*Dt.dp (Mx.e M1) j),qF true w33 w44 ((1:Int):Rat),slF (rS rQ) pA cA A]) ?_ ?_
  ·
   refine za<|e_mv rfl<|e_mv rfl<|e_p (zv yb rfl)<|e_p (zY rfl rfl)<|zga rfl rfl (zja rfl) (fun h7=> ?_) (fun h7=> ?_)
   ·
    refine e_mv rfl<|e_mv rfl<|e_ru (zia 1 k rfl yb sz62 rfl (by first|rfl|assumption|omega|(rw [oh_len];exact hSm1.h)|(rw [oh_len];exact hSm2.h)) rfl rfl om)<|r_vl rfl rfl (zN (x0:=((rp hs1 k),nA,(rc hs1 k))) (v:= .slice (rp hs1 k) nA (rc hs1 k)) 1 k rfl ty62 rfl rfl (oh_get (hSm1.hk om)) rfl) (fun _ hok8=> ?_)
    refine e_mv rfl<|e_ru (zGa 2 k j rfl (hSm1.hk om) (hSm1.mk' om) (hSm1.row om) yc sz32 rfl rfl rfl om)<|r_vl rfl rfl (zYa (x0:=(Mx.e M1 k j)) 2 k j rfl (hSm1.hk om) (hSm1.mk' om) ty32 rfl rfl (gD (d:=(0:Rat)) (by rw [hSm1.row om];omega))) ?_
    rintro ⟨w9,w10⟩ -
    dsimp only [aq,nq,cq]
    refine zqa open1_rQ<|zR rfl rfl (.c rfl .n) ce80 (znb (k1:=true) (u1:=w9) (v1:=w10) (q1:=(Mx.e M1 k j))) (.c (j:=0) rfl .n)<|e_p (zna rfl rfl)<|e_p (zE rfl rfl)<|zf ?_
    exact zla () tt9 ((.e rfl (congrArg Value.bool cbu) (.of rfl)):SubM _ _) (ho:=((.of [0,0,0,0] rfl):PickO _ _ _)) ((.of [1,2,3] rfl):SelR _ _ _)
   ·
    refine e_no<|e_no<|e_no<|e_no<|e_no<|e_no<|e_no<|e_no<|e_no<|e_p (zE rfl rfl)<|zf ?_
    exact zla () tt9 ((.e rfl (congrArg Value.bool cbu) (.of rfl)):SubM _ _) (ho:=((.of [0,0,0,0] rfl):PickO _ _ _)) ((.of [0,1,2] rfl):SelR _ _ _)
  ·
   rintro ⟨⟩ -
   try dsimp only [cw]
   refine zD rfl (fun h39=> ?_) (fun h39=> ?_)
   ·
    refine zw<|zc<|zt<|za<|e_mv rfl<|e_p (zJ (z:=(((k+1):Nat):Int)) rfl rfl (w64 om))<|e_p (zb rfl)<|zf<|zK<|zV (k+1) (show j≤(k+1)∧(k+1)≤nA∧∀i,j≤i→i<(k+1)→Mx.e M1 i j=0 from by exact ⟨by omega,by omega,fun i h1 h2=>by rcases Nat.lt_or_ge i k with h|h;exact hk0 i h1 h;rw [show i=k by omega];exact Rat.num_eq_zero.1 (Big.sign_zero.1 h39.2)⟩) (by show nA - (k+1)<nA - k;omega) (mR rfl) (ho:=((.of [0,0,0,0] rfl):PickO _ _ _)) ((.of [0,1,2] rfl):SelR _ _ _)
   ·
    refine zaa<|zg<|zg<|zp<|zc<|ze<|ze<|za<|e_mv rfl<|e_mv rfl<|e_p (zv yb rfl)<|e_p (zna rfl rfl)<|zf<|zc<|zD rfl (fun h45=> ?_) (fun h45=> ?_)
    ·
     refine ze<|za<|zm rfl rfl (.c rfl .n) ce52 (zJa (z:=0) (hz:=by first|rfl|assumption|omega|exact ⟨by omega,by omega⟩)) (.n) ?_
     rintro ⟨w311,w412⟩ -
     dsimp only [aq,nq,cq]
     refine zl 3 rfl rfl rfl rfl rfl sz32 rfl (.t4 .nil) (.s (.s (.s .z)))<|e_p (zb rfl)<|zf<|zc<|zG<|zu<|zX<|zu<|zu<|zX<|zu ?_
     exact zBa Tryz.results24 (w311,w412) trivial (zq 3 ty32 rfl rfl (.t4 .nil)) (zo rfl) rfl (ho:=oN) ((.e (j:=0) rfl (by rw [hE.none h1.2 om (fun i h8 h9=>hk0 i h8 om)]) .n):SelR _ _ _)
    ·
     have hkn:k<nA:=by omega
     have hpv:Mx.e M1 k j≠0:=fun z=>h39 ⟨by omega,Big.sign_zero.2 (Rat.num_eq_zero.2 z)⟩
     refine zw<|zc<|zab (X:=HP×(List (List Rat))×Rat×Wd×Wd) (fun x=>Dt.El nA A b x.1 x.2.1 j x.2.2.1∧Mx.e x.2.1 j j≠0) (fun x=>[(7,.int .i64 ((j:Nat):Int)),(21,.int .i64 ((j:Nat):Int)),(20,.int .i64 ((nA:Nat):Int)),(6,.pointer (some ⟨b5,0,none⟩)),(5,.slice pM nA cM),(2,.pointer (some ⟨b1,0,none⟩))]) (fun x=>[boxA b5 32 (cw [x.2.2.2.1,x.2.2.2.2]),rowA 62 rV pM cM (oh x.1 nA),rowsM 32 rQ (x.1) (x.2.1),boxA b1 32 (cw [wz,wz])]) (fun x=>[qF true x.2.2.2.1 x.2.2.2.2 (x.2.2.1*Dt.dp (Mx.e x.2.1) j),qF true wa wb (s*Dt.dp (Mx.e M1) j),qF true w33 w44 ((1:Int):Rat),slF (rS rQ) pA cA A]) ?_ ?_
     ·
      refine ze<|za<|e_mv rfl<|e_mv rfl<|e_p (zxa rfl rfl)<|zf<|zc<|zD rfl (fun h49=> ?_) (fun h49=> ?_)
      ·
       have hjk:j<k:=by omega
       obtain ⟨hEs,hds⟩:=hE.swp h1.2 hjk hkn
       have hps:=hE.es h1.2 hjk hkn hpv
       refine zzf (φ:=fun y:Nat×Nat=>pM=some ⟨y.1,y.2,none⟩) (fun w mm=>mm.rowSome 1 rfl (fun h=>by have h8:=hSm1.h;have h9:=oh_len hs1 nA;rw [h] at h9;have h7:(0:Nat)=hs1.length:=h9;omega)) ?_
       rintro ⟨bq,oq⟩ hpq
       replace hpq:pM=some ⟨bq,oq,none⟩:=hpq
       rw [hpq]
       refine ze<|zpa (.c (i:=1) rfl (.c (i:=0) rfl (.c (i:=0) rfl (.c (i:=0) rfl .n))))<|zW (OW:=[rowA 62 rV (some ⟨bq,oq,none⟩) cM (oh hs1 nA)]) (O:=[boxA b5 32 (cw [wa,wb]),rowsM 32 rQ hs1 M1,boxA b1 32 (cw [wz,wz])]) 13 mixed (.then (.then (.block (.then (.then (.block (.then .ret))))))) kr<|e_dm 0 rfl rfl rfl<|e_dm 1 rfl rfl rfl<|e_dm 2 rfl rfl rfl<|e_dm 3 rfl rfl rfl<|e_dm 4 rfl rfl rfl<|e_dm 5 rfl rfl rfl<|e_pv 6 rfl rfl (zI (j:=j) yb sz62 rfl rfl rfl om)<|zvb 7 rfl rfl kr kr kr rfl rfl (zN (x0:=((rp hs1 j),nA,(rc hs1 j))) (v:= .slice (rp hs1 j) nA (rc hs1 j)) 0 j rfl ty62 rfl rfl (oh_get (hSm1.hk om)) rfl) (fun _ hok13=> ?_)
       refine e_dm 8 rfl rfl rfl<|e_dm 9 rfl rfl rfl<|e_pv 10 rfl rfl (zI (j:=k) yb sz62 rfl rfl rfl om)<|zvb 11 rfl rfl kr kr kr rfl rfl (zN (x0:=((rp hs1 k),nA,(rc hs1 k))) (v:= .slice (rp hs1 k) nA (rc hs1 k)) 0 k rfl ty62 rfl rfl (oh_get (hSm1.hk om)) rfl) (fun _ hok14=> ?_)
       refine e_pv 12 rfl rfl (zI (j:=k) yb sz62 rfl rfl rfl om)<|e_one 13 (zQb (A':=fun _=>rowA 62 rV (some ⟨bq,oq,none⟩) cM ((oh hs1 nA).set k ((rp hs1 j),nA,(rc hs1 j)))) kr rfl rfl rfl (zL (j:=k) (x0:=((rp hs1 j),nA,(rc hs1 j))) (γ0:=()) rfl rfl (by first|omega|(rw [oh_len,hSm1.h];omega)|(rw [List.length_set,oh_len,hSm1.h];omega)) rfl rfl sz62 (fun _ _=>by trivial)) (fun _ _=> ?_))
       refine e_pv 14 rfl rfl (zI (j:=j) yb sz62 rfl rfl rfl om)<|e_one 15 (zQb (A':=fun _=>rowA 62 rV (some ⟨bq,oq,none⟩) cM (((oh hs1 nA).set k ((rp hs1 j),nA,(rc hs1 j))).set j ((rp hs1 k),nA,(rc hs1 k)))) kr rfl rfl rfl (zL (j:=j) (x0:=((rp hs1 k),nA,(rc hs1 k))) (γ0:=()) rfl rfl (by first|omega|(rw [oh_len,hSm1.h];omega)|(rw [List.length_set,oh_len,hSm1.h];omega)) rfl rfl sz62 (fun _ _=>by trivial)) (fun _ _=> ?_))
       refine zU kr<|zc ?_
       rw [← hpq]
       have e15:((((oh hs1 nA).set k ((rp hs1 j),nA,(rc hs1 j))).set j ((rp hs1 k),nA,(rc hs1 k))):List (Option Addr×Nat×Nat))=(oh (sw hs1 k j) nA):=by exact oh_sw _ _ _ _
       rw [e15]
       refine zjd (fun w mm=>mm.rmSwap (j:=k) (k:=j) 2 rfl (hSm1.hk om) (hSm1.hk om) hSm1.hl) ?_
       try dsimp only [List.eraseIdx]
       have e15_:(M1.set k (M1.getD j [])).set j (M1.getD k [])=Mx.swp M1 k j:=rfl
       rw [e15_]
       refine za<|e_ru (zd 2 ty32 rfl rfl (.t4 .nil))<|zm rfl rfl (.c rfl .n) ce54 (zpd (k1:=true) (u1:=wa) (v1:=wb) (q1:=(s*Dt.dp (Mx.e M1) j)) (hl:=by have h8:=hE.dq h1.2 om hG;omega)) (.c (j:=0) rfl .n) ?_
       rintro ⟨w316,w417⟩ -
       dsimp only [aq,nq,cq]
       refine zl 2 rfl rfl rfl rfl rfl sz32 rfl (.t4 .nil) (.s (.s .z))<|zf ?_
       exact zla ((sw hs1 k j),(Mx.swp M1 k j),(-s),w316,w417) (show Dt.El nA A b (sw hs1 k j) (Mx.swp M1 k j) j (-s)∧Mx.e (Mx.swp M1 k j) j j≠0 from by exact ⟨hEs,hps⟩) (mR rfl) (ho:=((.of [2,1,0,0] rfl):PickO _ _ _)) ((.e (j:=0) rfl (by rw [← hds]) (.of [1,2,3] rfl)):SelR _ _ _)
      ·
       have hjk:k=j:=by omega
       refine zw ?_
       exact zla (hs1,M1,s,wa,wb) (show Dt.El nA A b hs1 M1 j s∧Mx.e M1 j j≠0 from by have hpj:=hpv;rw [hjk] at hpj;exact ⟨hE,hpj⟩) (mR rfl) (ho:=((.of [0,0,0,0] rfl):PickO _ _ _)) ((.of [0,0,1,2] rfl):SelR _ _ _)
     ·
      rintro ⟨hs2,M2,s2,wa2,wb2⟩ hC
      replace hC:Dt.El nA A b hs2 M2 j s2∧Mx.e M2 j j≠0:=hC
      try dsimp only [cw]
      obtain ⟨hE2,hp2⟩:=hC
      have hSm2:=hE2.sm
      have hG2:4*Dt.Gq b j+2≤20000:=Nat.le_trans (Dt.Gq_mono b (show j+1≤nA by omega)) hG
      refine ze<|zW (OW:=[boxA b5 32 (cw [wa2,wb2])]) (O:=[rowA 62 rV pM cM (oh hs2 nA),rowsM 32 rQ hs2 M2,boxA b1 32 (cw [wz,wz])]) 9 mixed (.then (.block (.then (.then (.block (.then .ret)))))) kr<|e_uw 0 rfl rfl (zd 0 ty32 rfl rfl (.t4 .nil))<|e_dm 1 rfl rfl rfl<|e_dm 2 rfl rfl rfl<|e_uw 3 rfl rfl (zia 1 j rfl yb sz62 rfl (by first|rfl|assumption|omega|(rw [oh_len];exact hSm1.h)|(rw [oh_len];exact hSm2.h)) rfl rfl om)<|zvb 4 rfl rfl kr kr kr rfl rfl (zN (x0:=((rp hs2 j),nA,(rc hs2 j))) (v:= .slice (rp hs2 j) nA (rc hs2 j)) 1 j rfl ty62 rfl rfl (oh_get (hSm2.hk om)) rfl) (fun _ hok18=> ?_)
      refine e_dm 5 rfl rfl rfl<|e_uw 6 rfl rfl (zGa 2 j j rfl (hSm2.hk om) (hSm2.mk' om) (hSm2.row om) yc sz32 rfl rfl rfl om)<|zvb 7 rfl rfl kr kr kr rfl rfl (zYa (x0:=(Mx.e M2 j j)) 2 j j rfl (hSm2.hk om) (hSm2.mk' om) ty32 rfl rfl (gD (d:=(0:Rat)) (by rw [hSm2.row om];omega))) ?_
      rintro ⟨w19,w20⟩ -
      dsimp only [aq,nq,cq]
      refine zQa open1_rQ<|e_one 8 (zB rfl rfl rfl rfl (.c rfl (.c rfl .n)) ce56 (zsb (k1:=true) (u1:=wa2) (v1:=wb2) (q1:=(s2*Dt.dp (Mx.e M2) j)) (k2:=true) (u2:=w19) (v2:=w20) (q2:=(Mx.e M2 j j)) (hl:=by have h8:=hE2.dq h1.2 om hG;have h9:=hE2.bd j j;have h7:=Dt.Gq_mono b (show j≤nA by omega);omega)) (.c (j:=1) rfl (.c (j:=0) rfl .n)) ?_)
      rintro ⟨w321,w422⟩ -
      dsimp only [aq,nq,cq]
      refine e_one 9 (zC kr rfl rfl rfl rfl rfl sz32 rfl (.t4 .nil) ?_)
      refine zU kr<|zc<|ze<|za<|e_mv rfl<|e_p (zJ (z:=(((j+1):Nat):Int)) rfl rfl (w64 om))<|e_p (zb rfl)<|zf<|zc<|zt<|zca (X:=Nat×(List (List Rat))) (fun x:Nat×(List (List Rat))=>j+1≤x.1∧x.1≤nA∧Dt.Ei nA M2 x.2 hs2 j x.1 (Dt.Gq b j)) (fun x=>[(9,.int .i64 ((x.1:Nat):Int)),(7,.int .i64 ((j:Nat):Int)),(21,.int .i64 ((j:Nat):Int)),(20,.int .i64 ((nA:Nat):Int)),(6,.pointer (some ⟨b5,0,none⟩)),(5,.slice pM nA cM),(2,.pointer (some ⟨b1,0,none⟩))]) (fun x=>[boxA b5 32 (cw [w321,w422]),rowA 62 rV pM cM (oh hs2 nA),rowsM 32 rQ hs2 (x.2),boxA b1 32 (cw [wz,wz])]) (fun x=>[qF true w321 w422 ((s2*Dt.dp (Mx.e M2) j)*(Mx.e M2 j j)),qF true w19 w20 (Mx.e M2 j j),qF true wa2 wb2 (s2*Dt.dp (Mx.e M2) j),qF true wa wb (s*Dt.dp (Mx.e M1) j),qF true w33 w44 ((1:Int):Rat),slF (rS rQ) pA cA A]) (fun x:Nat×(List (List Rat))=>nA - x.1) ((j+1),M2) (show j+1≤(j+1)∧(j+1)≤nA∧Dt.Ei nA M2 M2 hs2 j (j+1) (Dt.Gq b j) from by exact ⟨Nat.le_refl _,by omega,hE2.ei⟩) (mR rfl) (ho:=((.of [0,0,0,0] rfl):PickO _ _ _)) ((.of [0,1,2,3,4,5] rfl):SelR _ _ _) ?_
      rintro ⟨i,M3⟩ hI2
      replace hI2:j+1≤i∧i≤nA∧Dt.Ei nA M2 M3 hs2 j i (Dt.Gq b j):=hI2
      try dsimp only [cw]
      obtain ⟨hi1,hi2,hI3⟩:=hI2
      have hSm3:=hI3.sm
      have hb3:∀r c,ye (Mx.e M3 r c)≤4*Dt.Gq b j+2:=hI3.bd
      refine ze<|ze<|za<|e_mv rfl<|e_mv rfl<|e_p (zv yb rfl)<|e_p (zY rfl rfl)<|zf<|zc<|zD rfl (fun h23=> ?_) (fun h23=> ?_)
      ·
       refine zw<|zc<|ze<|zt<|ze<|za<|e_mv rfl<|e_mv rfl<|e_ru (zia 1 i rfl yb sz62 rfl (by first|rfl|assumption|omega|(rw [oh_len];exact hSm1.h)|(rw [oh_len];exact hSm2.h)) rfl rfl om)<|r_vl rfl rfl (zN (x0:=((rp hs2 i),nA,(rc hs2 i))) (v:= .slice (rp hs2 i) nA (rc hs2 i)) 1 i rfl ty62 rfl rfl (oh_get (hSm3.hk om)) rfl) (fun _ hok24=> ?_)
       refine e_mv rfl<|e_ru (zGa 2 i j rfl (hSm3.hk om) (hSm3.mk' om) (hSm3.row om) yc sz32 rfl rfl rfl om)<|r_vl rfl rfl (zYa (x0:=(Mx.e M3 i j)) 2 i j rfl (hSm3.hk om) (hSm3.mk' om) ty32 rfl rfl (gD (d:=(0:Rat)) (by rw [hSm3.row om];omega))) ?_
       rintro ⟨w25,w26⟩ -
       dsimp only [aq,nq,cq]
       refine zqa open1_rQ<|zR rfl rfl (.c rfl .n) ce80 (znb (k1:=true) (u1:=w25) (v1:=w26) (q1:=(Mx.e M3 i j))) (.c (j:=0) rfl .n)<|e_p (zxa rfl rfl)<|zf<|zc<|zD rfl (fun h91=> ?_) (fun h91=> ?_)
       ·
        refine zpa (.c (i:=2) rfl (.c (i:=0) rfl (.c (i:=0) rfl (.c (i:=0) rfl .n))))<|zW (OW:=[rowsM 32 rQ hs2 M3]) (O:=[boxA b5 32 (cw [w321,w422]),rowA 62 rV pM cM (oh hs2 nA),boxA b1 32 (cw [wz,wz])]) 24 mixed (.block (.then (.then (.block (.block (.then (.then (.block (.then .ret))))))))) kr<|e_dm 0 rfl rfl rfl<|e_dm 1 rfl rfl rfl<|e_uw 2 rfl rfl (zia 2 i rfl yb sz62 rfl (by first|rfl|assumption|omega|(rw [oh_len];exact hSm1.h)|(rw [oh_len];exact hSm2.h)) rfl rfl om)<|zvb 3 rfl rfl kr kr kr rfl rfl (zN (x0:=((rp hs2 i),nA,(rc hs2 i))) (v:= .slice (rp hs2 i) nA (rc hs2 i)) 2 i rfl ty62 rfl rfl (oh_get (hSm3.hk om)) rfl) (fun _ hok27=> ?_)
        refine e_dm 4 rfl rfl rfl<|e_dm 5 rfl rfl rfl<|e_uw 6 rfl rfl (zia 2 j rfl yb sz62 rfl (by first|rfl|assumption|omega|(rw [oh_len];exact hSm1.h)|(rw [oh_len];exact hSm2.h)) rfl rfl om)<|zvb 7 rfl rfl kr kr kr rfl rfl (zN (x0:=((rp hs2 j),nA,(rc hs2 j))) (v:= .slice (rp hs2 j) nA (rc hs2 j)) 2 j rfl ty62 rfl rfl (oh_get (hSm3.hk om)) rfl) (fun _ hok28=> ?_)
        refine e_dm 8 rfl rfl rfl<|e_dm 9 rfl rfl rfl<|e_uw 10 rfl rfl (zia 2 i rfl yb sz62 rfl (by first|rfl|assumption|omega|(rw [oh_len];exact hSm1.h)|(rw [oh_len];exact hSm2.h)) rfl rfl om)<|zvb 11 rfl rfl kr kr kr rfl rfl (zN (x0:=((rp hs2 i),nA,(rc hs2 i))) (v:= .slice (rp hs2 i) nA (rc hs2 i)) 2 i rfl ty62 rfl rfl (oh_get (hSm3.hk om)) rfl) (fun _ hok29=> ?_)
        refine e_dm 12 rfl rfl rfl<|e_uw 13 rfl rfl (zGa 0 i j rfl (hSm3.hk om) (hSm3.mk' om) (hSm3.row om) yc sz32 rfl rfl rfl om)<|zvb 14 rfl rfl kr kr kr rfl rfl (zYa (x0:=(Mx.e M3 i j)) 0 i j rfl (hSm3.hk om) (hSm3.mk' om) ty32 rfl rfl (gD (d:=(0:Rat)) (by rw [hSm3.row om];omega))) ?_
        rintro ⟨w30,w31⟩ -
        dsimp only [aq,nq,cq]
        refine zQa open1_rQ<|e_dm 15 rfl rfl rfl<|e_dm 16 rfl rfl rfl<|e_uw 17 rfl rfl (zia 2 j rfl yb sz62 rfl (by first|rfl|assumption|omega|(rw [oh_len];exact hSm1.h)|(rw [oh_len];exact hSm2.h)) rfl rfl om)<|zvb 18 rfl rfl kr kr kr rfl rfl (zN (x0:=((rp hs2 j),nA,(rc hs2 j))) (v:= .slice (rp hs2 j) nA (rc hs2 j)) 2 j rfl ty62 rfl rfl (oh_get (hSm3.hk om)) rfl) (fun _ hok32=> ?_)
        refine e_dm 19 rfl rfl rfl<|e_uw 20 rfl rfl (zGa 0 j j rfl (hSm3.hk om) (hSm3.mk' om) (hSm3.row om) yc sz32 rfl rfl rfl om)<|zvb 21 rfl rfl kr kr kr rfl rfl (zYa (x0:=(Mx.e M3 j j)) 0 j j rfl (hSm3.hk om) (hSm3.mk' om) ty32 rfl rfl (gD (d:=(0:Rat)) (by rw [hSm3.row om];omega))) ?_
        rintro ⟨w33,w34⟩ -
        dsimp only [aq,nq,cq]
        refine zQa open1_rQ<|e_dm 23 rfl rfl rfl<|e_one 22 (zB rfl rfl rfl rfl (.c rfl (.c rfl .n)) ce82 (zOd (u1:=w30) (v1:=w31) (q1:=(Mx.e M3 i j)) (u2:=w33) (v2:=w34) (q2:=(Mx.e M3 j j)) (hl:=by have h8:=hb3 i j;have h9:=hb3 j j;omega) (h0:=by rw [hI3.sa j j (.inl (Nat.le_refl _))];exact hp2)) (.c (j:=1) rfl (.c (j:=0) rfl .n)) ?_)
        rintro ⟨w335,w436⟩ -
        dsimp only [aq,nq,cq]
        obtain ⟨xk,hxk⟩:∃z:Rat,z=((Mx.e M3 i j) / (Mx.e M3 j j)):=⟨_,rfl⟩
        rw [← hxk]
        have hxq:ye xk≤2*(4*Dt.Gq b j+2):=by rw [hxk];have h7:=Big.hq_div (Mx.e M3 i j) (y:=Mx.e M3 j j) (by rw [hI3.sa j j (.inl (Nat.le_refl _))];exact hp2);have h8:=hb3 i j;have h9:=hb3 j j;omega
        refine e_one 24 (zyf (first:=[]) (cap:=[]) (A':=fun y=>rowsM 32 rQ hs2 (M3.set i (Mx.sb (M3.getD i []) (M3.getD j []) xk j nA))) kr rfl rfl rfl rfl (.c rfl (.c rfl (.c rfl (.c rfl .n)))) ce81 (zPd (hs:=hs2) (M:=M3) (K:=nA) (N:=nA) (ii:=i) (rr:=j) (u1:=w335) (v1:=w436) (xk:=xk) (j0:=j) (hSm:=by first|rfl|assumption|omega|exact ⟨by omega,by omega⟩) (hii:=by first|rfl|assumption|omega|exact ⟨by omega,by omega⟩) (hrr:=by first|rfl|assumption|omega|exact ⟨by omega,by omega⟩) (hne:=by first|rfl|assumption|omega|exact ⟨by omega,by omega⟩) (hj0:=by first|rfl|assumption|omega|exact ⟨by omega,by omega⟩) (hN:=by first|rfl|assumption|omega|exact ⟨by omega,by omega⟩) (hx:=by exact Nat.le_trans hxq om) (hb:=by exact hI3.bd.up om)) (.c (j:=0) rfl .n) ?_)
        rintro ⟨⟩ -
        dsimp only [aq,nq,cq]
        refine zU kr<|zK<|zc<|za<|e_mv rfl<|e_p (zJ (z:=(((i+1):Nat):Int)) rfl rfl (w64 om))<|e_p (zb rfl)<|zf<|zV ((i+1),(M3.set i (Mx.sb (M3.getD i []) (M3.getD j []) xk j nA))) (show j+1≤(i+1)∧(i+1)≤nA∧Dt.Ei nA M2 (M3.set i (Mx.sb (M3.getD i []) (M3.getD j []) xk j nA)) hs2 j (i+1) (Dt.Gq b j) from by exact ⟨by omega,by omega,hI3.step h1.2 hE2.bd om om (by rw [hI3.sa j j (.inl (Nat.le_refl _))];exact hp2) hxk⟩) (by show nA - (i+1)<nA - i;omega) (mR rfl) (ho:=((.of [1,1,0,0] rfl):PickO _ _ _)) ((.of [4,5,6,7,8,9] rfl):SelR _ _ _)
       ·
        refine zw<|zK<|zc<|za<|e_mv rfl<|e_p (zJ (z:=(((i+1):Nat):Int)) rfl rfl (w64 om))<|e_p (zb rfl)<|zf<|zV ((i+1),M3) (show j+1≤(i+1)∧(i+1)≤nA∧Dt.Ei nA M2 M3 hs2 j (i+1) (Dt.Gq b j) from by exact ⟨by omega,by omega,hI3.skip (Td.sgq_0 (Decidable.not_not.1 h91))⟩) (by show nA - (i+1)<nA - i;omega) (mR rfl) (ho:=((.of [0,0,0,0] rfl):PickO _ _ _)) ((.of [1,2,3,4,5,6] rfl):SelR _ _ _)
      ·
       refine zaa<|zg<|zg<|zp<|zK<|zc<|za<|e_p (zJ (z:=(((j+1):Nat):Int)) rfl rfl (w64 om))<|e_mv rfl<|zf ?_
       have ein:i=nA:=by omega
       rw [ein] at hI3
       obtain ⟨hE4,hrow4,hdp4⟩:=hI3.done hE2 om
       refine zV ((j+1),hs2,M3,s2,w321,w422) (show (j+1)≤nA∧Dt.El nA A b hs2 M3 (j+1) s2 from by exact ⟨by omega,hE4⟩) (by show nA - (j+1)<nA - j;omega) (mR rfl) (ho:=((.of [0,0,0,0] rfl):PickO _ _ _)) ((.e (j:=0) rfl (by rw [show Dt.dp (Mx.e M3) (j+1)=Dt.dp (Mx.e M3) j*Mx.e M3 j j from rfl,←hdp4,hrow4,Rat.mul_assoc]) (.of [4,5] rfl)):SelR _ _ _)
 ·
  refine zaa<|zg<|zg<|zp<|zc<|ze<|za<|e_ru (zd 0 ty32 rfl rfl (.t4 .nil))<|zl 3 rfl rfl rfl rfl rfl sz32 rfl (.t4 .nil) (.s (.s (.s .z)))<|e_p (zb rfl)<|zf<|zc<|zG ?_
  have ejn:j=nA:=by omega
  rw [ejn] at hE
  exact zBa Tryz.results24 (wa,wb) trivial (zq 3 ty32 rfl rfl (.t4 .nil)) (zo rfl) rfl (ho:=oN) ((.e (j:=0) rfl (by rw [← hE.fin h1.2,ejn]) .n):SelR _ _ _)
end Go.Proofs.YtpdbimfnhglhpaaGreat.Sp
namespace Go.Proofs.YtpdbimfnhglhpaaGreat.Sp
open Go
set_option linter.unusedVariables false
section
variable {P : Program} {n : Sz} {m : Fm} {O : List As} {R : List Fa} {d : Option Tmp} {ty : TypeId} {ps : String} {af : Array Edge} {gd : Option (Nat × Bool)} {α : Type}
end
structure Bb where
  (ar le tp rt bt sx sy xx xy yy ms mx my:Int)
deriving DecidableEq
def b0:Bb:=⟨0,0,0,0,0,0,0,0,0,0,0,0,0⟩
end Go.Proofs.YtpdbimfnhglhpaaGreat.Sp
namespace Go.Proofs.YtpdbimfnhglhpaaGreat.Sp
open Go
structure Gr where
  (w h m:Int) (p:Option Addr) (n c:Nat)
end Go.Proofs.YtpdbimfnhglhpaaGreat.Sp
namespace Go.Proofs.YtpdbimfnhglhpaaGreat.Sp
open Go
set_option linter.unusedVariables false
section
variable {P : Program} {n : Sz} {m : Fm} {O : List As} {R : List Fa} {d : Option Tmp} {ty : TypeId} {ps : String} {af : Array Edge} {gd : Option (Nat × Bool)} {α : Type}
theorem zIg {t T:TypeId} {bytes:Nat} {z:Value} {x y:Operand} {k1 k2:IntKind} {z1 z2:Int} {k:Nat} {r:Rp α} (hu:P.underlying t=some (.slice T)) (hI:Inf P T r.sz bytes z) (h1:evo m x=some (.int k1 z1)) (h2:evo m y=some (.int k2 z2))
    (hz1:z1=0) (hz2:z2=(k:Int)) (hb:bytes*k≤281474976710656) (hm:k≤9223372036854775807) (hzs:z.cells.size=r.sz) (hpos:0<r.sz):
    Ef P n ⟨d,.makeSlice t x y,ty,ps,af,gd⟩ m [] R (Y:=Nat) (fun _=>True) (fun b=> .slice (some ⟨b,0,none⟩) 0 k) (fun b=>[rowA T r (some ⟨b,0,none⟩) k []]) (fun _=>[]):=by
  intro a f w hh g s rr ap hw hg K Q hK
  have e:hh=Hp.emp:=s
  subst e;subst hz1;subst hz2
  obtain ⟨i,hi,hz,hsz,hby⟩:=hI.info
  have hrun:=run_make (P:=P) w t T i z hu hi hz k1 k2 (0:Int) (k:Int) (by omega) (by omega) (by rw [hby,←Int.natCast_mul];generalize bytes*k=q at hb;omega) (by omega)
  have hrun':(execOp a.eval ⟨d,.makeSlice t x y,ty,ps,af,gd⟩).run P w= .ok (.value (.slice (some ⟨w.heap.size,0,none⟩) 0 k)) (w.alloc (.cells (madeCells z.cells (k*r.sz)) T)):=by
    simp only [execOp,f.ev h1,f.ev h2,Sem.run_bind,hrun,Result.andThen_ok,Sem.run_pure,hsz,Int.toNat_natCast]
    rfl
  refine op_value hrun' ?_
  refine hK w.heap.size _ trivial (mem_new hw hg ?_)
  exact .inr ⟨w.heap.size,0,(madeCells z.cells (k*r.sz)).toList,rfl,Nat.zero_le _,by unfold maxLen;omega,by rw [Array.length_toList,size_madeCells,Nat.zero_add];exact Nat.le_refl _,by rw [Array.toArray_toList],fun j x hx=>by simp at hx⟩
end
end Go.Proofs.YtpdbimfnhglhpaaGreat.Sp
namespace Go.Proofs.YtpdbimfnhglhpaaGreat.Sp
open Go
set_option linter.unusedVariables false
set_option maxRecDepth 100000
set_option maxHeartbeats 8000000
theorem zKb:Con yd 84 [] [] [] (Y:=Wd×Wd) (fun y=>True) (fun y=> .agg #[y.1.b,y.1.l,y.2.b,y.2.l]) (fun y=>[]) (fun y=>[qF true y.1 y.2 ((0:Int):Rat)]):=by
 refine zk Tryz.func84 rfl rfl rfl (fun c=> ?_)
 show RunC _ _ _ _ _ [] [] []
 refine ze<|za<|zM rfl rfl (zA zr32 rfl) (fun b1=> ?_)
 refine zf<|zc<|ze<|za<|zm rfl rfl (.c rfl .n) ce52 (zJa (z:=0) (hz:=cbd)) (.n) ?_
 rintro ⟨w33,w44⟩ -
 dsimp only [aq,nq,cq]
 refine zl 0 rfl rfl rfl rfl rfl sz32 rfl (.t4 .nil) .z<|zf<|zc<|zG ?_
 exact zx Tryz.results84 (w33,w44) trivial (zq 0 ty32 rfl rfl (.t4 .nil)) rfl (ho:=oN) (s0 rfl)
theorem zKa {p1:Option Addr} {n1:Nat} {c1:Nat} {l1:List (Option Rat)} (hn1:l1.length=n1) (hm1:n1≤1000):Con yd 159 [.slice p1 n1 c1] [] [slF rE p1 c1 l1] (Y:=(Option Addr)×Nat) (fun y=>True) (fun y=> .slice (y.1) ((Po.cl (Po.vals l1)).length) (y.2)) (fun y=>[]) (fun y=>[slF rQ (y.1) (y.2) (Po.cl (Po.vals l1))]):=by
 refine zk Tryz.func159 rfl rfl rfl (fun c=> ?_)
 show RunC _ _ _ _ _ [(0,.slice p1 n1 c1)] [] [slF rE p1 c1 l1]
 refine zP 0 rfl (fun hL0=> ?_)
 refine ze<|za<|e_p (zb rfl)<|zf<|zc<|ze<|za<|e_mv rfl<|e_p (zv yc rfl)<|zma rfl rfl (zIg (r:=rQ) (k:=n1) ya inf32 rfl rfl rfl rfl om om rfl dd) (fun b1 _=> ?_)
 refine e_p (zb rfl)<|zf<|zc<|ze<|ze<|za<|e_mv rfl<|e_p (zv yc rfl)<|e_mv rfl<|zf<|zc<|zt<|zca (X:=Nat×(Option Addr)×Nat×(List Rat)) (fun x:Nat×(Option Addr)×Nat×(List Rat)=>x.1≤n1∧x.2.2.2=(Po.vals l1).take x.1) (fun x=>[(3,.slice (x.2.1) (x.2.2.2.length) (x.2.2.1)),(12,.int .i64 ((x.1:Nat):Int)),(11,.int .i64 ((n1:Nat):Int)),(10,.slice p1 n1 c1),(2,.slice none 0 0)]) (fun x=>[rowA 32 rQ (x.2.1) (x.2.2.1) (x.2.2.2)]) (fun x=>[slF rE p1 c1 l1]) (fun x:Nat×(Option Addr)×Nat×(List Rat)=>n1 - x.1) (0,some ⟨b1,0,none⟩,n1,([]:List Rat)) (show 0≤n1∧([]:List Rat)=(Po.vals l1).take 0 from by exact ⟨Nat.zero_le _,rfl⟩) ((.e rfl cgs (.e rfl cgs (.of rfl))):SubM _ _) (ho:=((.e (i:=0) rfl cgs .n):PickO _ _ _)) (s0 rfl) ?_
 rintro ⟨i,pR,cR,A⟩ hI
 replace hI:i≤n1∧A=(Po.vals l1).take i:=hI
 try dsimp only
 obtain ⟨hi,hA⟩:=hI
 have hAl:A.length=i:=by rw [hA,List.length_take,Po.vals_len];omega
 refine ze<|za<|e_p (zY rfl rfl)<|zf<|zc<|ze<|zD rfl (fun h2=> ?_) (fun h2=> ?_)
 ·
  refine zw<|zc<|ze<|zt<|ze<|za<|r_vl rfl rfl (zQ (x0:=(l1.getD i (none:Option Rat))) 0 i rfl yc sz32 rfl (by first|rfl|assumption|(simp;done)|omega) rfl rfl (gD (d:=(none:Option Rat)) om)) ?_
  rintro ⟨b3,o4,w5,w6⟩ -
  dsimp only [aq,nq,cq]
  refine zqa open_rE<|e_ru (zO (j:=0) 0 ty32 rfl rfl rfl (.t4 .nil))<|zM rfl rfl (zA zr32 rfl) (fun b7=> ?_)
  refine zl 0 rfl rfl rfl rfl rfl sz32 rfl (.t4 .nil) .z<|zf<|zc<|za<|e_mv rfl<|e_ru (zd 0 ty32 rfl rfl (.t4 .nil))<|zm rfl rfl (.c rfl .n) ce85 (zva (k1:=(l1.getD i (none:Option Rat)).isSome) (u1:=w5) (v1:=w6) (q1:=((l1.getD i (none:Option Rat)).getD 0))) (.c (j:=1) rfl .n) ?_
  rintro ⟨w38,w49⟩ -
  dsimp only [aq,nq,cq]
  refine zma rfl rfl (zka (r:=rQ) (k:=1) ya inf32 rfl dd dd dd (.c (x:=((l1.getD i (none:Option Rat)).getD 0)) (cs:=[w38.b,w38.l,w49.b,w49.l]) (w38,w49) rfl rfl rfl (fun g hr=>Holds.get 0 rfl hr) .n)) (fun b10 _=> ?_)
  refine zea 0 rfl .z<|zya 2 rfl rfl rfl (zsa 0 rfl ya inf32 dd rfl rfl (by first|rfl|assumption|(simp;done)|omega) rfl (by first|rfl|assumption|(simp;done)|omega) om om) (fun _=>(.s (.s .z))) ?_
  rintro ⟨p11,c12⟩ -
  dsimp only [aq,nq,cq]
  refine e_p (zb rfl)<|zf<|zK<|zc<|za<|e_p (zJ (z:=(((i+1):Nat):Int)) rfl rfl (w64 om))<|e_mv rfl<|zf<|zV ((i+1),p11,c12,(A++([((l1.getD i (none:Option Rat)).getD 0)]))) (show (i+1)≤n1∧(A++([((l1.getD i (none:Option Rat)).getD 0)]))=(Po.vals l1).take (i+1) from by exact ⟨by omega,by rw [hA];exact Po.vals_take om⟩) (by show n1 - (i+1)<n1 - i;omega) ((.e rfl (by simp) (.of rfl)):SubM _ _) (ho:=((.c (i:=2) rfl .n):PickO _ _ _)) ((.c (j:=5) rfl .n):SelR _ _ _)
 ·
  refine zaa<|zg<|zg<|zp<|zc<|ze<|zVb 0 rfl .z<|zP 0 rfl (fun hLc=> ?_)
  have hAv:A=(Po.vals l1):=by rw [hA,List.take_of_length_le (by rw [Po.vals_len];omega)]
  refine za<|e_mv rfl<|e_p (zv ya rfl)<|e_p (zb rfl)<|zf<|zc<|ze<|zt<|zca (X:=Nat) (fun x:Nat=>x≤n1∧Po.tn (Po.vals l1) n1=Po.tn (Po.vals l1) x) (fun x=>[(6,.int .i64 ((x:Nat):Int)),(3,.slice pR (A.length) cR),(2,.slice none 0 0)]) (fun x=>[]) (fun x=>[slF rQ pR cR A,slF rE p1 c1 l1]) (fun x:Nat=>x) n1 (show n1≤n1∧Po.tn (Po.vals l1) n1=Po.tn (Po.vals l1) n1 from by exact ⟨by omega,rfl⟩) ((.e rfl cgs (.c rfl (.c rfl .n))):SubM _ _) (ho:=oN) ((.of [0,1] rfl):SelR _ _ _) ?_
  rintro j hI
  replace hI:j≤n1∧Po.tn (Po.vals l1) n1=Po.tn (Po.vals l1) j:=hI
  try dsimp only
  obtain ⟨hj,hT⟩:=hI
  refine ze<|zab (X:=Unit) (fun x=>True) (fun x=>[(34,.bool (decide ((0<((j:Nat):Int))∧(yi (A.getD ((((j:Nat):Int) - 1).toNat) (0:Rat))=0)))),(6,.int .i64 ((j:Nat):Int)),(3,.slice pR (A.length) cR),(2,.slice none 0 0)]) (fun x=>[]) (fun x=>[slF rQ pR cR A,slF rE p1 c1 l1]) ?_ ?_
  ·
   refine za<|e_mv rfl<|e_p (zra rfl rfl)<|zga rfl rfl (zja rfl) (fun g1=> ?_) (fun g1=> ?_)
   ·
    refine e_mv rfl<|e_mv rfl<|e_p (zha (z:=(((j:Nat):Int) - 1)) rfl rfl (w64 om))<|r_vl rfl rfl (zQ (x0:=(A.getD ((((j:Nat):Int) - 1).toNat) (0:Rat))) 0 ((((j:Nat):Int) - 1).toNat) rfl ya sz32 rfl (by first|rfl|assumption|(simp;done)|omega) rfl om (gD (d:=(0:Rat)) om)) ?_
    rintro ⟨b13,o14,w15,w17⟩ -
    dsimp only [aq,nq,cq]
    refine zqa open_rQ<|e_ru (zO (j:=0) 0 ty32 rfl rfl rfl (.t4 .nil))<|zR rfl rfl (.c rfl .n) ce80 (znb (k1:=true) (u1:=w15) (v1:=w17) (q1:=(A.getD ((((j:Nat):Int) - 1).toNat) (0:Rat)))) (.c (j:=1) rfl .n)<|e_p (zna rfl rfl)<|e_p (zE rfl rfl)<|zf ?_
    exact zla () tt9 ((.e rfl (congrArg Value.bool (by first|(exact (decide_eq_false (fun k=>g1 k.1)).symm)|exact decide_eq_decide.2 ⟨fun k=>⟨g1,k⟩,fun k=>k.2⟩)) (.of rfl)):SubM _ _) (ho:=oN) ((.of [2,3] rfl):SelR _ _ _)
   ·
    refine e_no<|e_no<|e_no<|e_no<|e_no<|e_no<|e_no<|e_p (zE rfl rfl)<|zf ?_
    exact zla () tt9 ((.e rfl (congrArg Value.bool (by first|(exact (decide_eq_false (fun k=>g1 k.1)).symm)|exact decide_eq_decide.2 ⟨fun k=>⟨g1,k⟩,fun k=>k.2⟩)) (.of rfl)):SubM _ _) (ho:=oN) ((.of [0,1] rfl):SelR _ _ _)
  ·
   rintro ⟨⟩ -
   try dsimp only
   refine zD rfl (fun hz=> ?_) (fun hz=> ?_)
   ·
    refine zw<|zc<|zt<|za<|e_mv rfl<|e_p (zha (z:=(((j:Nat):Int) - 1)) rfl rfl (w64 om))<|e_p (zb rfl)<|zf<|zK<|zV (j - 1) (show (j - 1)≤n1∧Po.tn (Po.vals l1) n1=Po.tn (Po.vals l1) (j - 1) from by exact ⟨by omega,hT.trans (Po.tn_yes om (hAv ▸ Po.hz_get om hz.2))⟩) (by have h9:=hz.1;omega) ((.e rfl cgs (.c rfl (.c rfl .n))):SubM _ _) (ho:=oN) ((.of [0,1] rfl):SelR _ _ _)
   ·
    refine zaa<|zg<|zg<|zp<|zc<|ze<|za<|e_mv rfl<|e_mv rfl<|e_mv rfl<|e_p (zag (hi:=j) ya sz32 rfl rfl rfl om)<|zqa (zbg 0 rfl j om)<|e_p (zb rfl)<|zf<|zc<|zG ?_
    have hv9:(Po.cl (Po.vals l1))=A.take j:=by rw [Po.cl_take (by rw [Po.vals_len];exact hn1) hT (Po.tn_no (hAv ▸ Po.hz_no hz)),hAv]
    exact zx Tryz.results159 (pR,j) trivial (zo rfl) (by rw [hv9,List.length_take,Nat.min_eq_left om]) (ho:=oN) ((.e (j:=0) rfl (by rw [hv9]) .n):SelR _ _ _)
end Go.Proofs.YtpdbimfnhglhpaaGreat.Sp
namespace Go.Proofs.YtpdbimfnhglhpaaGreat.Sp
open Go
set_option linter.unusedVariables false
set_option maxRecDepth 100000
set_option maxHeartbeats 8000000
theorem ztd {p1:Option Addr} {n1:Nat} {c1:Nat} {l1:List (Option Rat)} {i:Nat} (hn1:l1.length=n1) (hm1:n1≤1000) (hi:i≤3000):Con yd 227 [.slice p1 n1 c1,.int .i64 ((i:Nat):Int)] [] [slF rE p1 c1 l1] (Y:=Wd×Wd×Bool) (fun y=>True) (fun y=> .agg #[y.1.b,y.1.l,y.2.1.b,y.2.1.l]) (fun y=>[]) (fun y=>[qF y.2.2 y.1 y.2.1 ((l1.getD i none).getD 0)]):=by
 refine zk Tryz.func227 rfl rfl rfl (fun c=> ?_)
 show RunC _ _ _ _ _ [(0,.slice p1 n1 c1),(1,.int .i64 ((i:Nat):Int))] [] [slF rE p1 c1 l1]
 refine zP 0 rfl (fun hL0=> ?_)
 refine ze<|za<|zM rfl rfl (zA zr32 rfl) (fun b1=> ?_)
 refine zf<|zc<|ze<|ze<|za<|e_mv rfl<|e_mv rfl<|e_p (zv ya rfl)<|e_p (zY rfl rfl)<|zf<|zc<|zD rfl (fun hlt=> ?_) (fun hlt=> ?_)
 ·
  refine ze<|za<|e_mv rfl<|e_mv rfl<|r_vl rfl rfl (zQ (x0:=(l1.getD i (none:Option Rat))) 0 i rfl ya sz32 rfl (by first|rfl|assumption|(simp;done)|omega) rfl rfl (gD (d:=(none:Option Rat)) om)) ?_
  rintro ⟨b2,o3,w4,w5⟩ -
  dsimp only [aq,nq,cq]
  refine zqa open_rE<|e_ru (zO (j:=0) 0 ty32 rfl rfl rfl (.t4 .nil))<|zl 0 rfl rfl rfl rfl rfl sz32 rfl (.t4 .nil) .z<|zf<|zc<|zG<|zu ?_
  exact zx Tryz.results227 (w4,w5,((l1.getD i none).isSome)) trivial (zq 0 ty32 rfl rfl (.t4 .nil)) rfl (ho:=oN) ((.c (j:=1) rfl .n):SelR _ _ _)
 ·
  refine zw<|zc<|ze<|za<|zm rfl rfl (.n) ce84 (zKb) (.n) ?_
  rintro ⟨w36,w47⟩ -
  dsimp only [aq,nq,cq]
  refine zl 0 rfl rfl rfl rfl rfl sz32 rfl (.t4 .nil) .z<|zf<|zc<|zG ?_
  exact zx Tryz.results227 (w36,w47,true) trivial (zq 0 ty32 rfl rfl (.t4 .nil)) rfl (ho:=oN) ((.e (j:=0) rfl (by rw [Po.at_end om]) .n):SelR _ _ _)
theorem zof {p1:Option Addr} {n1:Nat} {c1:Nat} {l1:List (Option Rat)} {p2:Option Addr} {n2:Nat} {c2:Nat} {l2:List (Option Rat)} (hn1:l1.length=n1) (hm1:n1≤1000) (hn2:l2.length=n2) (hm2:n2≤1000) (hb:∀i,ye ((l1.getD i none).getD 0)+ye ((l2.getD i none).getD 0)+1≤1099511627776):Con yd 165 [.slice p1 n1 c1,.slice p2 n2 c2,.func (.func 57) #[] #[]] [] [slF rE p1 c1 l1,slF rE p2 c2 l2] (Y:=(Option Addr)×Nat) (fun y=>True) (fun y=> .slice (y.1) ((Po.add (Po.vals l1) (Po.vals l2)).length) (y.2)) (fun y=>[]) (fun y=>[slF rQ (y.1) (y.2) (Po.add (Po.vals l1) (Po.vals l2))]):=by
 refine zk Tryz.func165 rfl rfl rfl (fun c=> ?_)
 show RunC _ _ _ _ _ [(0,.slice p1 n1 c1),(1,.slice p2 n2 c2),(2,.func (.func 57) #[] #[])] [] [slF rE p1 c1 l1,slF rE p2 c2 l2]
 refine zP 0 rfl (fun hL0=> ?_)
 refine zP 1 rfl (fun hL1=> ?_)
 refine ze<|za<|e_p (zb rfl)<|zf<|zc<|ze<|za<|e_mv rfl<|e_p (zv ya rfl)<|e_mv rfl<|e_p (zv ya rfl)<|e_p (v:= .int .i64 (((max n1 n2):Nat):Int)) (by rw [show ((((max n1 n2):Nat):Int):Int)=max ((n1:Nat):Int) ((n2:Nat):Int) by omega];exact zBe rfl rfl) ?_
 have e1:((((max n1 n2):Nat):Int):Int)=(((max n1 n2):Nat):Int):=by omega
 rw [e1]
 refine zma rfl rfl (zua (r:=rE) (k:=(max n1 n2)) (x0:=none) (γ0:=(wz,wz)) yc inf32 rfl rfl rfl rfl om om rfl (fun g _=>eF_wz g) dd) (fun b2 _=> ?_)
 refine e_p (zb rfl)<|zf<|zc<|ze<|ze<|za<|e_mv rfl<|e_p (zv yc rfl)<|e_mv rfl<|zf<|zc<|zt<|zca (X:=Nat×(List (Option Rat))) (fun x:Nat×(List (Option Rat))=>x.1≤max n1 n2∧x.2.length=max n1 n2∧∀j,j<x.1→x.2.getD j none=some (((l1.getD j none).getD 0)+((l2.getD j none).getD 0))) (fun x=>[(17,.int .i64 ((x.1:Nat):Int)),(16,.int .i64 (((max n1 n2):Nat):Int)),(7,.slice (some ⟨b2,0,none⟩) (max n1 n2) (max n1 n2)),(6,.slice none 0 0),(0,.slice p1 n1 c1),(1,.slice p2 n2 c2),(2,.func (.func 57) #[] #[])]) (fun x=>[rowA 32 rE (some ⟨b2,0,none⟩) (max n1 n2) (x.2)]) (fun x=>[slF rE p1 c1 l1,slF rE p2 c2 l2]) (fun x:Nat×(List (Option Rat))=>max n1 n2 - x.1) (0,List.replicate (max n1 n2) none) (show 0≤max n1 n2∧(List.replicate (max n1 n2) none).length=max n1 n2∧∀j,j<0→(List.replicate (max n1 n2) none).getD j none=some (((l1.getD j none).getD 0)+((l2.getD j none).getD 0)) from by exact ⟨Nat.zero_le _,List.length_replicate,fun j hj=>by omega⟩) ((.e rfl cgs (.of rfl)):SubM _ _) (ho:=((.e (i:=0) rfl cgs .n):PickO _ _ _)) ((.of [0,1] rfl):SelR _ _ _) ?_
 rintro ⟨i,A⟩ hI
 replace hI:i≤max n1 n2∧A.length=max n1 n2∧∀j,j<i→A.getD j none=some (((l1.getD j none).getD 0)+((l2.getD j none).getD 0)):=hI
 try dsimp only
 obtain ⟨hi,hAl,hA⟩:=hI
 refine ze<|za<|e_p (zY rfl rfl)<|zf<|zc<|ze<|zD rfl (fun h3=> ?_) (fun h3=> ?_)
 ·
  refine zw<|zc<|ze<|zt<|ze<|za<|e_mv rfl<|e_p (zb rfl)<|zf<|zc<|za<|e_mv rfl<|e_mv rfl<|e_mv rfl<|e_mv rfl<|e_mv rfl<|zm rfl rfl (.c rfl (.c rfl .n)) ce227 (ztd (p1:=p1) (n1:=n1) (c1:=c1) (l1:=l1) (i:=i) (hn1:=ass) (hm1:=ass) (hi:=by first|rfl|assumption|exact hb _|omega)) (.c (j:=0) rfl .n) ?_
  rintro ⟨w34,w45,k96⟩ -
  dsimp only [aq,nq,cq]
  refine e_mv rfl<|e_mv rfl<|zm rfl rfl (.c rfl (.c rfl .n)) ce227 (ztd (p1:=p2) (n1:=n2) (c1:=c2) (l1:=l2) (i:=i) (hn1:=ass) (hm1:=ass) (hi:=by first|rfl|assumption|exact hb _|omega)) (.c (j:=2) rfl .n) ?_
  rintro ⟨w37,w48,k99⟩ -
  dsimp only [aq,nq,cq]
  refine zsc (first:=[]) (cap:=[]) rfl rfl rfl (.c rfl (.c rfl .n)) ce57 (zrb (k1:=k96) (u1:=w34) (v1:=w45) (q1:=((l1.getD i none).getD 0)) (k2:=k99) (u2:=w37) (v2:=w48) (q2:=((l2.getD i none).getD 0)) (hl:=by first|rfl|assumption|exact hb _|omega)) (.c (j:=1) rfl (.c (j:=0) rfl .n)) ?_
  rintro ⟨w310,w411⟩ -
  dsimp only [aq,nq,cq]
  refine e_p (zI (j:=i) yc sz32 rfl rfl rfl om)<|zya 0 rfl rfl rfl (zL (r:=rE) (j:=i) (x0:=(some (((l1.getD i none).getD 0)+((l2.getD i none).getD 0)))) (γ0:=(w310,w411)) rfl rfl (by first|omega|(rw [List.length_map];omega)|(simp only [List.length_set];omega)|(simp;done)|(simp;omega)) rfl rfl sz32 (fun g hr=>qF_e (Holds.get 0 rfl hr))) (fun _=> .z) (fun _ _=> ?_)
  refine zf<|zK<|zc<|za<|e_p (zJ (z:=(((i+1):Nat):Int)) rfl rfl (w64 om))<|e_mv rfl<|zf<|zV ((i+1),(A.set i (some (((l1.getD i none).getD 0)+((l2.getD i none).getD 0))))) (show (i+1)≤max n1 n2∧(A.set i (some (((l1.getD i none).getD 0)+((l2.getD i none).getD 0)))).length=max n1 n2∧∀j,j<(i+1)→(A.set i (some (((l1.getD i none).getD 0)+((l2.getD i none).getD 0)))).getD j none=some (((l1.getD j none).getD 0)+((l2.getD j none).getD 0)) from by exact ⟨by omega,by rw [List.length_set];exact hAl,Po.set_step hA om rfl⟩) (by show max n1 n2 - (i+1)<max n1 n2 - i;omega) (mR rfl) (ho:=(o0 rfl)) ((.of [3,4] rfl):SelR _ _ _)
 ·
  refine zaa<|zg<|zg<|zp<|zc<|ze<|za<|e_mv rfl<|zea 0 rfl .z<|zm rfl rfl (.c rfl .n) ce159 (zKa (p1:=some ⟨b2,0,none⟩) (n1:=(max n1 n2)) (c1:=(max n1 n2)) (l1:=A) (hn1:=by first|rfl|assumption|exact hb _|omega) (hm1:=by first|rfl|assumption|exact hb _|omega)) (.c (j:=0) rfl .n) ?_
  rintro ⟨p912,c913⟩ -
  dsimp only [aq,nq,cq]
  refine e_p (zb rfl)<|zf<|zc<|zG ?_
  have hv9:=Po.vals_add (l:=l1) (m:=l2) (n:=max n1 n2) (by rw [hn1,hn2]) hAl (fun j hj=>hA j om)
  exact zx Tryz.results165 (p912,c913) trivial (zo rfl) (by rw [hv9]) (ho:=oN) ((.e (j:=0) rfl (by rw [hv9]) .n):SelR _ _ _)
theorem zpf {p1:Option Addr} {n1:Nat} {c1:Nat} {l1:List (Option Rat)} {p2:Option Addr} {n2:Nat} {c2:Nat} {l2:List (Option Rat)} (hn1:l1.length=n1) (hm1:n1≤1000) (hn2:l2.length=n2) (hm2:n2≤1000) (hb:∀i,ye ((l1.getD i none).getD 0)+ye ((l2.getD i none).getD 0)+1≤1099511627776):Con yd 165 [.slice p1 n1 c1,.slice p2 n2 c2,.func (.func 147) #[] #[]] [] [slF rE p1 c1 l1,slF rE p2 c2 l2] (Y:=(Option Addr)×Nat) (fun y=>True) (fun y=> .slice (y.1) ((Po.sub (Po.vals l1) (Po.vals l2)).length) (y.2)) (fun y=>[]) (fun y=>[slF rQ (y.1) (y.2) (Po.sub (Po.vals l1) (Po.vals l2))]):=by
 refine zk Tryz.func165 rfl rfl rfl (fun c=> ?_)
 show RunC _ _ _ _ _ [(0,.slice p1 n1 c1),(1,.slice p2 n2 c2),(2,.func (.func 147) #[] #[])] [] [slF rE p1 c1 l1,slF rE p2 c2 l2]
 refine zP 0 rfl (fun hL0=> ?_)
 refine zP 1 rfl (fun hL1=> ?_)
 refine ze<|za<|e_p (zb rfl)<|zf<|zc<|ze<|za<|e_mv rfl<|e_p (zv ya rfl)<|e_mv rfl<|e_p (zv ya rfl)<|e_p (v:= .int .i64 (((max n1 n2):Nat):Int)) (by rw [show ((((max n1 n2):Nat):Int):Int)=max ((n1:Nat):Int) ((n2:Nat):Int) by omega];exact zBe rfl rfl) ?_
 have e1:((((max n1 n2):Nat):Int):Int)=(((max n1 n2):Nat):Int):=by omega
 rw [e1]
 refine zma rfl rfl (zua (r:=rE) (k:=(max n1 n2)) (x0:=none) (γ0:=(wz,wz)) yc inf32 rfl rfl rfl rfl om om rfl (fun g _=>eF_wz g) dd) (fun b2 _=> ?_)
 refine e_p (zb rfl)<|zf<|zc<|ze<|ze<|za<|e_mv rfl<|e_p (zv yc rfl)<|e_mv rfl<|zf<|zc<|zt<|zca (X:=Nat×(List (Option Rat))) (fun x:Nat×(List (Option Rat))=>x.1≤max n1 n2∧x.2.length=max n1 n2∧∀j,j<x.1→x.2.getD j none=some (((l1.getD j none).getD 0) - ((l2.getD j none).getD 0))) (fun x=>[(17,.int .i64 ((x.1:Nat):Int)),(16,.int .i64 (((max n1 n2):Nat):Int)),(7,.slice (some ⟨b2,0,none⟩) (max n1 n2) (max n1 n2)),(6,.slice none 0 0),(0,.slice p1 n1 c1),(1,.slice p2 n2 c2),(2,.func (.func 147) #[] #[])]) (fun x=>[rowA 32 rE (some ⟨b2,0,none⟩) (max n1 n2) (x.2)]) (fun x=>[slF rE p1 c1 l1,slF rE p2 c2 l2]) (fun x:Nat×(List (Option Rat))=>max n1 n2 - x.1) (0,List.replicate (max n1 n2) none) (show 0≤max n1 n2∧(List.replicate (max n1 n2) none).length=max n1 n2∧∀j,j<0→(List.replicate (max n1 n2) none).getD j none=some (((l1.getD j none).getD 0) - ((l2.getD j none).getD 0)) from by exact ⟨Nat.zero_le _,List.length_replicate,fun j hj=>by omega⟩) ((.e rfl cgs (.of rfl)):SubM _ _) (ho:=((.e (i:=0) rfl cgs .n):PickO _ _ _)) ((.of [0,1] rfl):SelR _ _ _) ?_
 rintro ⟨i,A⟩ hI
 replace hI:i≤max n1 n2∧A.length=max n1 n2∧∀j,j<i→A.getD j none=some (((l1.getD j none).getD 0) - ((l2.getD j none).getD 0)):=hI
 try dsimp only
 obtain ⟨hi,hAl,hA⟩:=hI
 refine ze<|za<|e_p (zY rfl rfl)<|zf<|zc<|ze<|zD rfl (fun h3=> ?_) (fun h3=> ?_)
 ·
  refine zw<|zc<|ze<|zt<|ze<|za<|e_mv rfl<|e_p (zb rfl)<|zf<|zc<|za<|e_mv rfl<|e_mv rfl<|e_mv rfl<|e_mv rfl<|e_mv rfl<|zm rfl rfl (.c rfl (.c rfl .n)) ce227 (ztd (p1:=p1) (n1:=n1) (c1:=c1) (l1:=l1) (i:=i) (hn1:=ass) (hm1:=ass) (hi:=by first|rfl|assumption|exact hb _|omega)) (.c (j:=0) rfl .n) ?_
  rintro ⟨w34,w45,k96⟩ -
  dsimp only [aq,nq,cq]
  refine e_mv rfl<|e_mv rfl<|zm rfl rfl (.c rfl (.c rfl .n)) ce227 (ztd (p1:=p2) (n1:=n2) (c1:=c2) (l1:=l2) (i:=i) (hn1:=ass) (hm1:=ass) (hi:=by first|rfl|assumption|exact hb _|omega)) (.c (j:=2) rfl .n) ?_
  rintro ⟨w37,w48,k99⟩ -
  dsimp only [aq,nq,cq]
  refine zsc (first:=[]) (cap:=[]) rfl rfl rfl (.c rfl (.c rfl .n)) ce147 (zqd (k1:=k96) (u1:=w34) (v1:=w45) (q1:=((l1.getD i none).getD 0)) (k2:=k99) (u2:=w37) (v2:=w48) (q2:=((l2.getD i none).getD 0)) (hl:=by first|rfl|assumption|exact hb _|omega)) (.c (j:=1) rfl (.c (j:=0) rfl .n)) ?_
  rintro ⟨w310,w411⟩ -
  dsimp only [aq,nq,cq]
  refine e_p (zI (j:=i) yc sz32 rfl rfl rfl om)<|zya 0 rfl rfl rfl (zL (r:=rE) (j:=i) (x0:=(some (((l1.getD i none).getD 0) - ((l2.getD i none).getD 0)))) (γ0:=(w310,w411)) rfl rfl (by first|omega|(rw [List.length_map];omega)|(simp only [List.length_set];omega)|(simp;done)|(simp;omega)) rfl rfl sz32 (fun g hr=>qF_e (Holds.get 0 rfl hr))) (fun _=> .z) (fun _ _=> ?_)
  refine zf<|zK<|zc<|za<|e_p (zJ (z:=(((i+1):Nat):Int)) rfl rfl (w64 om))<|e_mv rfl<|zf<|zV ((i+1),(A.set i (some (((l1.getD i none).getD 0) - ((l2.getD i none).getD 0))))) (show (i+1)≤max n1 n2∧(A.set i (some (((l1.getD i none).getD 0) - ((l2.getD i none).getD 0)))).length=max n1 n2∧∀j,j<(i+1)→(A.set i (some (((l1.getD i none).getD 0) - ((l2.getD i none).getD 0)))).getD j none=some (((l1.getD j none).getD 0) - ((l2.getD j none).getD 0)) from by exact ⟨by omega,by rw [List.length_set];exact hAl,Po.set_step hA om rfl⟩) (by show max n1 n2 - (i+1)<max n1 n2 - i;omega) (mR rfl) (ho:=(o0 rfl)) ((.of [3,4] rfl):SelR _ _ _)
 ·
  refine zaa<|zg<|zg<|zp<|zc<|ze<|za<|e_mv rfl<|zea 0 rfl .z<|zm rfl rfl (.c rfl .n) ce159 (zKa (p1:=some ⟨b2,0,none⟩) (n1:=(max n1 n2)) (c1:=(max n1 n2)) (l1:=A) (hn1:=by first|rfl|assumption|exact hb _|omega) (hm1:=by first|rfl|assumption|exact hb _|omega)) (.c (j:=0) rfl .n) ?_
  rintro ⟨p912,c913⟩ -
  dsimp only [aq,nq,cq]
  refine e_p (zb rfl)<|zf<|zc<|zG ?_
  have hv9:=Po.vals_sub (l:=l1) (m:=l2) (n:=max n1 n2) (by rw [hn1,hn2]) hAl (fun j hj=>hA j om)
  exact zx Tryz.results165 (p912,c913) trivial (zo rfl) (by rw [hv9]) (ho:=oN) ((.e (j:=0) rfl (by rw [hv9]) .n):SelR _ _ _)
theorem zQe {p1:Option Addr} {n1:Nat} {c1:Nat} {l1:List (Option Rat)} {p2:Option Addr} {n2:Nat} {c2:Nat} {l2:List (Option Rat)} (hn1:l1.length=n1) (hm1:n1≤1000) (hn2:l2.length=n2) (hm2:n2≤1000) (hb:∀i,ye ((l1.getD i none).getD 0)+ye ((l2.getD i none).getD 0)+1≤1099511627776):Con yd 77 [.slice p1 n1 c1,.slice p2 n2 c2] [] [slF rE p1 c1 l1,slF rE p2 c2 l2] (Y:=(Option Addr)×Nat) (fun y=>True) (fun y=> .slice (y.1) ((Po.add (Po.vals l1) (Po.vals l2)).length) (y.2)) (fun y=>[]) (fun y=>[slF rQ (y.1) (y.2) (Po.add (Po.vals l1) (Po.vals l2))]):=by
 refine zk Tryz.func77 rfl rfl rfl (fun c=> ?_)
 show RunC _ _ _ _ _ [(0,.slice p1 n1 c1),(1,.slice p2 n2 c2)] [] [slF rE p1 c1 l1,slF rE p2 c2 l2]
 refine zP 0 rfl (fun hL0=> ?_)
 refine zP 1 rfl (fun hL1=> ?_)
 refine ze<|za<|e_p (zb rfl)<|zf<|zc<|ze<|za<|e_mv rfl<|e_mv rfl<|zm rfl rfl (.c rfl (.c rfl (.c rfl .n))) ce165 (zof (p1:=p1) (n1:=n1) (c1:=c1) (l1:=l1) (p2:=p2) (n2:=n2) (c2:=c2) (l2:=l2) (hn1:=ass) (hm1:=ass) (hn2:=ass) (hm2:=ass) (hb:=ass)) (.c (j:=0) rfl (.c (j:=1) rfl .n)) ?_
 rintro ⟨p91,c92⟩ -
 dsimp only [aq,nq,cq]
 refine e_p (zb rfl)<|zf<|zc<|zG ?_
 exact zx Tryz.results77 (p91,c92) trivial (zo rfl) rfl (ho:=oN) (s0 rfl)
theorem zJg {p1:Option Addr} {n1:Nat} {c1:Nat} {l1:List (Option Rat)} {p2:Option Addr} {n2:Nat} {c2:Nat} {l2:List (Option Rat)} (hn1:l1.length=n1) (hm1:n1≤1000) (hn2:l2.length=n2) (hm2:n2≤1000) (hb:∀i,ye ((l1.getD i none).getD 0)+ye ((l2.getD i none).getD 0)+1≤1099511627776):Con yd 198 [.slice p1 n1 c1,.slice p2 n2 c2] [] [slF rE p1 c1 l1,slF rE p2 c2 l2] (Y:=(Option Addr)×Nat) (fun y=>True) (fun y=> .slice (y.1) ((Po.sub (Po.vals l1) (Po.vals l2)).length) (y.2)) (fun y=>[]) (fun y=>[slF rQ (y.1) (y.2) (Po.sub (Po.vals l1) (Po.vals l2))]):=by
 refine zk Tryz.func198 rfl rfl rfl (fun c=> ?_)
 show RunC _ _ _ _ _ [(0,.slice p1 n1 c1),(1,.slice p2 n2 c2)] [] [slF rE p1 c1 l1,slF rE p2 c2 l2]
 refine zP 0 rfl (fun hL0=> ?_)
 refine zP 1 rfl (fun hL1=> ?_)
 refine ze<|za<|e_p (zb rfl)<|zf<|zc<|ze<|za<|e_mv rfl<|e_mv rfl<|zm rfl rfl (.c rfl (.c rfl (.c rfl .n))) ce165 (zpf (p1:=p1) (n1:=n1) (c1:=c1) (l1:=l1) (p2:=p2) (n2:=n2) (c2:=c2) (l2:=l2) (hn1:=ass) (hm1:=ass) (hn2:=ass) (hm2:=ass) (hb:=ass)) (.c (j:=0) rfl (.c (j:=1) rfl .n)) ?_
 rintro ⟨p91,c92⟩ -
 dsimp only [aq,nq,cq]
 refine e_p (zb rfl)<|zf<|zc<|zG ?_
 exact zx Tryz.results198 (p91,c92) trivial (zo rfl) rfl (ho:=oN) (s0 rfl)
end Go.Proofs.YtpdbimfnhglhpaaGreat.Sp
namespace Go.Proofs.YtpdbimfnhglhpaaGreat.Sp
open Go
set_option linter.unusedVariables false
set_option maxRecDepth 100000
set_option maxHeartbeats 8000000
theorem zBc {p1:Option Addr} {n1:Nat} {c1:Nat} {l1:List (Option Rat)} {p2:Option Addr} {n2:Nat} {c2:Nat} {l2:List (Option Rat)} (hn1:l1.length=n1) (hm1:n1≤1000) (hn2:l2.length=n2) (hm2:n2≤1000) (hm12:n1+n2≤1000) (hb1:∀i,ye ((Po.vals l1).getD i 0)≤200000000000) (hb2:∀i,ye ((Po.vals l2).getD i 0)≤200000000000) (hs:∀k lo n,lo+n≤k+1→ye (Po.cv (Po.cl (Po.vals l1)) (Po.cl (Po.vals l2)) k lo n)≤200000000000):Con yd 71 [.slice p1 n1 c1,.slice p2 n2 c2] [] [slF rE p1 c1 l1,slF rE p2 c2 l2] (Y:=(Option Addr)×Nat) (fun y=>True) (fun y=> .slice (y.1) ((Po.mul (Po.vals l1) (Po.vals l2)).length) (y.2)) (fun y=>[]) (fun y=>[slF rQ (y.1) (y.2) (Po.mul (Po.vals l1) (Po.vals l2))]):=by
 refine zk Tryz.func71 rfl rfl rfl (fun c=> ?_)
 show RunC _ _ _ _ _ [(0,.slice p1 n1 c1),(1,.slice p2 n2 c2)] [] [slF rE p1 c1 l1,slF rE p2 c2 l2]
 refine zP 0 rfl (fun hL0=> ?_)
 refine zP 1 rfl (fun hL1=> ?_)
 refine ze<|za<|e_p (zb rfl)<|zf<|zc<|ze<|za<|e_mv rfl<|zm rfl rfl (.c rfl .n) ce159 (zKa (p1:=p1) (n1:=n1) (c1:=c1) (l1:=l1) (hn1:=ass) (hm1:=ass)) (.c (j:=0) rfl .n) ?_
 rintro ⟨p91,c92⟩ -
 dsimp only [aq,nq,cq]
 refine e_mv rfl<|zm rfl rfl (.c rfl .n) ce159 (zKa (p1:=p2) (n1:=n2) (c1:=c2) (l1:=l2) (hn1:=ass) (hm1:=ass)) (.c (j:=2) rfl .n) ?_
 rintro ⟨p93,c94⟩ -
 dsimp only [aq,nq,cq]
 refine e_p (zb rfl)<|e_p (zb rfl)<|zf<|zc<|ze ?_
 obtain ⟨P,hP⟩:∃z,z=(Po.cl (Po.vals l1)):=⟨_,rfl⟩
 have e5:(Po.cl (Po.vals l1):List Rat)=P:=by exact hP.symm
 rw [e5]
 obtain ⟨Q,hQ⟩:∃z,z=(Po.cl (Po.vals l2)):=⟨_,rfl⟩
 have e6:(Po.cl (Po.vals l2):List Rat)=Q:=by exact hQ.symm
 rw [e6]
 have hbP:∀i,ye (P.getD i 0)≤200000000000:=fun i=>by rw [hP,Po.cl_get];exact hb1 i
 have hbQ:∀i,ye (Q.getD i 0)≤200000000000:=fun i=>by rw [hQ,Po.cl_get];exact hb2 i
 have hsP:∀k lo n,lo+n≤k+1→ye (Po.cv P Q k lo n)≤200000000000:=by rw [hP,hQ];exact hs
 have hPl:P.length≤n1:=by rw [hP,←hn1,←Po.vals_len l1];exact Po.cl_le_len _
 have hQl:Q.length≤n2:=by rw [hQ,←hn2,←Po.vals_len l2];exact Po.cl_le_len _
 refine zab (X:=Unit) (fun x=>True) (fun x=>[(20,.bool (decide (((((P).length:Nat):Int)=0)∨((((Q).length:Nat):Int)=0)))),(1,.slice p93 ((Q).length) c94),(0,.slice p91 ((P).length) c92),(4,.slice none 0 0)]) (fun x=>[]) (fun x=>[slF rQ p93 c94 Q,slF rQ p91 c92 P,slF rE p1 c1 l1,slF rE p2 c2 l2]) ?_ ?_
 ·
  refine za<|e_mv rfl<|e_p (zv ya rfl)<|e_p (zna rfl rfl)<|zga rfl rfl (zja rfl) (fun g1=> ?_) (fun g1=> ?_)
  ·
   refine e_no<|e_no<|e_no<|e_p (zE rfl rfl)<|zf ?_
   exact zla () tt9 ((.e rfl (congrArg Value.bool (by first|(exact (decide_eq_true (Or.inl g1)).symm)|exact decide_eq_decide.2 ⟨fun k=>Or.inr k,fun k=>k.elim (fun e=>absurd e g1) _root_.id⟩)) (.of rfl)):SubM _ _) (ho:=oN) ((.of [0,1,2,3] rfl):SelR _ _ _)
  ·
   refine e_mv rfl<|e_p (zv ya rfl)<|e_p (zna rfl rfl)<|e_p (zE rfl rfl)<|zf ?_
   exact zla () tt9 ((.e rfl (congrArg Value.bool (by first|(exact (decide_eq_true (Or.inl g1)).symm)|exact decide_eq_decide.2 ⟨fun k=>Or.inr k,fun k=>k.elim (fun e=>absurd e g1) _root_.id⟩)) (.of rfl)):SubM _ _) (ho:=oN) ((.of [0,1,2,3] rfl):SelR _ _ _)
 ·
  rintro ⟨⟩ -
  try dsimp only
  refine zD rfl (fun h20=> ?_) (fun h20=> ?_)
  ·
   refine ze<|za<|e_p (zb rfl)<|zf<|zc<|zG<|zu<|zOb rQ ?_
   have hv9:(Po.mul (Po.vals l1) (Po.vals l2))=[]:=Po.mul_none hP hQ om
   exact zx Tryz.results71 (none,0) trivial (zo rfl) (by rw [hv9];rfl) (ho:=oN) ((.e (j:=0) rfl (by rw [hv9]) .n):SelR _ _ _)
  ·
   have hPQ:0<P.length∧0<Q.length:=by omega
   refine zw<|zc<|ze<|za<|e_mv rfl<|e_p (zv ya rfl)<|e_mv rfl<|e_p (zv ya rfl)<|e_p (zJ (z:=(((((P).length)+((Q).length)):Nat):Int)) rfl rfl (w64 om))<|e_p (zha (z:=((((((P).length)+((Q).length)):Nat):Int) - 1)) rfl rfl (w64 om)) ?_
   have e7:(((((((P).length)+((Q).length)):Nat):Int) - 1):Int)=(((P.length+Q.length - 1):Nat):Int):=by omega
   rw [e7]
   refine zma rfl rfl (zua (r:=rE) (k:=(P.length+Q.length - 1)) (x0:=none) (γ0:=(wz,wz)) yc inf32 rfl rfl rfl rfl om om rfl (fun g _=>eF_wz g) dd) (fun b8 _=> ?_)
   refine e_p (zb rfl)<|zf<|zc<|ze<|ze<|za<|e_mv rfl<|e_p (zv yc rfl)<|e_mv rfl<|zf<|zc<|zt<|zca (X:=Nat×(List (Option Rat))) (fun x:Nat×(List (Option Rat))=>x.1≤P.length+Q.length - 1∧x.2.length=P.length+Q.length - 1∧∀j,j<x.1→x.2.getD j none=some (Po.pc P Q j)) (fun x=>[(30,.int .i64 ((x.1:Nat):Int)),(29,.int .i64 (((P.length+Q.length - 1):Nat):Int)),(5,.slice (some ⟨b8,0,none⟩) (P.length+Q.length - 1) (P.length+Q.length - 1)),(1,.slice p93 ((Q).length) c94),(0,.slice p91 ((P).length) c92),(4,.slice none 0 0)]) (fun x=>[rowA 32 rE (some ⟨b8,0,none⟩) (P.length+Q.length - 1) (x.2)]) (fun x=>[slF rQ p93 c94 Q,slF rQ p91 c92 P,slF rE p1 c1 l1,slF rE p2 c2 l2]) (fun x:Nat×(List (Option Rat))=>P.length+Q.length - 1 - x.1) (0,List.replicate (P.length+Q.length - 1) none) (show 0≤P.length+Q.length - 1∧(List.replicate (P.length+Q.length - 1) none).length=P.length+Q.length - 1∧∀j,j<0→(List.replicate (P.length+Q.length - 1) none).getD j none=some (Po.pc P Q j) from by exact ⟨Nat.zero_le _,List.length_replicate,fun j hj=>by omega⟩) ((.e rfl cgs (.of rfl)):SubM _ _) (ho:=((.e (i:=0) rfl cgs .n):PickO _ _ _)) ((.of [0,1,2,3] rfl):SelR _ _ _) ?_
   rintro ⟨k,A⟩ hI
   replace hI:k≤P.length+Q.length - 1∧A.length=P.length+Q.length - 1∧∀j,j<k→A.getD j none=some (Po.pc P Q j):=hI
   try dsimp only
   obtain ⟨hk,hAl,hA⟩:=hI
   refine ze<|za<|e_p (zY rfl rfl)<|zf<|zc<|ze<|zD rfl (fun h9=> ?_) (fun h9=> ?_)
   ·
    refine zw<|zc<|ze<|zt<|ze<|za<|e_mv rfl<|e_p (zb rfl)<|zf<|zc<|ze<|za<|zm rfl rfl (.n) ce84 (zKb) (.n) ?_
    rintro ⟨w310,w411⟩ -
    dsimp only [aq,nq,cq]
    refine zM rfl rfl (zA zr32 rfl) (fun b12=> ?_)
    refine zl 0 rfl rfl rfl rfl rfl sz32 rfl (.t4 .nil) .z<|zf<|zc<|ze<|ze<|za<|e_mv rfl<|e_mv rfl<|e_p (zv ya rfl)<|e_p (zha (z:=(((k:Nat):Int) - (((Q).length:Nat):Int))) rfl rfl (w64 om))<|e_p (zJ (z:=((((k:Nat):Int) - (((Q).length:Nat):Int))+1)) rfl rfl (w64 om))<|e_p (zBe rfl rfl) ?_
    have e13:((max 0 ((((k:Nat):Int) - (((Q).length:Nat):Int))+1)):Int)=(((k+1 - Q.length):Nat):Int):=by omega
    rw [e13]
    refine e_p (zb rfl)<|zf<|zc<|zt<|zca (X:=Nat×Wd×Wd) (fun x:Nat×Wd×Wd=>(k+1 - Q.length)≤x.1∧x.1≤max (k+1 - Q.length) (min k (P.length - 1)+1)) (fun x=>[(8,.int .i64 ((x.1:Nat):Int)),(7,.pointer (some ⟨b12,0,none⟩)),(6,.int .i64 ((k:Nat):Int)),(30,.int .i64 ((k:Nat):Int)),(29,.int .i64 (((P.length+Q.length - 1):Nat):Int)),(5,.slice (some ⟨b8,0,none⟩) (P.length+Q.length - 1) (P.length+Q.length - 1)),(1,.slice p93 ((Q).length) c94),(0,.slice p91 ((P).length) c92),(4,.slice none 0 0)]) (fun x=>[boxA b12 32 (cw [x.2.1,x.2.2]),rowA 32 rE (some ⟨b8,0,none⟩) (P.length+Q.length - 1) A]) (fun x=>[qF true x.2.1 x.2.2 (Po.cv P Q k (k+1 - Q.length) (x.1 - (k+1 - Q.length))),qF true w310 w411 ((0:Int):Rat),slF rQ p93 c94 Q,slF rQ p91 c92 P,slF rE p1 c1 l1,slF rE p2 c2 l2]) (fun x:Nat×Wd×Wd=>k+1 - x.1) ((k+1 - Q.length),w310,w411) (show (k+1 - Q.length)≤(k+1 - Q.length)∧(k+1 - Q.length)≤max (k+1 - Q.length) (min k (P.length - 1)+1) from by exact ⟨Nat.le_refl _,Nat.le_max_left _ _⟩) (mR rfl) (ho:=((.of [0,0] rfl):PickO _ _ _)) ((.e (j:=0) rfl (by rw [Nat.sub_self];rfl) (.of [0,1,2,3,4] rfl)):SelR _ _ _) ?_
    rintro ⟨i,su,sv⟩ hi
    replace hi:(k+1 - Q.length)≤i∧i≤max (k+1 - Q.length) (min k (P.length - 1)+1):=hi
    try dsimp only [cw]
    refine ze<|ze<|za<|e_mv rfl<|e_mv rfl<|e_mv rfl<|e_p (zv ya rfl)<|e_p (zha (z:=((((P).length:Nat):Int) - 1)) rfl rfl (w64 om))<|e_p (pv_min rfl rfl)<|e_p (zpc rfl rfl)<|zf<|zc<|zD rfl (fun h14=> ?_) (fun h14=> ?_)
    ·
     refine zw<|zc<|ze<|zt<|zW (OW:=[boxA b12 32 (cw [su,sv])]) (O:=[rowA 32 rE (some ⟨b8,0,none⟩) (P.length+Q.length - 1) A]) 13 mixed (.block (.then (.then (.block (.then (.block (.then (.then (.block (.then .ret)))))))))) kr<|e_uw 0 rfl rfl (zd 0 ty32 rfl rfl (.t4 .nil))<|e_dm 1 rfl rfl rfl<|e_dm 2 rfl rfl rfl<|d_vl 3 rfl rfl kr kr rfl rfl (zQ (x0:=((P).getD i (0:Rat))) 3 i rfl ya sz32 rfl (by first|rfl|assumption|(simp;done)|omega) rfl rfl (gD (d:=(0:Rat)) om)) ?_
     rintro ⟨b15,o16,w17,w18⟩ -
     dsimp only [aq,nq,cq]
     refine zQa open_rQ<|e_u 4 rfl rfl (zO (j:=0) 0 ty32 rfl rfl rfl (.t4 .nil))<|e_dm 5 rfl rfl rfl<|e_dm 6 rfl rfl rfl<|e_dm 7 rfl rfl rfl<|e_pv 8 rfl rfl (zha (z:=(((k:Nat):Int) - ((i:Nat):Int))) rfl rfl (w64 om)) ?_
     have e19:((((k:Nat):Int) - ((i:Nat):Int)):Int)=(((k - i):Nat):Int):=by omega
     rw [e19]
     refine d_vl 9 rfl rfl kr kr rfl rfl (zQ (x0:=((Q).getD (k - i) (0:Rat))) 4 (k - i) rfl ya sz32 rfl (by first|rfl|assumption|(simp;done)|omega) rfl rfl (gD (d:=(0:Rat)) om)) ?_
     rintro ⟨b20,o21,w22,w23⟩ -
     dsimp only [aq,nq,cq]
     refine zQa open_rQ<|e_u 10 rfl rfl (zO (j:=0) 0 ty32 rfl rfl rfl (.t4 .nil))<|e_one 11 (zB rfl rfl rfl rfl (.c rfl (.c rfl .n)) ce56 (zsb (k1:=true) (u1:=w17) (v1:=w18) (q1:=((P).getD i (0:Rat))) (k2:=true) (u2:=w22) (v2:=w23) (q2:=((Q).getD (k - i) (0:Rat))) (hl:=by have h1:=hbP i;have h2:=hbQ (k - i);omega)) (.c (j:=3) rfl (.c (j:=1) rfl .n)) ?_)
     rintro ⟨w324,w425⟩ -
     dsimp only [aq,nq,cq]
     refine e_one 12 (zB rfl rfl rfl rfl (.c rfl (.c rfl .n)) ce57 (zrb (k1:=true) (u1:=su) (v1:=sv) (q1:=(Po.cv P Q k (k+1 - Q.length) (i - (k+1 - Q.length)))) (k2:=true) (u2:=w324) (v2:=w425) (q2:=((P).getD i (0:Rat))*((Q).getD (k - i) (0:Rat))) (hl:=by have h1:=hsP k (k+1 - Q.length) (i - (k+1 - Q.length)) om;have h2:=hbP i;have h3:=hbQ (k - i);have h4:=Big.hq_mul (P.getD i 0) (Q.getD (k - i) 0);omega)) (.c (j:=5) rfl (.c (j:=0) rfl .n)) ?_)
     rintro ⟨w326,w427⟩ -
     dsimp only [aq,nq,cq]
     refine e_one 13 (zC kr rfl rfl rfl rfl rfl sz32 rfl (.t4 .nil) ?_)
     refine zU kr<|zK<|zc<|za<|e_mv rfl<|e_p (zJ (z:=(((i+1):Nat):Int)) rfl rfl (w64 om))<|e_p (zb rfl)<|zf<|zV ((i+1),w326,w427) (show (k+1 - Q.length)≤(i+1)∧(i+1)≤max (k+1 - Q.length) (min k (P.length - 1)+1) from by exact ⟨by omega,by omega⟩) (by show k+1 - (i+1)<k+1 - i;omega) (mR rfl) (ho:=((.of [0,0] rfl):PickO _ _ _)) ((.e (j:=0) rfl (by rw [Po.cv_step _ _ hi.1]) (.of [7,8,9,10,11] rfl)):SelR _ _ _)
    ·
     refine zaa<|zg<|zg<|zp<|zc<|za<|e_mv rfl<|e_mv rfl<|e_ru (zd 0 ty32 rfl rfl (.t4 .nil))<|e_p (zI (j:=k) yc sz32 rfl rfl rfl om)<|zya 1 rfl rfl rfl (zL (r:=rE) (j:=k) (x0:=(some (Po.cv P Q k (k+1 - Q.length) (i - (k+1 - Q.length))))) (γ0:=(su,sv)) rfl rfl (by first|omega|(rw [List.length_map];omega)|(simp only [List.length_set];omega)|(simp;done)|(simp;omega)) rfl rfl sz32 (fun g hr=>qF_e (Holds.get 0 rfl hr))) (fun _=>(.s .z)) (fun _ _=> ?_)
     refine zf<|zK<|zc<|za<|e_p (zJ (z:=(((k+1):Nat):Int)) rfl rfl (w64 om))<|e_mv rfl<|zf<|zV ((k+1),(A.set k (some (Po.cv P Q k (k+1 - Q.length) (i - (k+1 - Q.length)))))) (show (k+1)≤P.length+Q.length - 1∧(A.set k (some (Po.cv P Q k (k+1 - Q.length) (i - (k+1 - Q.length))))).length=P.length+Q.length - 1∧∀j,j<(k+1)→(A.set k (some (Po.cv P Q k (k+1 - Q.length) (i - (k+1 - Q.length))))).getD j none=some (Po.pc P Q j) from by exact ⟨by omega,by rw [List.length_set];exact hAl,Po.set_step hA om (Po.pc_end hi.1 ass hi.2 hPQ.1)⟩) (by show P.length+Q.length - 1 - (k+1)<P.length+Q.length - 1 - k;omega) (mR rfl) (ho:=((.c (i:=1) rfl .n):PickO _ _ _)) ((.of [2,3,4,5] rfl):SelR _ _ _)
   ·
    refine zaa<|zg<|zg<|zp<|zc<|ze<|za<|e_mv rfl<|zea 0 rfl .z<|zm rfl rfl (.c rfl .n) ce159 (zKa (p1:=some ⟨b8,0,none⟩) (n1:=(P.length+Q.length - 1)) (c1:=(P.length+Q.length - 1)) (l1:=A) (hn1:=cbo) (hm1:=cbo)) (.c (j:=0) rfl .n) ?_
    rintro ⟨p928,c929⟩ -
    dsimp only [aq,nq,cq]
    refine e_p (zb rfl)<|zf<|zc<|zG ?_
    have hv9:=Po.vals_mul hP hQ om rfl hAl (fun j hj=>hA j om)
    exact zx Tryz.results71 (p928,c929) trivial (zo rfl) (by rw [hv9]) (ho:=oN) ((.e (j:=0) rfl (by rw [hv9]) .n):SelR _ _ _)
end Go.Proofs.YtpdbimfnhglhpaaGreat.Sp
namespace Go.Proofs.YtpdbimfnhglhpaaGreat.Dt
open Go.Proofs.YtpdbimfnhglhpaaGreat.Mx Go.Proofs.YtpdbimfnhglhpaaGreat.Big Go.Proofs.YtpdbimfnhglhpaaGreat.Td Go.Proofs.YtpdbimfnhglhpaaGreat.Po
set_option linter.unusedVariables false
def lnP (i:Nat) (d:Rat) (k:Nat):List Rat:=(List.range k).foldl (lstep i) [d]
def thP (n:Nat) (d:Nat→Rat) (i:Nat):List Rat:=(List.range i).foldl (fun o i=>add o (lin n i (d i))) []
theorem lnP_yes {i k:Nat} {d:Rat} (h:k≠i):mul (lnP i d k) [Rat.divInt (-(k:Int)) ((i:Int) - k),Rat.divInt 1 ((i:Int) - k)]=lnP i d (k+1):=by
  unfold lnP
  rw [List.range_succ,List.foldl_append]
  show _=lstep i _ k
  unfold lstep
  rw [if_neg h]
theorem lnP_no {i k:Nat} {d:Rat} (h:k=i):lnP i d k=lnP i d (k+1):=by
  conv=>rhs;unfold lnP
  rw [List.range_succ,List.foldl_append]
  show _=lstep i _ k
  unfold lstep
  rw [if_pos h];rfl
theorem thP_step {n i:Nat} {d:Nat→Rat}:add (thP n d i) (lnP i (d i) (n+1))=thP n d (i+1):=by
  conv=>rhs;unfold thP
  rw [List.range_succ,List.foldl_append];rfl
theorem thP_end {n:Nat} {d:Nat→Rat}:thP n d (n+1)=thr n d:=rfl
theorem lnP_len {i:Nat} {d:Rat}:∀k,(lnP i d k).length≤k+1
  |0=>Nat.le_refl _
  |k+1=>by
    have ih:=lnP_len (i:=i) (d:=d) k
    by_cases h:k=i
    · rw [← lnP_no h];omega
    · rw [← lnP_yes h]
      have:=mul_len (lnP i d k) [Rat.divInt (-(k:Int)) ((i:Int) - k),Rat.divInt 1 ((i:Int) - k)]
      simp only [List.length_cons,List.length_nil] at this
      omega
theorem thP_len {n:Nat} {d:Nat→Rat}:∀i,(thP n d i).length≤n+2
  |0=>Nat.zero_le _
  |i+1=>by
    rw [← thP_step]
    have:=add_len (thP n d i) (lnP i (d i) (n+1))
    have:=thP_len (n:=n) (d:=d) i
    have:=lnP_len (i:=i) (d:=d i) (n+1)
    omega
theorem bd_mul {K L N:Nat} {p q:List Rat} (h1:bd K p) (h2:bd L q) (hl:p.length≤N):bd (1+N*(K+L+1)) (mul p q):=fun k=>by
  rw [mul_get]
  show hq (co _ _ k (k+1))≤_
  rw [← cv_co]
  refine Nat.le_trans (cv_hq_len h1 h2 k 0 (k+1)) (Nat.add_le_add_left (Nat.mul_le_mul_right _ ?_) _)
  omega
theorem fr_hq {z:Int} {i k:Nat} (h:k≠i) (hi:i≤100) (hk:k≤100) (hz: -100≤z∧z≤100):hq (Rat.divInt z ((i:Int) - k))≤1:=by
  have:=hq_divInt (n:=z) (d:=(i:Int) - k) (by omega)
  have h1:ln z≤1:=zae (k:=1) (by show -1000000000<z;omega) (by show z<1000000000;omega)
  have h2:ln ((i:Int) - k)≤1:=zae (k:=1) (by show -1000000000<_;omega) (by show _<1000000000;omega)
  omega
theorem two_bd {i k:Nat} (h:k≠i) (hi:i≤100) (hk:k≤100):bd 1 [Rat.divInt (-(k:Int)) ((i:Int) - k),Rat.divInt 1 ((i:Int) - k)]:=bd_of (Nat.le_refl _) fun x hx=>by
  simp only [List.mem_cons,List.not_mem_nil,or_false] at hx
  rcases hx with rfl|rfl
  · exact fr_hq h hi hk (by omega)
  · exact fr_hq h hi hk (by omega)
def Wq (K:Nat):Nat→Nat
  |0=>K
  |k+1=>1+6*(Wq K k+1+1)
theorem Wq_mono (K:Nat):∀{j k:Nat},j≤k→Wq K j≤Wq K k:=fun {j k} h=>by
  induction h with
  |refl=>exact Nat.le_refl _
  |step _ ih=>rw [Wq];omega
theorem lnP_bd {i K:Nat} {d:Rat} (hi:i≤5) (hd:hq d≤K):∀k,k≤5→bd (Wq K k) (lnP i d k)
  |0,_=>bd_of (by have:=hq_pos d;show 1≤K;omega) fun x hx=>by
    have:x=d:=by simpa [lnP] using hx
    rw [this];exact hd
  |k+1,hk=>by
    have ih:=lnP_bd hi hd k (by omega)
    by_cases h:k=i
    · rw [← lnP_no h];exact bd_mono ih (Wq_mono K (Nat.le_succ k))
    · rw [← lnP_yes h]
      exact bd_mono (bd_mul (N:=6) ih (two_bd h (by omega) (by omega)) (by have:=lnP_len (i:=i) (d:=d) k;omega)) (Nat.le_refl _)
theorem thP_bd {n K:Nat} {d:Nat→Rat} (hn:n≤4) (hd:∀i,i≤5→hq (d i)≤K):∀i,i≤5→bd (1+i*(Wq K 5+1)) (thP n d i)
  |0,_=>fun j=>by show hq (([]:List Rat).getD j 0)≤_;rw [gD0 (Nat.zero_le _),hq_zero];omega
  |i+1,hi=>by
    rw [← thP_step]
    have h1:=bd_add (thP_bd hn hd i (by omega)) (bd_mono (lnP_bd (i:=i) (by omega) (hd i (by omega)) (n+1) (by omega)) (Wq_mono K (show n+1≤5 by omega)))
    exact bd_mono h1 (by rw [Nat.succ_mul];omega)
theorem vs1 (l:List Rat):vals (l.map some)=l:=vals_some l
theorem dv_hq {A:Mt} {n i:Nat} (hi:i≤5) (hA:Mx.bd A 1):hq (dv' (e A) n i)≤161:=by
  unfold dv'
  have h1:∀r c,r<n→c<n→hq (xsub (i:Rat) (e A) r c)≤3:=fun r c _ _=>by
    unfold xsub
    have ha:=hA r c
    have hs:=hq_sub (if r=c then (i:Rat) else 0) (e A r c)
    have hx:hq (if r=c then (i:Rat) else 0)≤1:=by
      split
      · have hn : i = 0 ∨ i = 1 ∨ i = 2 ∨ i = 3 ∨ i = 4 ∨ i = 5 := by omega
        rcases hn with rfl|rfl|rfl|rfl|rfl|rfl <;> decide +kernel
      · rw [hq_zero];exact Nat.le_refl _
    omega
  have:=det4_hq (pad_hq (n:=n) (by decide) h1)
  omega
theorem ix_hq {i:Nat} (hi:i≤5):hq (((i:Nat):Int):Rat)≤1:=by
  have hn:i=0∨i=1∨i=2∨i=3∨i=4∨i=5:=by omega
  rcases hn with rfl|rfl|rfl|rfl|rfl|rfl <;> decide +kernel
theorem un_bd {n k:Nat} (hk:1≤k):Mx.bd (mk n n (fun ii jj=>un ii jj)) k:=mk_bdW (fun i j _ _=>Nat.le_trans (un_hq i j) hk) hk
theorem dv_is {A:Mt} {n i:Nat}:det4 (pad n (e (XA n (((i:Nat):Int):Rat) A)))=dv' (e A) n i:=by
  rw [XA_det]
  unfold dv'
  have:(((i:Nat):Int):Rat)=((i:Nat):Rat):=by exact_mod_cast rfl
  rw [this]
theorem Gq34 {n:Nat} (h:n≤4):Gq 3 n≤20000:=Nat.le_trans (Gq_mono 3 h) (by decide)
theorem mul_cv {p q:List Rat} {K L N:Nat} (h1:bd K p) (h2:bd L q) (hl:p.length≤N) (hb:1+N*(K+L+1)≤200000000000):∀k lo n,lo+n≤k+1→hq (cv (cl p) (cl q) k lo n)≤200000000000:=fun k lo n _=>
  cv_hq_of (bd_cl h1) (bd_cl h2) (Nat.le_trans (cl_le_len p) hl) hb k lo n
end Go.Proofs.YtpdbimfnhglhpaaGreat.Dt
namespace Go.Proofs.YtpdbimfnhglhpaaGreat.Dt
open Go.Proofs.YtpdbimfnhglhpaaGreat.Mx Go.Proofs.YtpdbimfnhglhpaaGreat.Big Go.Proofs.YtpdbimfnhglhpaaGreat.Td Go.Proofs.YtpdbimfnhglhpaaGreat.Po
set_option linter.unusedVariables false
def wh (LL:List (List Int)):List (List Rat):=LL.map ofL
theorem wh_step {LL:List (List Int)} {i:Nat} (h:i<LL.length):wh (LL.take i)++[ofL (LL.getD i [])]=wh (LL.take (i+1)):=by
  unfold wh
  rw [List.take_succ_eq_append_getElem h,List.map_append,List.getD_eq_getElem?_getD,List.getElem?_eq_getElem h]
  rfl
theorem wh_len (LL:List (List Int)) (i:Nat) (h:i≤LL.length):(wh (LL.take i)).length=i:=by unfold wh;rw [List.length_map,List.length_take];omega
def ex2:List (List Int):=[[2,1],[1,1]]
theorem ex_rows:∀i,i<2→((wh ex2).getD i []).length=2:=fun i hi=>by
  have:i=0∨i=1:=by omega
  rcases this with rfl|rfl <;> rfl
theorem ex_short:∀i,i<2→(([[2,1],[1,1]]:List (List Int)).getD i []).length≤1000:=fun i hi=>by
  have:i=0∨i=1:=by omega
  rcases this with rfl|rfl <;> decide
theorem ex_bd:Mx.bd (wh ex2) 1:=fun i c=>by
  have h1:i=0∨i=1∨2≤i:=by omega
  have h2:c=0∨c=1∨2≤c:=by omega
  unfold e
  rcases h1 with rfl|rfl|h1
  · rcases h2 with rfl | rfl | h2
    · decide +kernel
    · decide +kernel
    · rw [gD0 (l:=(wh ex2).getD 0 []) h2,hq_zero];exact Nat.le_refl _
  · rcases h2 with rfl | rfl | h2
    · decide +kernel
    · decide +kernel
    · rw [gD0 (l:=(wh ex2).getD 1 []) h2,hq_zero];exact Nat.le_refl _
  · rw [show (wh ex2).getD i [] = [] by rw [List.getD_eq_getElem?_getD, List.getElem?_eq_none (by exact h1)]; rfl]
    show hq 0≤1;rw [hq_zero];exact Nat.le_refl _
theorem ex_det:det4 (pad 2 (e (wh ex2)))=((1:Int):Rat):=by decide +kernel
theorem ex_mul:Po.mul (Po.vals [some ((1:Int):Rat),some ((1:Int):Rat)]) (Po.vals [some ((-1:Int):Rat),some ((1:Int):Rat)])=[((-1:Int):Rat),((0:Int):Rat),((1:Int):Rat)]:=by decide +kernel
theorem Hb5 {n k:Nat} (h4:n≤4) (hk:k≤n):4*Hb k+9≤100000:=by
  have:=Hb_mono (show k≤4 by omega)
  have:Hb 4≤20000:=by decide
  omega
theorem cp_hq84 {m:M4} {n:Nat} (h1:1≤n) (h4:n≤4) (hm:∀r c,hq (m r c)≤1) (i:Nat):hq ((cp m n).getD i 0)≤84:=cp_bd h1 h4 (Nat.le_refl 1) (fun r c _ _=>hm r c) i
theorem cp_ev0 {m:M4} {n:Nat} (h1:1≤n) (h4:n≤4):ev ((0:Int):Rat) (cp m n)=if n%2=1 then - det4 (pad n m) else det4 (pad n m):=by
  rw [show ((0:Int):Rat)=0 by decide +kernel];exact cp_zero m h1 h4
theorem cp_evq {m:M4} {n:Nat} (h1:1≤n) (h4:n≤4) (hm:∀r c,hq (m r c)≤1) (i:Nat):hq (ev ((0:Int):Rat) ((cp m n).drop i))≤1000:=by
  have hl:=(cp_len (m:=m) h1 h4).1
  have h:=ev_hq (K:=84) (L:=1) (x:=((0:Int):Rat)) (by decide) (l:=(cp m n).drop i) (fun j=>by
    have:((cp m n).drop i).getD j 0=(cp m n).getD (i+j) 0:=by rw [List.getD_eq_getElem?_getD,List.getElem?_drop,←List.getD_eq_getElem?_getD]
    rw [this];exact cp_hq84 h1 h4 hm _)
  have h2:((cp m n).drop i).length*(84+1+1)≤5*(84+1+1):=Nat.mul_le_mul_right _ (by rw [List.length_drop];omega)
  omega
theorem det_pq {A:Mt} {n:Nat} (hA:Mx.bd A 1):hq (det4 (pad n (e A)))≤65:=by
  have:=det4_hq (pad_hq (n:=n) (Nat.le_refl 1) (fun r c _ _=>hA r c));omega
theorem HM_end {A:Mt} {n:Nat} (h1:1≤n) (h4:n≤4) {r c:Nat} (hr:r<n) (hc:c<n):((HM n A (fun i=>(cp (e A) n).getD i 0) (n+1)).getD r []).getD c 0=0:=by
  have:=Hs_end (e A) h1 h4 hr hc
  have h2:e (HM n A (fun i=>(cp (e A) n).getD i 0) (n+1)) r c=0:=by unfold HM;rw [mk_e hr hc];exact this
  exact h2
theorem HM_row {A:Mt} {n:Nat} {p:Nat→Rat} {k r:Nat} (hr:r<n):((HM n A p k).getD r []).length=n:=mk_rl n n _ r hr
theorem HM_len {A:Mt} {n:Nat} {p:Nat→Rat} {k:Nat}:(HM n A p k).length=n:=mk_len n n _
end Go.Proofs.YtpdbimfnhglhpaaGreat.Dt
namespace Go.Proofs.YtpdbimfnhglhpaaGreat.Sp
open Go
set_option linter.unusedVariables false
set_option maxRecDepth 100000
set_option maxHeartbeats 8000000
theorem zqf {p:Option Addr} {n:Nat} {cap:Nat} {LL:List (List Int)} (hn:LL.length=n) (hn9:n≤1000) (hr9:∀i,i<n→(LL.getD i []).length≤1000):Con yd 70 [.slice p n cap] [] [slF (rS (rI .i64)) p cap LL] (Y:=(Option Addr)×Nat) (fun y=>True) (fun y=> .slice (y.1) ((Dt.wh LL).length) (y.2)) (fun y=>[]) (fun y=>[slF (rS rQ) (y.1) (y.2) (Dt.wh LL)]):=by
 refine zk Tryz.func70 rfl rfl rfl (fun c=> ?_)
 show RunC _ _ _ _ _ [(0,.slice p n cap)] [] [slF (rS (rI .i64)) p cap LL]
 refine zP 0 rfl (fun hL0=> ?_)
 refine ze<|za<|e_p (zb rfl)<|zf<|zc<|ze<|za<|e_p (zb rfl)<|zf<|zc<|ze<|ze<|zXb 62 (rS rQ)<|za<|e_mv rfl<|e_p (zv yh rfl)<|e_mv rfl<|zf<|zc<|zt<|zca (X:=Nat×(Option Addr)×Nat×(List (List Rat))) (fun x:Nat×(Option Addr)×Nat×(List (List Rat))=>x.1≤n∧x.2.2.2=Dt.wh (LL.take x.1)) (fun x=>[(3,.slice (x.2.1) (x.2.2.2.length) (x.2.2.1)),(11,.int .i64 ((x.1:Nat):Int)),(10,.int .i64 ((n:Nat):Int)),(9,.slice p n cap),(2,.slice none 0 0)]) (fun x=>[rowA 62 (rS rQ) (x.2.1) (x.2.2.1) (x.2.2.2)]) (fun x=>[slF (rS (rI .i64)) p cap LL]) (fun x:Nat×(Option Addr)×Nat×(List (List Rat))=>n - x.1) (0,none,0,([]:List (List Rat))) (show 0≤n∧([]:List (List Rat))=Dt.wh (LL.take 0) from by exact ⟨Nat.zero_le _,rfl⟩) ((.e rfl cgs (.e rfl cgs (.of rfl))):SubM _ _) (ho:=((.e (i:=0) rfl cgs .n):PickO _ _ _)) (s0 rfl) ?_
 rintro ⟨i,pR,cR,A⟩ hI
 replace hI:i≤n∧A=Dt.wh (LL.take i):=hI
 try dsimp only
 obtain ⟨hi,hA⟩:=hI
 have hAl:A.length=i:=by rw [hA];exact Dt.wh_len LL i om
 refine ze<|za<|e_p (zY rfl rfl)<|zf<|zc<|ze<|zD rfl (fun h1=> ?_) (fun h1=> ?_)
 ·
  refine zw<|zc<|ze<|zt<|ze<|za<|r_vl rfl rfl (zQ (x0:=(LL.getD i [])) 0 i rfl yh sz46 rfl (by first|rfl|assumption|omega|(simp;done)) rfl rfl (gD (d:=[]) om)) ?_
  rintro ⟨b2,o3,p4,c5⟩ -
  dsimp only [aq,nq,cq]
  refine e_ru (zh (j:=0) 0 ty46 rfl rfl rfl rfl)<|e_p (zb rfl)<|zf<|zc<|ze ?_
  have hLr:=hr9 i om
  refine za<|e_p (zb rfl)<|zf<|zc<|ze<|ze<|zXb 32 rQ<|za<|e_mv rfl<|e_p (zv yg rfl)<|e_mv rfl<|zf<|zc<|zt<|zca (X:=Nat×(Option Addr)×Nat×(List Rat)) (fun x:Nat×(Option Addr)×Nat×(List Rat)=>x.1≤(LL.getD i []).length∧x.2.2.2=Po.ofL ((LL.getD i []).take x.1)) (fun x=>[(6,.slice (x.2.1) (x.2.2.2.length) (x.2.2.1)),(17,.int .i64 ((x.1:Nat):Int)),(16,.int .i64 (((LL.getD i []).length:Nat):Int)),(15,.slice p4 ((LL.getD i []).length) c5),(3,.slice pR (A.length) cR),(11,.int .i64 ((i:Nat):Int)),(10,.int .i64 ((n:Nat):Int)),(9,.slice p n cap),(2,.slice none 0 0)]) (fun x=>[rowA 32 rQ (x.2.1) (x.2.2.1) (x.2.2.2),rowA 62 (rS rQ) pR cR A]) (fun x=>[atF b2 o3 [.slice p4 ((LL.getD i []).length) c5],slF (rI .i64) p4 c5 (LL.getD i []),slF (rS (rI .i64)) p cap LL]) (fun x:Nat×(Option Addr)×Nat×(List Rat)=>(LL.getD i []).length - x.1) (0,none,0,([]:List Rat)) (show 0≤(LL.getD i []).length∧([]:List Rat)=Po.ofL ((LL.getD i []).take 0) from by exact ⟨Nat.zero_le _,rfl⟩) ((.e rfl cgs (.e rfl cgs (.of rfl))):SubM _ _) (ho:=((.e (i:=0) rfl cgs (.c (i:=0) rfl .n)):PickO _ _ _)) ((.of [0,1,2] rfl):SelR _ _ _) ?_
  rintro ⟨j,pS,cS,B⟩ hJ
  replace hJ:j≤(LL.getD i []).length∧B=Po.ofL ((LL.getD i []).take j):=hJ
  try dsimp only
  obtain ⟨hj,hB⟩:=hJ
  have hBl:B.length=j:=by rw [hB];unfold Po.ofL;rw [List.length_map,List.length_take];omega
  refine ze<|za<|e_p (zY rfl rfl)<|zf<|zc<|ze<|zD rfl (fun h6=> ?_) (fun h6=> ?_)
  ·
   refine zw<|zc<|ze<|zt<|ze<|za<|zba (x0:=((LL.getD i []).getD j 0)) 1 j rfl yg sz3 rfl rfl rfl (by first|rfl|assumption|omega|(simp;done)) rfl rfl (gD (d:=0) om) (fun b7 o8 hok9=> ?_)
   replace hok9:=zHc.1 hok9
   refine e_ru (zh (j:=0) 0 ty3 rfl rfl rfl rfl)<|e_p (zb rfl)<|zf<|zc<|za<|e_mv rfl<|e_mv rfl<|zm rfl rfl (.c rfl .n) ce23 (zeb (z:=((LL.getD i []).getD j 0)) (hz:=cbo)) (.n) ?_
   rintro ⟨w310,w411⟩ -
   dsimp only [aq,nq,cq]
   refine zma rfl rfl (zka (r:=rQ) (k:=1) yc inf32 rfl dd dd dd (.c (x:=((((LL.getD i []).getD j 0):Int):Rat)) (cs:=[w310.b,w310.l,w411.b,w411.l]) (w310,w411) rfl rfl rfl (fun g hr=>Holds.get 0 rfl hr) .n)) (fun b12 _=> ?_)
   refine zea 0 rfl .z<|zya 1 rfl rfl rfl (zsa 0 rfl yc inf32 dd rfl rfl (by first|rfl|assumption|omega|(simp;done)) rfl (by first|rfl|assumption|omega|(simp;done)) om om) (fun _=>(.s .z)) ?_
   rintro ⟨p13,c14⟩ -
   dsimp only [aq,nq,cq]
   refine e_p (zb rfl)<|zf<|zK<|zc<|za<|e_p (zJ (z:=(((j+1):Nat):Int)) rfl rfl (w64 om))<|e_mv rfl<|zf<|zV ((j+1),p13,c14,(B++([((((LL.getD i []).getD j 0):Int):Rat)]))) (show (j+1)≤(LL.getD i []).length∧(B++([((((LL.getD i []).getD j 0):Int):Rat)]))=Po.ofL ((LL.getD i []).take (j+1)) from by exact ⟨by omega,by rw [hB];exact Po.ofL_take om⟩) (by show (LL.getD i []).length - (j+1)<(LL.getD i []).length - j;omega) ((.e rfl (by simp) (.of rfl)):SubM _ _) (ho:=((.of [1,1] rfl):PickO _ _ _)) ((.of [3,4,5] rfl):SelR _ _ _)
  ·
   refine zaa<|zg<|zg<|zp<|zc<|zVb 0 rfl .z<|za<|e_mv rfl<|e_mv rfl<|zma rfl rfl (zJc 0 rfl yb inf62 rfl (by first|rfl|assumption|omega|(simp;done))) (fun b15 _=> ?_)
   refine zea 0 rfl .z<|zya 2 rfl rfl rfl (zsa 0 rfl yb inf62 dd rfl rfl (by first|rfl|assumption|omega|(simp;done)) rfl (by first|rfl|assumption|omega|(simp;done)) om om) (fun _=>(.s (.s .z))) ?_
   rintro ⟨p16,c17⟩ -
   dsimp only [aq,nq,cq]
   refine e_p (zb rfl)<|zf<|zK<|zc<|za<|e_p (zJ (z:=(((i+1):Nat):Int)) rfl rfl (w64 om))<|e_mv rfl<|zf<|zV ((i+1),p16,c17,(A++([B]))) (show (i+1)≤n∧(A++([B]))=Dt.wh (LL.take (i+1)) from by exact ⟨by omega,by rw [hA,hB,List.take_of_length_le (l:=LL.getD i []) om];exact Dt.wh_step (i:=i) om⟩) (by show n - (i+1)<n - i;omega) ((.e rfl (by simp) (.of rfl)):SubM _ _) (ho:=((.c (i:=2) rfl .n):PickO _ _ _)) ((.c (j:=4) rfl .n):SelR _ _ _)
 ·
  refine zaa<|zg<|zg<|zp<|zc<|ze<|za<|e_mv rfl<|e_p (zb rfl)<|zf<|zc<|zG<|zjb 0 rfl .z ?_
  have hv9:A=Dt.wh LL:=by rw [hA,List.take_of_length_le om]
  exact zx Tryz.results70 (pR,cR) trivial (zo rfl) (by rw [← hv9]) (ho:=oN) ((.e (j:=0) rfl (by rw [← hv9]) .n):SelR _ _ _)
theorem zrf:Con yd 18 [] [] [] (Y:=Unit) (fun y=>True) (fun y=> .bool true) (fun y=>[]) (fun y=>[]):=by
 refine zk Tryz.func18 rfl rfl rfl (fun c=> ?_)
 show RunC _ _ _ _ _ [] [] []
 refine ze<|za<|e_p (zb rfl)<|zf<|zc<|ze<|za<|zma rfl rfl (zda (enc:=fun z:Int=>[.int .i64 z]) (ok:=InK .i64) (h1:=fun _=>rfl) (h2:=fun _=>rfl) (k:=2) yg inf3 rfl dd dd dd (.c (x:=2) rfl rfl (fun _ _=>by exact zHc.2 om) (.c (x:=1) rfl rfl (fun _ _=>by exact zHc.2 om) .n))) (fun b1 _=> ?_)
 refine zma rfl rfl (zda (enc:=fun z:Int=>[.int .i64 z]) (ok:=InK .i64) (h1:=fun _=>rfl) (h2:=fun _=>rfl) (k:=2) yg inf3 rfl dd dd dd (.c (x:=1) rfl rfl (fun _ _=>by exact zHc.2 om) (.c (x:=1) rfl rfl (fun _ _=>by exact zHc.2 om) .n))) (fun b2 _=> ?_)
 refine zea 0 rfl .z<|zea 1 rfl (.s .z)<|zma rfl rfl (zka (r:=rS (rI .i64)) (k:=2) yh inf46 rfl dd dd dd (.c (x:=[2,1]) (cs:=[.slice (some ⟨b1,0,none⟩) 2 2]) (some ⟨b1,0,none⟩,2) rfl rfl rfl (fun g hr=>Holds.get 0 rfl hr) (.c (x:=[1,1]) (cs:=[.slice (some ⟨b2,0,none⟩) 2 2]) (some ⟨b2,0,none⟩,2) rfl rfl rfl (fun g hr=>Holds.get 1 rfl hr) .n))) (fun b3 _=> ?_)
 refine zea 0 rfl .z<|zm rfl rfl (.c rfl .n) ce70 (zqf (p:=some ⟨b3,0,none⟩) (n:=2) (cap:=2) (LL:=[([2,1]),([1,1])]) (hn:=by rfl) (hn9:=by first|rfl|assumption|omega|decide|decide +kernel) (hr9:=by exact Dt.ex_short)) (.c (j:=0) rfl .n) ?_
 rintro ⟨p34,c35⟩ -
 dsimp only [aq,nq,cq]
 refine zm rfl rfl (.c rfl .n) ce24 (zsd (pA:=p34) (nA:=(Dt.wh ([([2,1]),([1,1])])).length) (cA:=c35) (A:=(Dt.wh ([([2,1]),([1,1])]))) (b:=1) (hnA:=by rfl) (hrA:=by exact Dt.ex_rows) (h1:=by first|rfl|assumption|omega|decide|decide +kernel) (hb1:=by first|rfl|assumption|omega|decide|decide +kernel) (hbA:=by exact Dt.ex_bd) (hG:=by first|rfl|assumption|omega|decide|decide +kernel)) (.c (j:=0) rfl .n) ?_
 rintro ⟨w36,w47⟩ -
 dsimp only [aq,nq,cq]
 refine e_mv rfl<|e_p (zn rfl rfl)<|e_p (zn rfl rfl)<|zM rfl rfl (zA zr32 rfl) (fun b8=> ?_)
 refine zl 0 rfl rfl rfl rfl rfl sz32 rfl (.t4 .nil) .z<|e_p (zb rfl)<|zf<|zc<|ze<|za<|zm rfl rfl (.c rfl .n) ce23 (zeb (z:=1) (hz:=by first|rfl|assumption|omega|decide|decide +kernel)) (.n) ?_
 rintro ⟨w39,w410⟩ -
 dsimp only [aq,nq,cq]
 refine zm rfl rfl (.c rfl .n) ce23 (zeb (z:=1) (hz:=by first|rfl|assumption|omega|decide|decide +kernel)) (.n) ?_
 rintro ⟨w311,w412⟩ -
 dsimp only [aq,nq,cq]
 refine zma rfl rfl (zka (r:=rE) (k:=2) ya inf32 rfl dd dd dd (.c (x:=(some ((1:Int):Rat))) (cs:=[w39.b,w39.l,w410.b,w410.l]) (w39,w410) rfl rfl rfl (fun g hr=>qF_e (Holds.get 1 rfl hr)) (.c (x:=(some ((1:Int):Rat))) (cs:=[w311.b,w311.l,w412.b,w412.l]) (w311,w412) rfl rfl rfl (fun g hr=>qF_e (Holds.get 0 rfl hr)) .n))) (fun b13 _=> ?_)
 refine zm rfl rfl (.c rfl .n) ce23 (zeb (z:=(-1)) (hz:=by first|rfl|assumption|omega|decide|decide +kernel)) (.n) ?_
 rintro ⟨w314,w415⟩ -
 dsimp only [aq,nq,cq]
 refine zm rfl rfl (.c rfl .n) ce23 (zeb (z:=1) (hz:=by first|rfl|assumption|omega|decide|decide +kernel)) (.n) ?_
 rintro ⟨w316,w417⟩ -
 dsimp only [aq,nq,cq]
 refine zma rfl rfl (zka (r:=rE) (k:=2) ya inf32 rfl dd dd dd (.c (x:=(some (((-1):Int):Rat))) (cs:=[w314.b,w314.l,w415.b,w415.l]) (w314,w415) rfl rfl rfl (fun g hr=>qF_e (Holds.get 1 rfl hr)) (.c (x:=(some ((1:Int):Rat))) (cs:=[w316.b,w316.l,w417.b,w417.l]) (w316,w417) rfl rfl rfl (fun g hr=>qF_e (Holds.get 0 rfl hr)) .n))) (fun b18 _=> ?_)
 refine zea 1 rfl (.s .z)<|zea 0 rfl .z<|zm rfl rfl (.c rfl (.c rfl .n)) ce71 (zBc (p1:=some ⟨b13,0,none⟩) (n1:=2) (c1:=2) (l1:=[(some ((1:Int):Rat)),(some ((1:Int):Rat))]) (p2:=some ⟨b18,0,none⟩) (n2:=2) (c2:=2) (l2:=[(some (((-1):Int):Rat)),(some ((1:Int):Rat))]) (hn1:=by rfl) (hm1:=by first|rfl|assumption|omega|decide|decide +kernel) (hn2:=by rfl) (hm2:=by first|rfl|assumption|omega|decide|decide +kernel) (hm12:=by first|rfl|assumption|omega|decide|decide +kernel) (hb1:=by exact fun i=>Nat.le_trans (Po.bd_dec (K:=1) (by decide +kernel) dd i) dd) (hb2:=by exact fun i=>Nat.le_trans (Po.bd_dec (K:=1) (by decide +kernel) dd i) dd) (hs:=by exact Dt.mul_cv (K:=1) (L:=1) (N:=2) (Po.bd_dec (by decide +kernel) dd) (Po.bd_dec (by decide +kernel) dd) dd dd)) (.c (j:=1) rfl (.c (j:=0) rfl .n)) ?_
 rintro ⟨p919,c920⟩ -
 dsimp only [aq,nq,cq]
 refine e_p (zb rfl)<|zf<|zc<|ze ?_
 have e21:((Dt.det4 (Dt.pad ((Dt.wh ([([2,1]),([1,1])])).length) (Mx.e (Dt.wh ([([2,1]),([1,1])]))))):Rat)=((1:Int):Rat):=by exact Dt.ex_det
 rw [e21]
 have e22:(Po.mul (Po.vals ([(some ((1:Int):Rat)),(some ((1:Int):Rat))])) (Po.vals ([(some (((-1):Int):Rat)),(some ((1:Int):Rat))])):List Rat)=[((-1:Int):Rat),((0:Int):Rat),((1:Int):Rat)]:=by exact Dt.ex_mul
 rw [e22]
 refine zW (OW:=[]) (O:=[emA,emA,boxA b8 32 (cw [w36,w47]),emA,emA,emA]) 100000 mixed (.then .ret) kr<|e_dm 0 rfl rfl rfl<|e_pv 1 rfl rfl (zna rfl rfl)<|e_dm 2 rfl rfl rfl<|e_u 3 rfl rfl (zd 2 ty32 rfl rfl (.t4 .nil))<|e_one 4 (zB rfl rfl rfl rfl (.c rfl .n) ce23 (zeb (z:=1) (hz:=by first|rfl|assumption|omega|decide|decide +kernel)) (.n) ?_)
 rintro ⟨w323,w424⟩ -
 dsimp only [aq,nq,cq]
 refine e_one 5 (zhb rfl rfl rfl rfl (.c rfl (.c rfl .n)) ce22 (zlb (u1:=w36) (v1:=w47) (q1:=((1:Int):Rat)) (u2:=w323) (v2:=w424) (q2:=((1:Int):Rat)) (hl:=by first|rfl|assumption|omega|decide|decide +kernel)) (.c (j:=8) rfl (.c (j:=0) rfl .n)) ?_)
 rw [show (decide (((1:Int):Rat)=((1:Int):Rat)))=true from by exact decide_eq_true rfl]
 refine e_pv 6 rfl rfl (zE rfl rfl)<|e_dm 7 rfl rfl rfl<|e_dm 8 rfl rfl rfl<|e_pv 9 rfl rfl (zv ya rfl)<|e_pv 10 rfl rfl (zna rfl rfl) ?_
 rw [show (decide (((([((-1:Int):Rat),((0:Int):Rat),((1:Int):Rat)]).length:Nat):Int)=3))=true from by exact decide_eq_true rfl]
 refine e_pv 11 rfl rfl (zE rfl rfl)<|e_dm 12 rfl rfl rfl<|e_dm 13 rfl rfl rfl<|d_vl 14 rfl rfl kr kr rfl rfl (zQ (x0:=(([((-1:Int):Rat),((0:Int):Rat),((1:Int):Rat)]).getD 0 (0:Rat))) 1 0 rfl ya sz32 rfl (by first|exact rfl|omega) rfl rfl (gD (d:=(0:Rat)) (by exact Nat.zero_lt_succ _))) ?_
 rintro ⟨b25,o26,w27,w28⟩ -
 dsimp only [aq,nq,cq]
 refine zQa open_rQ<|e_u 15 rfl rfl (zO (j:=0) 0 ty32 rfl rfl rfl (.t4 .nil))<|e_one 16 (zB rfl rfl rfl rfl (.c rfl .n) ce23 (zeb (z:=(-1)) (hz:=by first|rfl|assumption|omega|decide|decide +kernel)) (.n) ?_)
 rintro ⟨w329,w430⟩ -
 dsimp only [aq,nq,cq]
 refine e_one 17 (zhb rfl rfl rfl rfl (.c rfl (.c rfl .n)) ce22 (zlb (u1:=w27) (v1:=w28) (q1:=(([((-1:Int):Rat),((0:Int):Rat),((1:Int):Rat)]).getD 0 (0:Rat))) (u2:=w329) (v2:=w430) (q2:=(((-1):Int):Rat)) (hl:=by first|rfl|assumption|omega|decide|decide +kernel)) (.c (j:=2) rfl (.c (j:=0) rfl .n)) ?_)
 rw [show (decide ((([((-1:Int):Rat),((0:Int):Rat),((1:Int):Rat)]).getD 0 (0:Rat))=(((-1):Int):Rat)))=true from by exact decide_eq_true rfl]
 refine e_pv 18 rfl rfl (zE rfl rfl)<|e_pv 19 rfl rfl (zb rfl)<|zU kr<|zc<|zG ?_
 exact zx Tryz.results18 () trivial (zo rfl) rfl (ho:=oN) sN
end Go.Proofs.YtpdbimfnhglhpaaGreat.Sp
namespace Go.Proofs.YtpdbimfnhglhpaaGreat.Sp
open Go
set_option linter.unusedVariables false
set_option maxRecDepth 100000
set_option maxHeartbeats 8000000
theorem zid {p1:Option Addr} {n1:Nat} {c1:Nat} {l1:List (Option Rat)} {u1:Wd} {v1:Wd} {x1:Option Rat} (hn1:l1.length=n1) (hm1:n1≤1000) (hm9:n1≤900) (hb1:∀i,ye ((Po.vals l1).getD i 0)≤200000000000) (hb2:∀i,ye ((Po.vals [x1]).getD i 0)≤200000000000) (hs:∀k lo n,lo+n≤k+1→ye (Po.cv (Po.cl (Po.vals l1)) (Po.cl (Po.vals [x1])) k lo n)≤200000000000):Con yd 177 [.slice p1 n1 c1,.agg #[u1.b,u1.l,v1.b,v1.l]] [] [slF rE p1 c1 l1,eF u1 v1 x1] (Y:=(Option Addr)×Nat) (fun y=>True) (fun y=> .slice (y.1) ((Po.mul (Po.vals l1) (Po.vals [x1])).length) (y.2)) (fun y=>[]) (fun y=>[slF rQ (y.1) (y.2) (Po.mul (Po.vals l1) (Po.vals [x1]))]):=by
 refine zk Tryz.func177 rfl rfl rfl (fun c=> ?_)
 show RunC _ _ _ _ _ [(0,.slice p1 n1 c1),(1,.agg #[u1.b,u1.l,v1.b,v1.l])] [] [slF rE p1 c1 l1,eF u1 v1 x1]
 refine zP 0 rfl (fun hL0=> ?_)
 refine ze<|za<|zM rfl rfl (zT rfl rfl) (fun b1=> ?_)
 refine e_p (zb rfl)<|zf<|zc<|ze<|za<|e_mv rfl<|e_ru (zd 0 ty32 rfl rfl (.t4 .nil))<|zma rfl rfl (zka (r:=rE) (k:=1) ya inf32 rfl dd dd dd (.c (x:=x1) (cs:=[u1.b,u1.l,v1.b,v1.l]) (u1,v1) rfl rfl rfl (fun g hr=>Holds.get 1 rfl hr) .n)) (fun b2 _=> ?_)
 refine zea 0 rfl .z<|zm rfl rfl (.c rfl (.c rfl .n)) ce71 (zBc (p1:=p1) (n1:=n1) (c1:=c1) (l1:=l1) (p2:=some ⟨b2,0,none⟩) (n2:=1) (c2:=1) (l2:=[x1]) (hn1:=ass) (hm1:=ass) (hn2:=cbo) (hm2:=cbo) (hm12:=cbo) (hb1:=ass) (hb2:=ass) (hs:=ass)) (.c (j:=1) rfl (.c (j:=0) rfl .n)) ?_
 rintro ⟨p93,c94⟩ -
 dsimp only [aq,nq,cq]
 refine e_p (zb rfl)<|zf<|zc<|zG ?_
 exact zx Tryz.results177 (p93,c94) trivial (zo rfl) rfl (ho:=oN) (s0 rfl)
theorem zSd {p1:Option Addr} {n1:Nat} {c1:Nat} {l1:List (Option Rat)} {u1:Wd} {v1:Wd} {x1:Option Rat} (hn1:l1.length=n1) (hm1:n1≤1000) (hx:ye (x1.getD 0)≤200000000000) (hb1:∀i,ye ((l1.getD i none).getD 0)≤200000000000) (hs:∀i,ye (Po.ev (x1.getD 0) ((Po.vals l1).drop i))≤200000000000):Con yd 26 [.slice p1 n1 c1,.agg #[u1.b,u1.l,v1.b,v1.l]] [] [slF rE p1 c1 l1,eF u1 v1 x1] (Y:=Wd×Wd) (fun y=>True) (fun y=> .agg #[y.1.b,y.1.l,y.2.b,y.2.l]) (fun y=>[]) (fun y=>[qF true y.1 y.2 (Po.ev (x1.getD 0) (Po.vals l1))]):=by
 refine zk Tryz.func26 rfl rfl rfl (fun c=> ?_)
 show RunC _ _ _ _ _ [(0,.slice p1 n1 c1),(1,.agg #[u1.b,u1.l,v1.b,v1.l])] [] [slF rE p1 c1 l1,eF u1 v1 x1]
 refine zP 0 rfl (fun hL0=> ?_)
 refine ze<|za<|zM rfl rfl (zT rfl rfl) (fun b1=> ?_)
 refine zM rfl rfl (zA zr32 rfl) (fun b2=> ?_)
 refine zf<|zc<|ze<|zRg (qF x1.isSome u1 v1 (x1.getD 0)) (eF_weak 1 rfl)<|za<|zm rfl rfl (.n) ce84 (zKb) (.n) ?_
 rintro ⟨w33,w44⟩ -
 dsimp only [aq,nq,cq]
 refine zM rfl rfl (zA zr32 rfl) (fun b5=> ?_)
 refine zl 0 rfl rfl rfl rfl rfl sz32 rfl (.t4 .nil) .z<|zf<|zc<|ze<|ze<|za<|e_mv rfl<|e_p (zv ya rfl)<|e_p (zha (z:=(((n1:Nat):Int) - 1)) rfl rfl (w64 om))<|e_p (zb rfl)<|zf<|zc<|zt<|zca (X:=Nat×Wd×Wd) (fun x:Nat×Wd×Wd=>x.1≤n1) (fun x=>[(6,.int .i64 (((x.1:Nat):Int) - 1)),(5,.pointer (some ⟨b5,0,none⟩)),(4,.pointer (some ⟨b2,0,none⟩)),(3,.pointer (some ⟨b1,0,none⟩)),(0,.slice p1 n1 c1)]) (fun x=>[boxA b5 32 (cw [x.2.1,x.2.2]),boxA b2 32 (cw [wz,wz]),boxA b1 32 (cw [u1,v1])]) (fun x=>[qF true x.2.1 x.2.2 (Po.ev (x1.getD 0) ((Po.vals l1).drop x.1)),qF true w33 w44 ((0:Int):Rat),qF x1.isSome u1 v1 (x1.getD 0),slF rE p1 c1 l1,eF u1 v1 x1]) (fun x:Nat×Wd×Wd=>x.1) (n1,w33,w44) (show n1≤n1 from by exact Nat.le_refl _) (mR rfl) (ho:=((.of [0,0,0] rfl):PickO _ _ _)) ((.e (j:=0) rfl (by rw [Po.ev_top hn1]) (.of [0,1,2,3] rfl)):SelR _ _ _) ?_
 rintro ⟨i,su,sv⟩ hI
 replace hI:i≤n1:=hI
 try dsimp only [cw]
 refine ze<|ze<|za<|e_mv rfl<|e_p (zTa rfl rfl)<|zf<|zc<|zD rfl (fun h12=> ?_) (fun h12=> ?_)
 ·
  refine zw<|zc<|ze<|zt<|zW (OW:=[boxA b5 32 (cw [su,sv])]) (O:=[boxA b2 32 (cw [wz,wz]),boxA b1 32 (cw [u1,v1])]) 8 mixed (.block (.then (.then (.block (.then .ret))))) kr<|e_uw 0 rfl rfl (zd 0 ty32 rfl rfl (.t4 .nil))<|e_uw 1 rfl rfl (zd 2 ty32 rfl rfl (.t4 .nil))<|e_dm 3 rfl rfl rfl<|e_dm 4 rfl rfl rfl ?_
  have e6:((((i:Nat):Int) - 1):Int)=(((i - 1):Nat):Int):=by omega
  rw [e6]
  refine d_vl 5 rfl rfl kr kr rfl rfl (zQ (x0:=(l1.getD (i - 1) (none:Option Rat))) 3 (i - 1) rfl ya sz32 rfl (by first|rfl|assumption|(simp;done)|omega) rfl rfl (gD (d:=(none:Option Rat)) om)) ?_
  rintro ⟨b7,o8,w9,w10⟩ -
  dsimp only [aq,nq,cq]
  refine zQa open_rE<|e_u 6 rfl rfl (zO (j:=0) 0 ty32 rfl rfl rfl (.t4 .nil))<|e_one 2 (zB rfl rfl rfl rfl (.c rfl (.c rfl .n)) ce56 (zsb (k1:=true) (u1:=su) (v1:=sv) (q1:=(Po.ev (x1.getD 0) ((Po.vals l1).drop i))) (k2:=x1.isSome) (u2:=u1) (v2:=v1) (q2:=(x1.getD 0)) (hl:=by have h1:=hs i;omega)) (.c (j:=3) rfl (.c (j:=5) rfl .n)) ?_)
  rintro ⟨w311,w412⟩ -
  dsimp only [aq,nq,cq]
  refine e_one 7 (zB rfl rfl rfl rfl (.c rfl (.c rfl .n)) ce57 (zrb (k1:=true) (u1:=w311) (v1:=w412) (q1:=(Po.ev (x1.getD 0) ((Po.vals l1).drop i))*(x1.getD 0)) (k2:=(l1.getD (i - 1) (none:Option Rat)).isSome) (u2:=w9) (v2:=w10) (q2:=((l1.getD (i - 1) (none:Option Rat)).getD 0)) (hl:=by have h1:=hs i;have h2:=Big.hq_mul (Po.ev (x1.getD 0) ((Po.vals l1).drop i)) (x1.getD 0);have h3:=hb1 (i - 1);omega)) (.c (j:=0) rfl (.c (j:=2) rfl .n)) ?_)
  rintro ⟨w313,w414⟩ -
  dsimp only [aq,nq,cq]
  refine e_one 8 (zC kr rfl rfl rfl rfl rfl sz32 rfl (.t4 .nil) ?_)
  refine zU kr<|zK<|zc<|za<|e_mv rfl<|e_p (zha (z:=((((i - 1):Nat):Int) - 1)) rfl rfl (w64 om))<|e_p (zb rfl)<|zf<|zV ((i - 1),w313,w414) (show (i - 1)≤n1 from by omega) om ((.e rfl (by first|rfl|(congr 1;done)|(congr 1;omega)) (.of rfl)):SubM _ _) (ho:=((.of [0,0,0] rfl):PickO _ _ _)) ((.e (j:=0) rfl (by rw [← Po.vals_get,Po.ev_step om (by rw [Po.vals_len];omega)]) (.of [6,7,8,9] rfl)):SelR _ _ _)
 ·
  refine zaa<|zg<|zg<|zp<|zc<|ze<|za<|e_ru (zd 0 ty32 rfl rfl (.t4 .nil))<|zm rfl rfl (.c rfl .n) ce85 (zva (k1:=true) (u1:=su) (v1:=sv) (q1:=(Po.ev (x1.getD 0) ((Po.vals l1).drop i)))) (.c (j:=0) rfl .n) ?_
  rintro ⟨w315,w416⟩ -
  dsimp only [aq,nq,cq]
  refine zl 1 rfl rfl rfl rfl rfl sz32 rfl (.t4 .nil) (.s .z)<|zf<|zc<|zG ?_
  have hi0:i=0:=by omega
  have hv9:(Po.ev (x1.getD 0) ((Po.vals l1).drop i))=Po.ev (x1.getD 0) (Po.vals l1):=by rw [hi0];rfl
  exact zx Tryz.results26 (w315,w416) trivial (zq 1 ty32 rfl rfl (.t4 .nil)) rfl (ho:=oN) ((.e (j:=0) rfl (by rw [← hv9]) .n):SelR _ _ _)
theorem zTc {p1:Option Addr} {n1:Nat} {c1:Nat} {l1:List (Option Rat)} (hn1:l1.length=n1) (hm1:n1≤1000) (hb1:∀i,ye ((l1.getD i none).getD 0)≤200000000000):Con yd 175 [.slice p1 n1 c1] [] [slF rE p1 c1 l1] (Y:=(Option Addr)×Nat) (fun y=>True) (fun y=> .slice (y.1) ((Po.der (Po.vals l1)).length) (y.2)) (fun y=>[]) (fun y=>[slF rQ (y.1) (y.2) (Po.der (Po.vals l1))]):=by
 refine zk Tryz.func175 rfl rfl rfl (fun c=> ?_)
 show RunC _ _ _ _ _ [(0,.slice p1 n1 c1)] [] [slF rE p1 c1 l1]
 refine zP 0 rfl (fun hL0=> ?_)
 refine ze<|za<|e_p (zb rfl)<|zf<|zc<|ze<|za<|e_p (zb rfl)<|zf<|zc<|ze<|ze<|zXb 32 rQ<|za<|e_p (zb rfl)<|zf<|zc<|zt<|zca (X:=Nat×(Option Addr)×Nat×(List Rat)) (fun x:Nat×(Option Addr)×Nat×(List Rat)=>1≤x.1∧x.1≤max 1 n1∧x.2.2.2=Po.gen (Po.dg l1) (x.1 - 1)) (fun x=>[(3,.slice (x.2.1) (x.2.2.2.length) (x.2.2.1)),(4,.int .i64 ((x.1:Nat):Int)),(2,.slice none 0 0),(0,.slice p1 n1 c1)]) (fun x=>[rowA 32 rQ (x.2.1) (x.2.2.1) (x.2.2.2)]) (fun x=>[slF rE p1 c1 l1]) (fun x:Nat×(Option Addr)×Nat×(List Rat)=>n1 - x.1) (1,none,0,([]:List Rat)) (show 1≤1∧1≤max 1 n1∧([]:List Rat)=Po.gen (Po.dg l1) (1 - 1) from by exact ⟨by omega,by omega,rfl⟩) ((.e rfl cgs (.e rfl cgs (.c rfl (.c rfl .n)))):SubM _ _) (ho:=((.e (i:=0) rfl cgs .n):PickO _ _ _)) (s0 rfl) ?_
 rintro ⟨i,pR,cR,A⟩ hI
 replace hI:1≤i∧i≤max 1 n1∧A=Po.gen (Po.dg l1) (i - 1):=hI
 try dsimp only
 obtain ⟨hi1,hi,hA⟩:=hI
 have hAl:A.length=i - 1:=by rw [hA,Po.gen_len]
 refine ze<|ze<|za<|e_mv rfl<|e_mv rfl<|e_p (zv ya rfl)<|e_p (zY rfl rfl)<|zf<|zc<|zD rfl (fun h1=> ?_) (fun h1=> ?_)
 ·
  refine zw<|zc<|ze<|zt<|zW (OW:=[rowA 32 rQ pR cR A]) (O:=[]) 9 mixed (.block (.then (.then (.block (.then .ret))))) kr<|e_dm 0 rfl rfl rfl<|e_dm 1 rfl rfl rfl<|e_dm 3 rfl rfl rfl<|e_dm 4 rfl rfl rfl<|d_vl 5 rfl rfl kr kr rfl rfl (zQ (x0:=(l1.getD i (none:Option Rat))) 0 i rfl ya sz32 rfl (by first|rfl|assumption|(simp;done)|omega) rfl rfl (gD (d:=(none:Option Rat)) om)) ?_
  rintro ⟨b2,o3,w4,w5⟩ -
  dsimp only [aq,nq,cq]
  refine zQa open_rE<|e_u 6 rfl rfl (zO (j:=0) 0 ty32 rfl rfl rfl (.t4 .nil))<|e_one 2 (zB rfl rfl rfl rfl (.c rfl .n) ce52 (zJa (z:=((i:Nat):Int)) (hz:=cbo)) (.n) ?_)
  rintro ⟨w36,w47⟩ -
  dsimp only [aq,nq,cq]
  refine e_one 7 (zB rfl rfl rfl rfl (.c rfl (.c rfl .n)) ce56 (zsb (k1:=true) (u1:=w36) (v1:=w47) (q1:=((((i:Nat):Int):Int):Rat)) (k2:=(l1.getD i (none:Option Rat)).isSome) (u2:=w4) (v2:=w5) (q2:=((l1.getD i (none:Option Rat)).getD 0)) (hl:=by have h1:=hb1 i;have h2:=Big.hq_64 (z:=((i:Nat):Int)) om om;omega)) (.c (j:=0) rfl (.c (j:=2) rfl .n)) ?_)
  rintro ⟨w38,w49⟩ -
  dsimp only [aq,nq,cq]
  refine e_one 8 (o_ef0 rfl rfl rfl rfl (zka (r:=rQ) (k:=1) yc inf32 rfl dd dd dd (.c (x:=(((((i:Nat):Int):Int):Rat)*((l1.getD i (none:Option Rat)).getD 0))) (cs:=[w38.b,w38.l,w49.b,w49.l]) (w38,w49) rfl rfl rfl (fun g hr=>Holds.get 0 rfl hr) .n)) (fun b10 _=> ?_))
  refine zFe 0 rfl .z<|e_one 9 (zQb (A':=fun v:Option Addr×Nat=>rowA 32 rQ v.1 v.2 (A++([(((((i:Nat):Int):Int):Rat)*((l1.getD i (none:Option Rat)).getD 0))]))) kr rfl rfl rfl (zsa 0 rfl yc inf32 dd rfl rfl (by first|rfl|assumption|(simp;done)|omega) rfl (by first|rfl|assumption|(simp;done)|omega) om om) ?_)
  rintro ⟨p11,c12⟩ -
  dsimp only [aq,nq,cq]
  refine e_pv 10 rfl rfl (zb rfl)<|zU kr<|zK<|zc<|za<|e_mv rfl<|e_p (zJ (z:=(((i+1):Nat):Int)) rfl rfl (w64 om))<|e_p (zb rfl)<|zf<|zV ((i+1),p11,c12,(A++([(((((i:Nat):Int):Int):Rat)*((l1.getD i (none:Option Rat)).getD 0))]))) (show 1≤(i+1)∧(i+1)≤max 1 n1∧(A++([(((((i:Nat):Int):Int):Rat)*((l1.getD i (none:Option Rat)).getD 0))]))=Po.gen (Po.dg l1) ((i+1) - 1) from by exact ⟨by omega,by omega,by rw [hA];exact Po.dg_step hi1⟩) (by show n1 - (i+1)<n1 - i;omega) ((.e rfl (by simp) (.of rfl)):SubM _ _) (ho:=(o0 rfl)) ((.c (j:=6) rfl .n):SelR _ _ _)
 ·
  refine zaa<|zg<|zg<|zp<|zc<|ze<|zVb 0 rfl .z<|za<|e_mv rfl<|zqa (addQE 0 rfl)<|zm rfl rfl (.c rfl .n) ce159 (zKa (p1:=pR) (n1:=A.length) (c1:=cR) (l1:=(A.map some)) (hn1:=by exact List.length_map _) (hm1:=cbo)) (.c (j:=0) rfl .n) ?_
  rintro ⟨p913,c914⟩ -
  dsimp only [aq,nq,cq]
  refine e_p (zb rfl)<|zf<|zc<|zG ?_
  have hv9:Po.cl (Po.vals (A.map some))=(Po.der (Po.vals l1)):=by rw [hA];exact Po.dg_der hn1 om
  exact zx Tryz.results175 (p913,c914) trivial (zo rfl) (by rw [hv9]) (ho:=oN) ((.e (j:=0) rfl (by rw [hv9]) .n):SelR _ _ _)
end Go.Proofs.YtpdbimfnhglhpaaGreat.Sp
namespace Go.Proofs.YtpdbimfnhglhpaaGreat.Sp
open Go
set_option linter.unusedVariables false
set_option maxRecDepth 100000
set_option maxHeartbeats 8000000
theorem zjg {pA:Option Addr} {nA:Nat} {cA:Nat} {A:List (List Rat)} (hnA:A.length=nA) (hrA:∀i,i<nA→(A.getD i []).length=nA) (h1:1≤nA∧nA≤4) (hbA:Mx.bd A 1):Con yd 21 [.slice pA nA cA] [] [slF (rS rQ) pA cA A] (Y:=(Option Addr)×Nat) (fun y=>True) (fun y=> .tuple #[.slice (y.1) ((Dt.cp (Mx.e A) nA).length) (y.2),.bool true]) (fun y=>[]) (fun y=>[slF rQ (y.1) (y.2) (Dt.cp (Mx.e A) nA)]):=by
 refine zk Tryz.func21 rfl rfl rfl (fun c=> ?_)
 show RunC _ _ _ _ _ [(0,.slice pA nA cA)] [] [slF (rS rQ) pA cA A]
 refine zP 0 rfl (fun hL0=> ?_)
 have hA0:=hrA 0 om
 have hUA:∀i,i<nA→(A.getD i []).length=(A.getD 0 []).length:=fun i hi=>by rw [hrA i hi,hA0]
 refine ze<|za<|e_p (zb rfl)<|e_p (zb rfl)<|zf<|zc<|ze<|za<|e_mv rfl<|e_p (zv yb rfl)<|e_p (zb rfl)<|zf<|zc<|ze<|za<|e_mv rfl<|zm rfl rfl (.c rfl .n) ce27 (zgc (n:=nA) (h1:=by exact ⟨by omega,by omega⟩)) (.n) ?_
 rintro ⟨p31,c32⟩ -
 dsimp only [aq,nq,cq]
 refine e_mv rfl<|e_p (zn rfl rfl)<|e_p (zn rfl rfl)<|e_p (zb rfl)<|e_p (zb rfl)<|zf<|zc<|ze<|za<|e_p (zb rfl)<|zf<|zc<|ze<|ze<|zPg rQ ?_
 have hdv:∀i,i≤5→ye (Dt.dv' (Mx.e A) nA i)≤161:=fun i hi=>Dt.dv_hq hi hbA
 refine za<|e_mv rfl<|e_p (zJ (z:=(((nA+1):Nat):Int)) rfl rfl (w64 om))<|e_mv rfl<|zf<|zc<|zt<|zca (X:=Nat×(Option Addr)×Nat) (fun x:Nat×(Option Addr)×Nat=>x.1≤nA+1) (fun x=>[(7,.slice (x.2.1) ((Dt.thP nA (Dt.dv' (Mx.e A) nA) x.1).length) (x.2.2)),(29,.int .i64 ((x.1:Nat):Int)),(28,.int .i64 (((nA+1):Nat):Int)),(6,.int .i64 0),(5,.slice p31 nA c32),(4,.int .i64 ((nA:Nat):Int)),(0,.slice pA nA cA)]) (fun x=>[]) (fun x=>[slF rQ (x.2.1) (x.2.2) (Dt.thP nA (Dt.dv' (Mx.e A) nA) x.1),slF rQ none 0 ([]),slF (rS rQ) p31 c32 (Mx.mk nA nA (fun ii jj=>Td.un ii jj)),slF (rS rQ) pA cA A]) (fun x:Nat×(Option Addr)×Nat=>nA+1 - x.1) (0,none,0) (show 0≤nA+1 from by exact Nat.zero_le _) ((.e rfl (by rfl) (.e rfl cgs (.of rfl))):SubM _ _) (ho:=oN) ((.e (j:=0) rfl (by rfl) (.of [0,1,2] rfl)):SelR _ _ _) ?_
 rintro ⟨i,pO,cO⟩ hI
 replace hI:i≤nA+1:=hI
 try dsimp only
 refine ze<|za<|e_p (zY rfl rfl)<|zf<|zc<|ze<|zD rfl (fun h3=> ?_) (fun h3=> ?_)
 ·
  refine zw<|zc<|ze<|zt<|ze<|za<|e_mv rfl<|e_p (zb rfl)<|zf<|zc<|ze<|za<|e_mv rfl<|e_mv rfl<|zm rfl rfl (.c rfl .n) ce23 (zeb (z:=((i:Nat):Int)) (hz:=by first|rfl|assumption|omega|exact ⟨by omega,by omega⟩|exact Mx.mk_len _ _ _|exact Mx.mk_rl _ _ _|decide)) (.n) ?_
  rintro ⟨w34,w45⟩ -
  dsimp only [aq,nq,cq]
  refine zm rfl rfl (.c rfl (.c rfl .n)) ce28 (znc (pA:=p31) (nA:=nA) (cA:=c32) (A:=(Mx.mk nA nA (fun ii jj=>Td.un ii jj))) (N:=nA) (uk:=w34) (vk:=w45) (xk:=((((i:Nat):Int):Int):Rat)) (hnA:=by first|rfl|assumption|omega|exact ⟨by omega,by omega⟩|exact Mx.mk_len _ _ _|exact Mx.mk_rl _ _ _|decide) (hrA:=by first|rfl|assumption|omega|exact ⟨by omega,by omega⟩|exact Mx.mk_len _ _ _|exact Mx.mk_rl _ _ _|decide) (h1:=by exact ⟨by omega,by omega⟩) (h2:=by exact ⟨by omega,by omega⟩) (hqA:=by exact Dt.un_bd dd) (hxk:=by exact Nat.le_trans (Dt.ix_hq om) dd)) (.c (j:=3) rfl (.c (j:=0) rfl .n)) ?_
  rintro ⟨p36,c37⟩ -
  dsimp only [aq,nq,cq]
  refine e_mv rfl<|e_p (zn rfl rfl)<|e_p (zn rfl rfl)<|e_p (zb rfl)<|e_p (zb rfl)<|zf<|zc<|ze ?_
  have e8:(Mx.mk nA nA (fun ii jj=>((((i:Nat):Int):Int):Rat)*Mx.e (Mx.mk nA nA (fun ii jj=>Td.un ii jj)) ii jj):List (List Rat))=Dt.XI nA (((i:Nat):Int):Rat):=by rfl
  rw [e8]
  refine za<|e_mv rfl<|e_mv rfl<|zm rfl rfl (.c rfl (.c rfl .n)) ce76 (zGg (pA:=p36) (nA:=nA) (cA:=c37) (A:=(Dt.XI nA (((i:Nat):Int):Rat))) (pB:=pA) (cB:=cA) (B:=A) (N:=nA) (hnA:=by first|rfl|assumption|omega|exact ⟨by omega,by omega⟩|exact Mx.mk_len _ _ _|exact Mx.mk_rl _ _ _|decide) (hrA:=by first|rfl|assumption|omega|exact ⟨by omega,by omega⟩|exact Mx.mk_len _ _ _|exact Mx.mk_rl _ _ _|decide) (hnB:=ass) (hrB:=ass) (h1:=by exact ⟨by omega,by omega⟩) (h2:=by exact ⟨by omega,by omega⟩) (hqA:=by exact (Dt.XI_hq (Dt.ix_hq om)).up dd) (hqB:=by exact hbA.up dd)) (.c (j:=0) rfl (.c (j:=5) rfl .n)) ?_
  rintro ⟨p39,c310⟩ -
  dsimp only [aq,nq,cq]
  refine e_mv rfl<|e_p (zn rfl rfl)<|e_p (zn rfl rfl)<|e_p (zb rfl)<|e_p (zb rfl)<|zf<|zc<|ze ?_
  have e11:(Mx.mk nA nA (fun ii jj=>Mx.e (Dt.XI nA (((i:Nat):Int):Rat)) ii jj - Mx.e A ii jj):List (List Rat))=Dt.XA nA (((i:Nat):Int):Rat) A:=by rfl
  rw [e11]
  refine za<|e_mv rfl<|zm rfl rfl (.c rfl .n) ce24 (zsd (pA:=p39) (nA:=nA) (cA:=c310) (A:=(Dt.XA nA (((i:Nat):Int):Rat) A)) (b:=3) (hnA:=by first|rfl|assumption|omega|exact ⟨by omega,by omega⟩|exact Mx.mk_len _ _ _|exact Mx.mk_rl _ _ _|decide) (hrA:=by first|rfl|assumption|omega|exact ⟨by omega,by omega⟩|exact Mx.mk_len _ _ _|exact Mx.mk_rl _ _ _|decide) (h1:=ass) (hb1:=by first|rfl|assumption|omega|exact ⟨by omega,by omega⟩|exact Mx.mk_len _ _ _|exact Mx.mk_rl _ _ _|decide) (hbA:=by exact Dt.XA_hq (k:=1) (b:=1) (Dt.ix_hq om) hbA) (hG:=by exact Dt.Gq34 h1.2)) (.c (j:=0) rfl .n) ?_
  rintro ⟨w312,w413⟩ -
  dsimp only [aq,nq,cq]
  refine e_mv rfl<|e_p (zn rfl rfl)<|e_p (zn rfl rfl)<|zM rfl rfl (zA zr32 rfl) (fun b14=> ?_)
  refine zl 0 rfl rfl rfl rfl rfl sz32 rfl (.t4 .nil) .z<|e_p (zb rfl)<|zf<|zc<|ze<|ze ?_
  have e15:((Dt.det4 (Dt.pad nA (Mx.e (Dt.XA nA (((i:Nat):Int):Rat) A)))):Rat)=(Dt.dv' (Mx.e A) nA i):=by exact Dt.dv_is
  rw [e15]
  refine za<|e_mv rfl<|e_mv rfl<|e_p (zJ (z:=0) rfl rfl (w64 dd))<|e_mv rfl<|e_p (zJ (z:=0) rfl rfl (w64 dd))<|e_mv rfl<|e_p (zJ (z:=0) rfl rfl (w64 dd))<|e_p (zxa rfl rfl)<|zf<|zc<|zoa rfl rfl<|zw<|zc<|ze<|za<|e_ru (zd 0 ty32 rfl rfl (.t4 .nil))<|zma rfl rfl (zka (r:=rQ) (k:=1) ya inf32 rfl dd dd dd (.c (x:=(Dt.dv' (Mx.e A) nA i)) (cs:=[w312.b,w312.l,w413.b,w413.l]) (w312,w413) rfl rfl rfl (fun g hr=>Holds.get 0 rfl hr) .n)) (fun b16 _=> ?_)
  refine e_p (zb rfl)<|zf<|zc<|ze<|ze<|zVb 0 rfl .z ?_
  have e17:([(Dt.dv' (Mx.e A) nA i)]:List Rat)=Dt.lnP i (Dt.dv' (Mx.e A) nA i) 0:=by rfl
  rw [e17]
  refine za<|e_mv rfl<|e_p (zJ (z:=(((nA+1):Nat):Int)) rfl rfl (w64 om))<|e_mv rfl<|zf<|zc<|zt<|zca (X:=Nat×(Option Addr)×Nat) (fun x:Nat×(Option Addr)×Nat=>x.1≤nA+1) (fun x=>[(14,.slice (x.2.1) ((Dt.lnP i (Dt.dv' (Mx.e A) nA i) x.1).length) (x.2.2)),(62,.int .i64 ((x.1:Nat):Int)),(61,.int .i64 (((nA+1):Nat):Int)),(8,.int .i64 ((i:Nat):Int)),(7,.slice pO ((Dt.thP nA (Dt.dv' (Mx.e A) nA) i).length) cO),(29,.int .i64 ((i:Nat):Int)),(28,.int .i64 (((nA+1):Nat):Int)),(6,.int .i64 0),(5,.slice p31 nA c32),(4,.int .i64 ((nA:Nat):Int)),(0,.slice pA nA cA)]) (fun x=>[boxA b14 32 (cw [w312,w413])]) (fun x=>[slF rQ (x.2.1) (x.2.2) (Dt.lnP i (Dt.dv' (Mx.e A) nA i) x.1),qF true w312 w413 (Dt.dv' (Mx.e A) nA i),slF rQ pO cO (Dt.thP nA (Dt.dv' (Mx.e A) nA) i),slF rQ none 0 ([]),slF (rS rQ) p31 c32 (Mx.mk nA nA (fun ii jj=>Td.un ii jj)),slF (rS rQ) pA cA A]) (fun x:Nat×(Option Addr)×Nat=>nA+1 - x.1) (0,some ⟨b16,0,none⟩,1) (show 0≤nA+1 from by exact Nat.zero_le _) ((.e rfl (by rfl) (.e rfl cgs (.of rfl))):SubM _ _) (ho:=((.c (i:=1) rfl .n):PickO _ _ _)) ((.e (j:=0) rfl (by first|rfl|simp_all) (.of [1,5,6,7,8] rfl)):SelR _ _ _) ?_
  rintro ⟨k,pP,cP⟩ hK
  replace hK:k≤nA+1:=hK
  try dsimp only [cw]
  have hlb:=Po.bd_mono (Dt.lnP_bd (i:=i) om (hdv i om) k om) (Dt.Wq_mono 161 (show k≤5 by omega))
  refine ze<|za<|e_p (zY rfl rfl)<|zf<|zc<|ze<|zD rfl (fun h18=> ?_) (fun h18=> ?_)
  ·
   refine zw<|zc<|ze<|zt<|ze<|za<|e_mv rfl<|e_p (zb rfl)<|zf<|zc<|ze<|za<|e_mv rfl<|e_mv rfl<|e_p (zxa rfl rfl)<|zf<|zc<|zD rfl (fun h67=> ?_) (fun h67=> ?_)
   ·
    have h67n:k≠i:=by omega
    refine ze<|za<|e_mv rfl<|e_mv rfl<|e_p (zha (z:=(((i:Nat):Int) - ((k:Nat):Int))) rfl rfl (w64 om))<|zm rfl rfl (.c rfl (.c rfl .n)) ce11 (zfd (z1:=1) (z2:=(((i:Nat):Int) - ((k:Nat):Int))) (hz1:=by first|rfl|assumption|omega|exact ⟨by omega,by omega⟩|exact Mx.mk_len _ _ _|exact Mx.mk_rl _ _ _|decide) (hz2:=by first|rfl|assumption|omega|exact ⟨by omega,by omega⟩|exact Mx.mk_len _ _ _|exact Mx.mk_rl _ _ _|decide) (hy:=by first|rfl|assumption|omega|exact ⟨by omega,by omega⟩|exact Mx.mk_len _ _ _|exact Mx.mk_rl _ _ _|decide)) (.n) ?_
    rintro ⟨w319,w420⟩ -
    dsimp only [aq,nq,cq]
    refine e_mv rfl<|e_p (zn rfl rfl)<|e_p (zn rfl rfl)<|zM rfl rfl (zA zr32 rfl) (fun b21=> ?_)
    refine zl 0 rfl rfl rfl rfl rfl sz32 rfl (.t4 .nil) .z<|e_p (zb rfl)<|zf<|zc<|ze<|za<|e_mv rfl<|e_p (zAe (z:=(-((k:Nat):Int))) rfl (w64 om))<|e_mv rfl<|e_mv rfl<|e_p (zha (z:=(((i:Nat):Int) - ((k:Nat):Int))) rfl rfl (w64 om))<|zm rfl rfl (.c rfl (.c rfl .n)) ce11 (zfd (z1:=(-((k:Nat):Int))) (z2:=(((i:Nat):Int) - ((k:Nat):Int))) (hz1:=by first|rfl|assumption|omega|exact ⟨by omega,by omega⟩|exact Mx.mk_len _ _ _|exact Mx.mk_rl _ _ _|decide) (hz2:=by first|rfl|assumption|omega|exact ⟨by omega,by omega⟩|exact Mx.mk_len _ _ _|exact Mx.mk_rl _ _ _|decide) (hy:=by first|rfl|assumption|omega|exact ⟨by omega,by omega⟩|exact Mx.mk_len _ _ _|exact Mx.mk_rl _ _ _|decide)) (.n) ?_
    rintro ⟨w322,w423⟩ -
    dsimp only [aq,nq,cq]
    refine e_mv rfl<|e_p (zn rfl rfl)<|e_p (zn rfl rfl)<|zM rfl rfl (zA zr32 rfl) (fun b24=> ?_)
    refine zl 0 rfl rfl rfl rfl rfl sz32 rfl (.t4 .nil) .z<|e_p (zb rfl)<|zf<|zc<|za<|e_mv rfl<|e_ru (zd 0 ty32 rfl rfl (.t4 .nil))<|e_ru (zd 1 ty32 rfl rfl (.t4 .nil))<|zma rfl rfl (zka (r:=rE) (k:=2) ya inf32 rfl dd dd dd (.c (x:=(some (Rat.divInt (-((k:Nat):Int)) (((i:Nat):Int) - ((k:Nat):Int))))) (cs:=[w322.b,w322.l,w423.b,w423.l]) (w322,w423) rfl rfl rfl (fun g hr=>qF_e (Holds.get 0 rfl hr)) (.c (x:=(some (Rat.divInt 1 (((i:Nat):Int) - ((k:Nat):Int))))) (cs:=[w319.b,w319.l,w420.b,w420.l]) (w319,w420) rfl rfl rfl (fun g hr=>qF_e (Holds.get 1 rfl hr)) .n))) (fun b25 _=> ?_)
    refine zqa (addQE 2 rfl)<|zea 0 rfl .z<|zm rfl rfl (.c rfl (.c rfl .n)) ce71 (zBc (p1:=pP) (n1:=(Dt.lnP i (Dt.dv' (Mx.e A) nA i) k).length) (c1:=cP) (l1:=((Dt.lnP i (Dt.dv' (Mx.e A) nA i) k).map some)) (p2:=some ⟨b25,0,none⟩) (n2:=2) (c2:=2) (l2:=[(some (Rat.divInt (-((k:Nat):Int)) (((i:Nat):Int) - ((k:Nat):Int)))),(some (Rat.divInt 1 (((i:Nat):Int) - ((k:Nat):Int))))]) (hn1:=by exact List.length_map _) (hm1:=by have h8:=Dt.lnP_len (i:=i) (d:=(Dt.dv' (Mx.e A) nA i)) k;omega) (hn2:=by rfl) (hm2:=by first|rfl|assumption|omega|exact ⟨by omega,by omega⟩|exact Mx.mk_len _ _ _|exact Mx.mk_rl _ _ _|decide) (hm12:=by have h8:=Dt.lnP_len (i:=i) (d:=(Dt.dv' (Mx.e A) nA i)) k;omega) (hb1:=by rw [Po.vals_some];exact fun j=>Nat.le_trans (hlb j) dd) (hb2:=by exact fun j=>Nat.le_trans (Dt.two_bd h67n om om j) dd) (hs:=by rw [Po.vals_some];exact Dt.mul_cv hlb (Dt.two_bd h67n om om) (N:=6) (by have h8:=Dt.lnP_len (i:=i) (d:=(Dt.dv' (Mx.e A) nA i)) k;omega) dd)) (.c (j:=1) rfl (.c (j:=0) rfl .n)) ?_
    rintro ⟨p926,c927⟩ -
    dsimp only [aq,nq,cq]
    refine e_p (zb rfl)<|zf<|zK<|zc<|za<|e_p (zJ (z:=(((k+1):Nat):Int)) rfl rfl (w64 om))<|e_mv rfl<|zf ?_
    have e28:(Po.mul (Po.vals ((Dt.lnP i (Dt.dv' (Mx.e A) nA i) k).map some)) (Po.vals ([(some (Rat.divInt (-((k:Nat):Int)) (((i:Nat):Int) - ((k:Nat):Int)))),(some (Rat.divInt 1 (((i:Nat):Int) - ((k:Nat):Int))))])):List Rat)=Dt.lnP i (Dt.dv' (Mx.e A) nA i) (k+1):=by rw [Po.vals_some];exact Dt.lnP_yes om
    rw [e28]
    refine zV ((k+1),p926,c927) (show (k+1)≤nA+1 from by show k+1≤nA+1;omega) (by show nA+1 - (k+1)<nA+1 - k;omega) (mR rfl) (ho:=((.c (i:=3) rfl .n):PickO _ _ _)) ((.of [0,6,7,8,9,10] rfl):SelR _ _ _)
   ·
    refine zw<|zK<|zc<|za<|e_p (zJ (z:=(((k+1):Nat):Int)) rfl rfl (w64 om))<|e_mv rfl<|zf ?_
    have e29:(Dt.lnP i (Dt.dv' (Mx.e A) nA i) k:List Rat)=Dt.lnP i (Dt.dv' (Mx.e A) nA i) (k+1):=by exact Dt.lnP_no om
    rw [e29]
    refine zV ((k+1),pP,cP) (show (k+1)≤nA+1 from by show k+1≤nA+1;omega) (by show nA+1 - (k+1)<nA+1 - k;omega) (mR rfl) (ho:=(o0 rfl)) ((.of [0,1,2,3,4,5] rfl):SelR _ _ _)
  ·
   refine zaa<|zg<|zg<|zp<|zc<|za<|e_mv rfl<|e_mv rfl<|zqa (addQE 2 rfl)<|zqa (addQE 1 rfl)<|zm rfl rfl (.c rfl (.c rfl .n)) ce77 (zQe (p1:=pO) (n1:=(Dt.thP nA (Dt.dv' (Mx.e A) nA) i).length) (c1:=cO) (l1:=((Dt.thP nA (Dt.dv' (Mx.e A) nA) i).map some)) (p2:=pP) (n2:=(Dt.lnP i (Dt.dv' (Mx.e A) nA i) k).length) (c2:=cP) (l2:=((Dt.lnP i (Dt.dv' (Mx.e A) nA i) k).map some)) (hn1:=by exact List.length_map _) (hm1:=by have h8:=Dt.thP_len (n:=nA) (d:=(Dt.dv' (Mx.e A) nA)) i;omega) (hn2:=by exact List.length_map _) (hm2:=by have h8:=Dt.lnP_len (i:=i) (d:=(Dt.dv' (Mx.e A) nA i)) k;omega) (hb:=by intro j;rw [Po.msome,Po.msome];have h8:=Dt.thP_bd h1.2 hdv i om j;have h9:=Dt.lnP_bd (i:=i) om (hdv i om) k om j;have h7:=Dt.Wq_mono 161 (show k≤5 by omega);have h6:i*(Dt.Wq 161 5+1)≤4*(Dt.Wq 161 5+1):=Nat.mul_le_mul_right _ om;have h5:Dt.Wq 161 5≤2000000:=dd;omega)) (.c (j:=1) rfl (.c (j:=0) rfl .n)) ?_
   rintro ⟨p930,c931⟩ -
   dsimp only [aq,nq,cq]
   refine e_p (zb rfl)<|zf<|zK<|zc<|za<|e_p (zJ (z:=(((i+1):Nat):Int)) rfl rfl (w64 om))<|e_mv rfl<|zf ?_
   have ekn:k=nA+1:=by omega
   have e32:(Po.add (Po.vals ((Dt.thP nA (Dt.dv' (Mx.e A) nA) i).map some)) (Po.vals ((Dt.lnP i (Dt.dv' (Mx.e A) nA i) k).map some)):List Rat)=Dt.thP nA (Dt.dv' (Mx.e A) nA) (i+1):=by rw [Po.vals_some,Po.vals_some,ekn,Dt.thP_step]
   rw [e32]
   refine zV ((i+1),p930,c931) (show (i+1)≤nA+1 from by show i+1≤nA+1;omega) (by show nA+1 - (i+1)<nA+1 - i;omega) (mR rfl) (ho:=oN) ((.of [0,6,7,8] rfl):SelR _ _ _)
 ·
  refine zaa<|zg<|zg<|zp<|zc<|ze<|za<|e_mv rfl<|e_p (zb rfl)<|e_p (zb rfl)<|zf<|zc<|zG ?_
  have ein:i=nA+1:=by omega
  have hv9:(Dt.thP nA (Dt.dv' (Mx.e A) nA) i)=Dt.cp (Mx.e A) nA:=by rw [ein,Dt.thP_end];exact Dt.thr_cp _ h1.1 h1.2
  exact zBa Tryz.results21 (pO,cO) trivial (zo rfl) (zo rfl) (by rw [← hv9]) (ho:=oN) ((.e (j:=0) rfl (by rw [← hv9]) .n):SelR _ _ _)
end Go.Proofs.YtpdbimfnhglhpaaGreat.Sp
namespace Go.Proofs.YtpdbimfnhglhpaaGreat.Sp
open Go
set_option linter.unusedVariables false
set_option maxRecDepth 100000
set_option maxHeartbeats 8000000
theorem zTb {p1:Option Addr} {n1:Nat} {c1:Nat} {l1:List (Option Rat)} {p2:Option Addr} {n2:Nat} {c2:Nat} {l2:List (Option Rat)} (hn1:l1.length=n1) (hm1:n1≤1000) (hn2:l2.length=n2) (hm2:n2≤1000) (hm12:n1+n2≤400) (hb2:∀i,ye ((Po.vals l2).getD i 0)≤60000000000) (hok:Po.dok (Po.cl (Po.vals l2)) ((Po.cl (Po.vals l1)).length+1) [] (Po.cl (Po.vals l1))):Con yd 176 [.slice p1 n1 c1,.slice p2 n2 c2] [] [slF rE p1 c1 l1,slF rE p2 c2 l2] (Y:=(Option Addr)×Nat×(Option Addr)×Nat) (fun y=>True) (fun y=> .tuple #[.slice (y.1) ((Po.dq (Po.vals l1) (Po.vals l2)).length) (y.2.1),.slice (y.2.2.1) ((Po.dr (Po.vals l1) (Po.vals l2)).length) (y.2.2.2),.int .i64 (Po.dc (Po.vals l2))]) (fun y=>[]) (fun y=>[slF rQ (y.1) (y.2.1) (Po.dq (Po.vals l1) (Po.vals l2)),slF rQ (y.2.2.1) (y.2.2.2) (Po.dr (Po.vals l1) (Po.vals l2))]):=by
 refine zk Tryz.func176 rfl rfl rfl (fun c=> ?_)
 show RunC _ _ _ _ _ [(0,.slice p1 n1 c1),(1,.slice p2 n2 c2)] [] [slF rE p1 c1 l1,slF rE p2 c2 l2]
 refine zP 0 rfl (fun hL0=> ?_)
 refine zP 1 rfl (fun hL1=> ?_)
 refine ze<|za<|e_p (zb rfl)<|e_p (zb rfl)<|e_p (zb rfl)<|zf<|zc<|ze<|za<|e_mv rfl<|zm rfl rfl (.c rfl .n) ce159 (zKa (p1:=p1) (n1:=n1) (c1:=c1) (l1:=l1) (hn1:=ass) (hm1:=ass)) (.c (j:=0) rfl .n) ?_
 rintro ⟨p91,c92⟩ -
 dsimp only [aq,nq,cq]
 refine e_mv rfl<|zm rfl rfl (.c rfl .n) ce159 (zKa (p1:=p2) (n1:=n2) (c1:=c2) (l1:=l2) (hn1:=ass) (hm1:=ass)) (.c (j:=2) rfl .n) ?_
 rintro ⟨p93,c94⟩ -
 dsimp only [aq,nq,cq]
 refine e_p (zb rfl)<|e_p (zb rfl)<|zf<|zc<|ze<|ze ?_
 obtain ⟨P,hP⟩:∃z,z=(Po.cl (Po.vals l1)):=⟨_,rfl⟩
 have e5:(Po.cl (Po.vals l1):List Rat)=P:=by exact hP.symm
 rw [e5]
 obtain ⟨Q,hQ⟩:∃z,z=(Po.cl (Po.vals l2)):=⟨_,rfl⟩
 have e6:(Po.cl (Po.vals l2):List Rat)=Q:=by exact hQ.symm
 rw [e6]
 have hPl:P.length≤n1:=by rw [hP,←hn1,←Po.vals_len l1];exact Po.cl_le_len _
 have hQl:Q.length≤n2:=by rw [hQ,←hn2,←Po.vals_len l2];exact Po.cl_le_len _
 have hQc:Po.cl Q=Q:=by rw [hQ];exact Po.cl_cl _
 have hPc:Po.cl P=P:=by rw [hP];exact Po.cl_cl _
 have hbQ:Po.bd 60000000000 Q:=fun i=>by rw [hQ,Po.cl_get];exact hb2 i
 refine za<|e_mv rfl<|e_p (zv ya rfl)<|e_p (zna rfl rfl)<|zf<|zc<|zD rfl (fun h20=> ?_) (fun h20=> ?_)
 ·
  refine ze<|za<|e_p (zb rfl)<|e_p (zb rfl)<|e_p (zb rfl)<|zf<|zc<|zG<|zu<|zOb rQ ?_
  have h0:(Po.cl (Po.vals l2)).length=0:=by rw [← hQ];omega
  have hv8:(Po.dq (Po.vals l1) (Po.vals l2))=[]:=if_pos h0
  have hv9:(Po.dr (Po.vals l1) (Po.vals l2))=[]:=if_pos h0
  have hv7:(Po.dc (Po.vals l2))=14:=if_pos h0
  exact zoc Tryz.results176 (none,0,none,0) trivial (zo rfl) (zo rfl) (zo rfl) (by rw [hv7,hv8,hv9];rfl) (ho:=oN) ((.e (j:=0) rfl (by rw [hv8]) (.e (j:=0) rfl (by rw [hv9]) .n)):SelR _ _ _)
 ·
  have hQ0:0<Q.length:=by omega
  have hQn:Q≠[]:=fun e=>by rw [e] at hQ0;exact absurd hQ0 dd
  refine zw<|zc<|ze<|zPg rQ<|za<|e_p (zb rfl)<|zf<|zc<|ze<|zt<|zca (X:=Nat×(List Rat)×(List Rat)×(Option Addr)×Nat×(Option Addr)×Nat) (fun x:Nat×(List Rat)×(List Rat)×(Option Addr)×Nat×(Option Addr)×Nat=>(x.2.2.1.length<x.1∧x.2.2.1.length≤400∧x.2.1.length≤400)∧Po.dok Q x.1 x.2.1 x.2.2.1∧Po.dv Q P.length [] P=Po.dv Q (x.1 - 1) x.2.1 x.2.2.1) (fun x=>[(7,.slice (x.2.2.2.2.2.1) (x.2.2.1.length) (x.2.2.2.2.2.2)),(8,.slice (x.2.2.2.1) (x.2.1.length) (x.2.2.2.2.1)),(1,.slice p93 ((Q).length) c94),(6,.int .i64 0),(5,.slice none 0 0),(4,.slice none 0 0)]) (fun x=>[]) (fun x=>[slF rQ (x.2.2.2.1) (x.2.2.2.2.1) (x.2.1),slF rQ (x.2.2.2.2.2.1) (x.2.2.2.2.2.2) (x.2.2.1),slF rQ none 0 ([]),slF rQ p93 c94 Q,slF rQ p91 c92 P,slF rE p1 c1 l1,slF rE p2 c2 l2]) (fun x:Nat×(List Rat)×(List Rat)×(Option Addr)×Nat×(Option Addr)×Nat=>x.1) ((P.length+1),([]:List Rat),P,none,0,p91,c92) (show (P.length<(P.length+1)∧P.length≤400∧([]:List Rat).length≤400)∧Po.dok Q (P.length+1) ([]:List Rat) P∧Po.dv Q P.length [] P=Po.dv Q ((P.length+1) - 1) ([]:List Rat) P from by exact ⟨by simp;omega,by rw [hP,hQ];exact hok,rfl⟩) ((.e rfl cgs (.e rfl cgs (.of rfl))):SubM _ _) (ho:=oN) ((.e (j:=0) rfl rfl (.e (j:=2) rfl rfl (.of [0,1,2,3,4] rfl))):SelR _ _ _) ?_
  rintro ⟨f,a,r,pa,ca,pr,cr⟩ hI
  replace hI:(r.length<f∧r.length≤400∧a.length≤400)∧Po.dok Q f a r∧Po.dv Q P.length [] P=Po.dv Q (f - 1) a r:=hI
  try dsimp only
  obtain ⟨⟨hf,hrl,hal⟩,hdk,hdv⟩:=hI
  refine ze<|ze<|za<|e_mv rfl<|e_p (zv ya rfl)<|e_mv rfl<|e_p (zv ya rfl)<|e_p (zTa rfl rfl)<|zf<|zc<|zD rfl (fun h25=> ?_) (fun h25=> ?_)
  ·
   refine zw<|zc<|zt<|ze<|za<|e_mv rfl<|e_p (zv ya rfl)<|e_mv rfl<|e_p (zv ya rfl)<|e_p (zha (z:=(((r.length:Nat):Int) - (((Q).length:Nat):Int))) rfl rfl (w64 om)) ?_
   have e7:((((r.length:Nat):Int) - (((Q).length:Nat):Int)):Int)=(((r.length - Q.length):Nat):Int):=by omega
   rw [e7]
   refine e_p (zb rfl)<|zf<|zc<|ze<|zW (OW:=[]) (O:=[]) 17 mixed (.then (.block (.then (.block (.then .ret))))) kr<|e_dm 0 rfl rfl rfl<|e_dm 1 rfl rfl rfl<|e_pv 2 rfl rfl (zv ya rfl)<|e_pv 3 rfl rfl (zha (z:=(((r.length:Nat):Int) - 1)) rfl rfl (w64 om)) ?_
   have e8:((((r.length:Nat):Int) - 1):Int)=(((r.length - 1):Nat):Int):=by omega
   rw [e8]
   refine d_vl 4 rfl rfl kr kr rfl rfl (zQ (x0:=(r.getD (r.length - 1) (0:Rat))) 1 (r.length - 1) rfl ya sz32 rfl (by first|rfl|assumption|(simp;done)|omega) rfl rfl (gD (d:=(0:Rat)) om)) ?_
   rintro ⟨b9,o10,w11,w12⟩ -
   dsimp only [aq,nq,cq]
   refine zQa open_rQ<|e_u 5 rfl rfl (zO (j:=0) 0 ty32 rfl rfl rfl (.t4 .nil))<|e_dm 6 rfl rfl rfl<|e_dm 7 rfl rfl rfl<|e_pv 8 rfl rfl (zv ya rfl)<|e_pv 9 rfl rfl (zha (z:=((((Q).length:Nat):Int) - 1)) rfl rfl (w64 om)) ?_
   have e13:(((((Q).length:Nat):Int) - 1):Int)=(((Q.length - 1):Nat):Int):=by omega
   rw [e13]
   refine d_vl 10 rfl rfl kr kr rfl rfl (zQ (x0:=((Q).getD (Q.length - 1) (0:Rat))) 5 (Q.length - 1) rfl ya sz32 rfl (by first|rfl|assumption|(simp;done)|omega) rfl rfl (gD (d:=(0:Rat)) om)) ?_
   rintro ⟨b14,o15,w17,w18⟩ -
   dsimp only [aq,nq,cq]
   refine zQa open_rQ<|e_u 11 rfl rfl (zO (j:=0) 0 ty32 rfl rfl rfl (.t4 .nil))<|zHe (m':=[(43,.agg (cw [w17,w18]).toArray),(37,.agg (cw [w11,w12]).toArray),(9,.int .i64 (((r.length - Q.length):Nat):Int)),(7,.slice pr (r.length) cr),(8,.slice pa (a.length) ca),(1,.slice p93 ((Q).length) c94),(6,.int .i64 0),(5,.slice none 0 0),(4,.slice none 0 0)]) (R':=[qF true w17 w18 ((Q).getD (Q.length - 1) (0:Rat)),qF true w11 w12 (r.getD (r.length - 1) (0:Rat)),slF rQ pa ca a,slF rQ pr cr r,slF rQ none 0 ([]),slF rQ p93 c94 Q,slF rQ p91 c92 P,slF rE p1 c1 l1,slF rE p2 c2 l2]) (mR rfl) (List.Perm.refl _) (List.Perm.refl _) ((.of [1,3,4,5,6,7,8,9,10] rfl):SelR _ _ _)<|zpb (X:=Wd×Wd×Nat) (k':=0) (L':=(lb 19 524287)) (fun (u12_1,u12_2,u16_1)=>([(10,.pointer (some ⟨u16_1,0,none⟩)),(9,.int .i64 (((r.length - Q.length):Nat):Int)),(7,.slice pr (r.length) cr),(8,.slice pa (a.length) ca),(1,.slice p93 ((Q).length) c94),(6,.int .i64 0),(5,.slice none 0 0),(4,.slice none 0 0)],[boxA u16_1 32 (cw [u12_1,u12_2])],[],[qF true u12_1 u12_2 ((r.getD (r.length - 1) (0:Rat)) / ((Q).getD (Q.length - 1) (0:Rat))),qF true w17 w18 ((Q).getD (Q.length - 1) (0:Rat)),qF true w11 w12 (r.getD (r.length - 1) (0:Rat)),slF rQ pa ca a,slF rQ pr cr r,slF rQ none 0 ([]),slF rQ p93 c94 Q,slF rQ p91 c92 P,slF rE p1 c1 l1,slF rE p2 c2 l2])) ?_ (fun hD0=> ?_)
   ·
    rintro ⟨u12_1,u12_2,u16_1⟩
    dsimp only [cw]
    refine zU kr<|zc<|ze<|za<|e_mv rfl<|e_p (zJ (z:=((((r.length - Q.length)+1):Nat):Int)) rfl rfl (w64 om)) ?_
    have e19:(((((r.length - Q.length)+1):Nat):Int):Int)=(((r.length - Q.length+1):Nat):Int):=by omega
    rw [e19]
    refine zma rfl rfl (zua (r:=rE) (k:=(r.length - Q.length+1)) (x0:=none) (γ0:=(wz,wz)) ya inf32 rfl rfl rfl rfl om om rfl (fun g _=>eF_wz g) dd) (fun b20 _=> ?_)
    refine e_p (zb rfl)<|zf<|zc<|ze<|ze<|za<|e_mv rfl<|e_p (zv ya rfl)<|e_mv rfl<|zf<|zc<|zt<|zca (X:=Nat×(List (Option Rat))) (fun x:Nat×(List (Option Rat))=>x.1≤r.length - Q.length+1∧x.2.length=r.length - Q.length+1∧∀j,j<x.1→x.2.getD j none=some ((0:Int):Rat)) (fun x=>[(52,.int .i64 ((x.1:Nat):Int)),(51,.int .i64 (((r.length - Q.length+1):Nat):Int)),(12,.slice (some ⟨b20,0,none⟩) (r.length - Q.length+1) (r.length - Q.length+1)),(10,.pointer (some ⟨u16_1,0,none⟩)),(9,.int .i64 (((r.length - Q.length):Nat):Int)),(7,.slice pr (r.length) cr),(8,.slice pa (a.length) ca),(1,.slice p93 ((Q).length) c94),(6,.int .i64 0),(5,.slice none 0 0),(4,.slice none 0 0)]) (fun x=>[rowA 32 rE (some ⟨b20,0,none⟩) (r.length - Q.length+1) (x.2),boxA u16_1 32 (cw [u12_1,u12_2])]) (fun x=>[qF true u12_1 u12_2 ((r.getD (r.length - 1) (0:Rat)) / ((Q).getD (Q.length - 1) (0:Rat))),qF true w17 w18 ((Q).getD (Q.length - 1) (0:Rat)),qF true w11 w12 (r.getD (r.length - 1) (0:Rat)),slF rQ pa ca a,slF rQ pr cr r,slF rQ none 0 ([]),slF rQ p93 c94 Q,slF rQ p91 c92 P,slF rE p1 c1 l1,slF rE p2 c2 l2]) (fun x:Nat×(List (Option Rat))=>r.length - Q.length+1 - x.1) (0,List.replicate (r.length - Q.length+1) none) (show 0≤r.length - Q.length+1∧(List.replicate (r.length - Q.length+1) none).length=r.length - Q.length+1∧∀j,j<0→(List.replicate (r.length - Q.length+1) none).getD j none=some ((0:Int):Rat) from by exact ⟨Nat.zero_le _,List.length_replicate,fun j hj=>by omega⟩) ((.e rfl cgs (.of rfl)):SubM _ _) (ho:=((.e (i:=0) rfl cgs (.c (i:=0) rfl .n)):PickO _ _ _)) ((.of [0,1,2,3,4,5,6,7,8,9] rfl):SelR _ _ _) ?_
    rintro ⟨i,A⟩ hJ
    replace hJ:i≤r.length - Q.length+1∧A.length=r.length - Q.length+1∧∀j,j<i→A.getD j none=some ((0:Int):Rat):=hJ
    try dsimp only [cw]
    refine ze<|za<|e_p (zY rfl rfl)<|zf<|zc<|ze<|zD rfl (fun h21=> ?_) (fun h21=> ?_)
    ·
     refine zw<|zc<|ze<|zt<|ze<|za<|e_mv rfl<|e_p (zb rfl)<|zf<|zc<|za<|e_mv rfl<|e_mv rfl<|zm rfl rfl (.n) ce84 (zKb) (.n) ?_
     rintro ⟨w322,w423⟩ -
     dsimp only [aq,nq,cq]
     refine e_p (zI (j:=i) ya sz32 rfl rfl rfl om)<|zya 0 rfl rfl rfl (zL (r:=rE) (j:=i) (x0:=(some ((0:Int):Rat))) (γ0:=(w322,w423)) rfl rfl (by first|omega|(rw [List.length_map];omega)|(simp only [List.length_set];omega)|(simp;done)|(simp;omega)) rfl rfl sz32 (fun g hr=>qF_e (Holds.get 0 rfl hr))) (fun _=> .z) (fun _ _=> ?_)
     refine zf<|zK<|zc<|za<|e_p (zJ (z:=(((i+1):Nat):Int)) rfl rfl (w64 om))<|e_mv rfl<|zf<|zV ((i+1),(A.set i (some ((0:Int):Rat)))) (show (i+1)≤r.length - Q.length+1∧(A.set i (some ((0:Int):Rat))).length=r.length - Q.length+1∧∀j,j<(i+1)→(A.set i (some ((0:Int):Rat))).getD j none=some ((0:Int):Rat) from by exact ⟨by omega,by rw [List.length_set];exact hJ.2.1,Po.set_step (g:=fun _=>((0:Int):Rat)) hJ.2.2 om rfl⟩) (by show r.length - Q.length+1 - (i+1)<r.length - Q.length+1 - i;omega) (mR rfl) (ho:=((.of [0,0] rfl):PickO _ _ _)) ((.of [1,2,3,4,5,6,7,8,9,10] rfl):SelR _ _ _)
    ·
     refine zaa<|zg<|zg<|zp<|zc<|ze<|za<|e_mv rfl<|e_mv rfl<|e_ru (zd 1 ty32 rfl rfl (.t4 .nil))<|e_p (zI (j:=(r.length - Q.length)) ya sz32 rfl rfl rfl om)<|zya 0 rfl rfl rfl (zL (r:=rE) (j:=(r.length - Q.length)) (x0:=(some ((r.getD (r.length - 1) (0:Rat)) / ((Q).getD (Q.length - 1) (0:Rat))))) (γ0:=(u12_1,u12_2)) rfl rfl (by first|omega|(rw [List.length_map];omega)|(simp only [List.length_set];omega)|(simp;done)|(simp;omega)) rfl rfl sz32 (fun g hr=>qF_e (Holds.get 0 rfl hr))) (fun _=> .z) (fun _ _=> ?_)
     refine zf<|zc<|ze ?_
     have hB:Po.vals (A.set (r.length - Q.length) (some ((r.getD (r.length - 1) (0:Rat)) / ((Q).getD (Q.length - 1) (0:Rat)))))=Po.dt Q r:=Po.vals_mono hJ.2.1 (fun j hj=>hJ.2.2 j om)
     have hBl:(A.set (r.length - Q.length) (some ((r.getD (r.length - 1) (0:Rat)) / ((Q).getD (Q.length - 1) (0:Rat))))).length=r.length - Q.length+1:=by rw [List.length_set];exact hJ.2.1
     obtain ⟨hba,hbr⟩:=Po.dok_bd hdk om
     have hml:(Po.mul (Po.dt Q r) Q).length≤1000:=by rw [← Po.mul_mc];unfold Po.mc;exact Nat.le_trans (Po.cl_le_len _) (by rw [Po.gen_len,Po.dt_len];omega)
     refine za<|e_mv rfl<|e_mv rfl<|zqa (addQE 3 rfl)<|zea 0 rfl .z<|zm rfl rfl (.c rfl (.c rfl .n)) ce77 (zQe (p1:=pa) (n1:=a.length) (c1:=ca) (l1:=(a.map some)) (p2:=some ⟨b20,0,none⟩) (n2:=(r.length - Q.length+1)) (c2:=(r.length - Q.length+1)) (l2:=(A.set (r.length - Q.length) (some ((r.getD (r.length - 1) (0:Rat)) / ((Q).getD (Q.length - 1) (0:Rat)))))) (hn1:=by exact List.length_map _) (hm1:=cbo) (hn2:=by exact hBl) (hm2:=cbo) (hb:=by intro j;rw [Po.msome,←Po.vals_get,hB];have h1:=hba j;have h2:=Po.dt_bd hbr hbQ j;omega)) (.c (j:=1) rfl (.c (j:=0) rfl .n)) ?_
     rintro ⟨p924,c925⟩ -
     dsimp only [aq,nq,cq]
     have e26:(Po.add (Po.vals (a.map some)) (Po.vals (A.set (r.length - Q.length) (some ((r.getD (r.length - 1) (0:Rat)) / ((Q).getD (Q.length - 1) (0:Rat)))))):List Rat)=Po.add a (Po.dt Q r):=by rw [Po.vals_some,hB]
     rw [e26]
     refine e_p (zb rfl)<|zf<|zc<|za<|e_mv rfl<|e_mv rfl<|e_mv rfl<|zqa (addQE 9 rfl)<|zm rfl rfl (.c rfl (.c rfl .n)) ce71 (zBc (p1:=some ⟨b20,0,none⟩) (n1:=(r.length - Q.length+1)) (c1:=(r.length - Q.length+1)) (l1:=(A.set (r.length - Q.length) (some ((r.getD (r.length - 1) (0:Rat)) / ((Q).getD (Q.length - 1) (0:Rat)))))) (p2:=p93) (n2:=(Q).length) (c2:=c94) (l2:=((Q).map some)) (hn1:=by exact hBl) (hm1:=cbo) (hn2:=by exact List.length_map _) (hm2:=cbo) (hm12:=cbo) (hb1:=by rw [hB];intro j;exact Nat.le_trans (Po.dt_bd hbr hbQ j) dd) (hb2:=by rw [Po.vals_some];intro j;exact Nat.le_trans (hbQ j) dd) (hs:=by rw [hB,Po.vals_some,hQc];exact fun k lo n _=>Po.dt_cv_hq hbr hbQ k lo n)) (.c (j:=2) rfl (.c (j:=0) rfl .n)) ?_
     rintro ⟨p927,c928⟩ -
     dsimp only [aq,nq,cq]
     have e29:(Po.mul (Po.vals (A.set (r.length - Q.length) (some ((r.getD (r.length - 1) (0:Rat)) / ((Q).getD (Q.length - 1) (0:Rat)))))) (Po.vals ((Q).map some)):List Rat)=Po.mul (Po.dt Q r) Q:=by rw [Po.vals_some,hB]
     rw [e29]
     refine zqa (addQE 9 rfl)<|zqa (addQE 1 rfl)<|zm rfl rfl (.c rfl (.c rfl .n)) ce198 (zJg (p1:=pr) (n1:=r.length) (c1:=cr) (l1:=(r.map some)) (p2:=p927) (n2:=(Po.mul (Po.dt Q r) Q).length) (c2:=c928) (l2:=((Po.mul (Po.dt Q r) Q).map some)) (hn1:=by exact List.length_map _) (hm1:=cbo) (hn2:=by exact List.length_map _) (hm2:=by exact hml) (hb:=by intro j;rw [Po.msome,Po.msome];have h1:=hbr j;have h2:=Po.mul_dt_bd hbr hbQ j;omega)) (.c (j:=1) rfl (.c (j:=0) rfl .n)) ?_
     rintro ⟨p930,c931⟩ -
     dsimp only [aq,nq,cq]
     have e32:(Po.sub (Po.vals (r.map some)) (Po.vals ((Po.mul (Po.dt Q r) Q).map some)):List Rat)=Po.sub r (Po.mul (Po.dt Q r) Q):=by rw [Po.vals_some,Po.vals_some]
     rw [e32]
     refine e_p (zb rfl)<|zf<|zK<|zV ((f - 1),(Po.add a (Po.dt Q r)),(Po.sub r (Po.mul (Po.dt Q r) Q)),p924,c925,p930,c931) (show ((Po.sub r (Po.mul (Po.dt Q r) Q)).length<(f - 1)∧(Po.sub r (Po.mul (Po.dt Q r) Q)).length≤400∧(Po.add a (Po.dt Q r)).length≤400)∧Po.dok Q (f - 1) (Po.add a (Po.dt Q r)) (Po.sub r (Po.mul (Po.dt Q r) Q))∧Po.dv Q P.length [] P=Po.dv Q ((f - 1) - 1) (Po.add a (Po.dt Q r)) (Po.sub r (Po.mul (Po.dt Q r) Q)) from by have h9:=Po.dt_less (r:=r) hQc hQn om;have h8:=Po.add_len a (Po.dt Q r);rw [Po.dt_len] at h8;exact ⟨⟨by omega,by omega,by omega⟩,Po.dok_yes hdk om om,hdv.trans (Po.dv_yes om om)⟩) om (mR rfl) (ho:=oN) ((.of [5,0,13,14,15,16,17] rfl):SelR _ _ _)
   refine zpb (X:=Wd×Wd×Nat) (k':=2) (L':=(lb 19 131071)) (fun (u12_1,u12_2,u16_1)=>([(10,.pointer (some ⟨u16_1,0,none⟩)),(46,.int .i64 0),(45,.agg (cw [u12_1,u12_2]).toArray),(9,.int .i64 (((r.length - Q.length):Nat):Int)),(7,.slice pr (r.length) cr),(8,.slice pa (a.length) ca),(1,.slice p93 ((Q).length) c94),(6,.int .i64 0),(5,.slice none 0 0),(4,.slice none 0 0)],[boxA u16_1 32 (cw [wz,wz])],[],[qF true u12_1 u12_2 ((r.getD (r.length - 1) (0:Rat)) / ((Q).getD (Q.length - 1) (0:Rat))),qF true w17 w18 ((Q).getD (Q.length - 1) (0:Rat)),qF true w11 w12 (r.getD (r.length - 1) (0:Rat)),slF rQ pa ca a,slF rQ pr cr r,slF rQ none 0 ([]),slF rQ p93 c94 Q,slF rQ p91 c92 P,slF rE p1 c1 l1,slF rE p2 c2 l2])) ?_ (fun hD1=> ?_)
   ·
    rintro ⟨u12_1,u12_2,u16_1⟩
    dsimp only [cw]
    refine zIc 17 kr ?_
    ·
     refine zC kr rfl rfl rfl rfl rfl sz32 rfl (.t4 .nil)<|e_pv 18 rfl rfl (zb rfl) ?_
     exact zMa (hD0 (u12_1,u12_2,u16_1)) kr (mR rfl) .rfl .rfl ((.of [0,1,2,3,4,5,6,7,8,9] rfl):SelR _ _ _)
   refine zpb (X:=Wd×Wd) (k':=3) (L':=(lb 19 65535)) (fun (u12_1,u12_2)=>([(46,.int .i64 0),(45,.agg (cw [u12_1,u12_2]).toArray),(9,.int .i64 (((r.length - Q.length):Nat):Int)),(7,.slice pr (r.length) cr),(8,.slice pa (a.length) ca),(1,.slice p93 ((Q).length) c94),(6,.int .i64 0),(5,.slice none 0 0),(4,.slice none 0 0)],[],[],[qF true u12_1 u12_2 ((r.getD (r.length - 1) (0:Rat)) / ((Q).getD (Q.length - 1) (0:Rat))),qF true w17 w18 ((Q).getD (Q.length - 1) (0:Rat)),qF true w11 w12 (r.getD (r.length - 1) (0:Rat)),slF rQ pa ca a,slF rQ pr cr r,slF rQ none 0 ([]),slF rQ p93 c94 Q,slF rQ p91 c92 P,slF rE p1 c1 l1,slF rE p2 c2 l2])) ?_ (fun hD2=> ?_)
   ·
    rintro ⟨u12_1,u12_2⟩
    dsimp only [cw]
    refine zIc 16 kr ?_
    ·
     refine zuc rfl rfl rfl rfl (zA zr32 rfl) (fun u16_1 _=> ?_)
     exact zMa (hD1 (u12_1,u12_2,u16_1)) kr (mR rfl) .rfl .rfl ((.of [0,1,2,3,4,5,6,7,8,9] rfl):SelR _ _ _)
   refine zpb (X:=Nat) (k':=6) (L':=(lb 19 69631)) (fun u16_1=>([(10,.pointer (some ⟨u16_1,0,none⟩)),(43,.agg (cw [w17,w18]).toArray),(37,.agg (cw [w11,w12]).toArray),(9,.int .i64 (((r.length - Q.length):Nat):Int)),(7,.slice pr (r.length) cr),(8,.slice pa (a.length) ca),(1,.slice p93 ((Q).length) c94),(6,.int .i64 0),(5,.slice none 0 0),(4,.slice none 0 0)],[boxA u16_1 32 (cw [wz,wz])],[],[qF true w17 w18 ((Q).getD (Q.length - 1) (0:Rat)),qF true w11 w12 (r.getD (r.length - 1) (0:Rat)),slF rQ pa ca a,slF rQ pr cr r,slF rQ none 0 ([]),slF rQ p93 c94 Q,slF rQ p91 c92 P,slF rE p1 c1 l1,slF rE p2 c2 l2])) ?_ (fun hD3=> ?_)
   ·
    rintro u16_1
    dsimp only [cw]
    refine zIc 12 kr ?_
    ·
     refine zB rfl rfl rfl rfl (.c rfl (.c rfl .n)) ce139 (zHa (k1:=true) (u1:=w11) (v1:=w12) (q1:=(r.getD (r.length - 1) (0:Rat))) (k2:=true) (u2:=w17) (v2:=w18) (q2:=((Q).getD (Q.length - 1) (0:Rat))) (hl:=by have h1:=(Po.dok_bd hdk om).2 (r.length - 1);have h2:=hbQ (Q.length - 1);omega) (hy:=by exact Po.lead_ne hQc hQn)) (.c (j:=1) rfl (.c (j:=0) rfl .n)) ?_
     rintro ⟨u12_1,u12_2⟩ -
     dsimp only [aq,nq,cq]
     refine e_dm 13 rfl rfl rfl<|e_pv 14 rfl rfl (zn rfl rfl)<|e_pv 15 rfl rfl (zn rfl rfl) ?_
     exact zMa (hD1 (u12_1,u12_2,u16_1)) kr (mR rfl) .rfl .rfl ((.of [0,1,2,3,4,5,6,7,8,9] rfl):SelR _ _ _)
   refine zmg 12 16 kr ?_ ?_
   ·
    refine zB rfl rfl rfl rfl (.c rfl (.c rfl .n)) ce139 (zHa (k1:=true) (u1:=w11) (v1:=w12) (q1:=(r.getD (r.length - 1) (0:Rat))) (k2:=true) (u2:=w17) (v2:=w18) (q2:=((Q).getD (Q.length - 1) (0:Rat))) (hl:=by have h1:=(Po.dok_bd hdk om).2 (r.length - 1);have h2:=hbQ (Q.length - 1);omega) (hy:=by exact Po.lead_ne hQc hQn)) (.c (j:=1) rfl (.c (j:=0) rfl .n)) ?_
    rintro ⟨u12_1,u12_2⟩ -
    dsimp only [aq,nq,cq]
    refine e_dm 13 rfl rfl rfl<|e_pv 14 rfl rfl (zn rfl rfl)<|e_pv 15 rfl rfl (zn rfl rfl) ?_
    exact zMa (hD2 (u12_1,u12_2)) kr (mR rfl) .rfl .rfl ((.of [0,1,2,3,4,5,6,7,8,9] rfl):SelR _ _ _)
   ·
    refine zuc rfl rfl rfl rfl (zA zr32 rfl) (fun u16_1 _=> ?_)
    exact zMa (hD3 u16_1) kr (mR rfl) .rfl .rfl ((.of [0,1,2,3,4,5,6,7,8] rfl):SelR _ _ _)
  ·
   refine zaa<|zg<|zg<|zp<|zc<|ze<|za<|e_mv rfl<|e_mv rfl<|e_p (zb rfl)<|e_p (zb rfl)<|e_p (zb rfl)<|zf<|zc<|zG ?_
   have h0:¬(Po.cl (Po.vals l2)).length=0:=by rw [← hQ];omega
   have hdn:Po.dv Q P.length [] P=(a,r):=hdv.trans (Po.dv_no om)
   have hv8:(Po.dq (Po.vals l1) (Po.vals l2))=a:=(if_neg h0).trans (by unfold Po.divp;rw [← hQ,←hP,hdn])
   have hv9:(Po.dr (Po.vals l1) (Po.vals l2))=r:=(if_neg h0).trans (by unfold Po.divp;rw [← hQ,←hP,hdn])
   have hv7:(Po.dc (Po.vals l2))=0:=if_neg h0
   exact zoc Tryz.results176 (pa,ca,pr,cr) trivial (zo rfl) (zo rfl) (zo rfl) (by rw [hv7,hv8,hv9]) (ho:=oN) ((.e (j:=0) rfl (by rw [hv8]) (.e (j:=1) rfl (by rw [hv9]) .n)):SelR _ _ _)
end Go.Proofs.YtpdbimfnhglhpaaGreat.Sp
