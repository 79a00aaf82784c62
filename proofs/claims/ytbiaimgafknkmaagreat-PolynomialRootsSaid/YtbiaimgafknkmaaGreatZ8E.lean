/- Lemmas on the walk and plain lemmas that the claim of this folder uses; each states its own conditions. Lines were printed by a program of ours. -/
import Derived.Test.YtbiaimgafknkmaaGreatZ8D
set_option linter.unusedVariables false
set_option linter.unusedSimpArgs false
set_option linter.unusedSectionVars false
open Go.Value renaming int → ya
open Go.IntKind renaming i64 → yb
open Go.Proofs.Tryz renaming underlying48 → yc, underlying55 → yd, results37 → ye, underlying60 → yg, underlying53 → yi
open Go.Proofs.YtbiaimgafknkmaaGreat.Big renaming hq → yf, sgq → yh
namespace Go.Proofs.YtbiaimgafknkmaaGreat.Po
open Go.Proofs.YtbiaimgafknkmaaGreat.Big
theorem ge_bez:∀(n:Nat) (p q:List Rat),cl p=p→cl q=q→∃u v:List Rat,∀t,ev t (ge n p q)=ev t u*ev t p+ev t v*ev t q
  |0,p,q,_,_=>⟨[1],[],fun t=>by show ev t p=(0*t+1)*ev t p+0*_;grind⟩
  |n+1,p,q,hp,hq=>by
    by_cases h:q.length=0
    · rw [ge_nil h]
      exact ⟨[1],[],fun t=>by show ev t p=(0*t+1)*ev t p+0*_;grind⟩
    · have e : ge (n + 1) p q = ge n q (mo (dr p q)) := if_neg h
      obtain ⟨u,v,k⟩:=ge_bez n q (mo (dr p q)) hq (mo_cl _)
      obtain ⟨a,-,ea⟩:=mo_scl (dr_cl p q)
      rw [e]
      refine ⟨mul v [a],sub u (mul (mul v [a]) (dq p q)),fun t=> ?_⟩
      rw [k,ea,ev_scl,ev_sub,ev_mul,ev_mul,ev_mul,div_ev hp hq h t]
      show _=ev t v*(0*t+a)*_+(_ - ev t v*(0*t+a)*_)*_
      grind
theorem gcd_bez (p q:List Rat) (hp:cl p=p) (hq:cl q=q):∃u v:List Rat,∀t,ev t (gcd p q)=ev t u*ev t p+ev t v*ev t q:=by
  obtain ⟨u,v,k⟩:=ge_bez (cl q).length (mo (cl p)) (mo (cl q)) (mo_cl _) (mo_cl _)
  obtain ⟨a,-,ea⟩:=mo_scl (cl_cl p)
  obtain ⟨b,-,eb⟩:=mo_scl (cl_cl q)
  refine ⟨mul u [a],mul v [b],fun t=> ?_⟩
  unfold gcd
  rw [k,ea,eb,ev_scl,ev_scl,ev_mul,ev_mul,hp,hq]
  show _=ev t u*(0*t+a)*_+ev t v*(0*t+b)*_
  grind
theorem cl_ne {l:List Rat} (h:∃t,ev t l≠0):(cl l).length≠0:=fun e=>by
  obtain ⟨t,ht⟩:=h
  rw [← ev_cl,List.length_eq_zero_iff.1 e] at ht
  exact ht rfl
theorem cancel {c D:List Rat} (hc:∃t,ev t c≠0) (h:∀t,ev t c*ev t D=0) (t:Rat):ev t D=0:=by
  refine Classical.byContradiction fun k=> ?_
  have h1:=cl_ne hc
  have h2:=cl_ne ⟨t,k⟩
  have h3:=mul_length (cl_cl c) (cl_cl D) h1 h2
  have h4:mul (cl c) (cl D)=[]:=ev_ext' (mul_cl _ _) rfl fun s=>by
    rw [ev_mul,ev_cl,ev_cl,h s];rfl
  rw [h4] at h3
  simp at h3
  omega
def pw (h:List Rat):Nat→List Rat
  |0=>[1]
  |k+1=>mul h (pw h k)
theorem pw_ev (h:List Rat) (t:Rat):∀k,ev t (pw h (k+1))=ev t h*ev t (pw h k):=fun k=>ev_mul _ _ _
theorem pw_zero (h:List Rat) (t:Rat):ev t (pw h 0)=1:=by show 0*t+1=(1:Rat);grind
theorem pw_ne {h:List Rat} (hn:(cl h).length≠0):∀k,∃t,ev t (pw h k)≠0
  |0=>⟨0,by rw [pw_zero];decide +kernel⟩
  |k+1=>by
    have h1:=pw_ne hn k
    refine Classical.byContradiction fun z=> ?_
    obtain ⟨t,ht⟩:=ev_some (cl_cl h) hn
    have:ev t h=0:=cancel h1 (fun s=>by
      have:ev s (pw h (k+1))=0:=Classical.byContradiction fun q=>z ⟨s,q⟩
      rw [pw_ev] at this;grind) t
    rw [ev_cl] at ht
    exact ht this
theorem pw_len {h:List Rat} (hc:cl h=h) (hl:2≤h.length):∀k,k+1≤(cl (pw h k)).length
  |0=>by
    have:=cl_ne (pw_ne (h:=h) (by rw [hc];omega) 0)
    omega
  |k+1=>by
    have h1:=pw_len hc hl k
    have e:cl (pw h (k+1))=mul h (cl (pw h k)):=by
      show cl (mul h (pw h k))=_
      rw [mul_cl,mul_clr]
    rw [e,mul_length hc (cl_cl _) (by omega) (by omega)]
    omega
theorem pw_dvd {G q w h q1 z α β:List Rat} (hn:(cl h).length≠0) (e1:∀t,ev t G*ev t w=ev t (der G)*ev t q) (e2:∀t,ev t q=ev t h*ev t q1) (e3:∀t,ev t (der q)=ev t h*ev t z) (e4:∀t,ev t α*ev t h+ev t β*ev t w=1):
    ∀k,∃A:List Rat,∀t,ev t G=ev t (pw h k)*ev t A
  |0=>⟨G,fun t=>by rw [pw_zero];grind⟩
  |k+1=>by
    obtain ⟨A,hA⟩:=pw_dvd hn e1 e2 e3 e4 k
    -- the derivative of G
    have hd:∀t,ev t (der G)*ev t h=ev t (pw h k)*((k:Nat)*ev t (der h)*ev t A+ev t h*ev t (der A)):=by
      intro t
      have hG:der G=der (mul (pw h k) A):=der_ext fun t=>by rw [ev_mul];exact hA t
      have hp:∀j,ev t (der (pw h j))*ev t h=(j:Nat)*ev t (der h)*ev t (pw h j):=by
        intro j
        induction j with
        |zero=>
          have:der (pw h 0)=[]:=(by decide +kernel:der [(1:Rat)]=[])
          rw [this]
          show (0:Rat)*_=((0:Nat):Rat)*_*_
          have:((0:Nat):Rat)=0:=by decide +kernel
          rw [this];grind
        |succ j ih=>
          have:der (pw h (j+1))=add (mul (der h) (pw h j)) (mul h (der (pw h j))):=der_mul _ _
          rw [this,ev_add,ev_mul,ev_mul,pw_ev]
          have hj:((j+1:Nat):Rat)=(j:Nat)+1:=by exact_mod_cast cast_s j
          rw [hj]
          grind
      rw [hG,der_mul,ev_add,ev_mul,ev_mul]
      have:=hp k
      grind
    -- h' q1 is a multiple of h
    have hq:∀t,ev t (der h)*ev t q1=ev t h*(ev t z - ev t (der q1)):=by
      intro t
      have h1:der q=der (mul h q1):=der_ext fun t=>by rw [ev_mul];exact e2 t
      have h2:=e3 t
      rw [h1,der_mul,ev_add,ev_mul,ev_mul] at h2
      grind
    -- cancel the power
    have hc:∀t,ev t A*ev t w=ev t h*((k:Nat)*ev t A*(ev t z - ev t (der q1))+ev t (der A)*ev t q1):=by
      intro t
      have:=cancel (c:=pw h k) (D:=sub (mul A w) (mul h (add (mul [((k:Nat):Rat)] (mul A (sub z (der q1)))) (mul (der A) q1)))) (pw_ne hn k) (fun s=>by
        have h1:=e1 s
        have h2:=hd s
        have h3:=hq s
        rw [hA s,e2 s] at h1
        rw [ev_sub,ev_mul,ev_mul,ev_add,ev_mul,ev_mul,ev_mul,ev_sub]
        show _*(_ - _*((0*s+((k:Nat):Rat))*_+_))=0
        grind) t
      rw [ev_sub,ev_mul,ev_mul,ev_add,ev_mul,ev_mul,ev_mul,ev_sub] at this
      have e:ev t [((k:Nat):Rat)]=((k:Nat):Rat):=by show 0*t+_=_;grind
      rw [e] at this
      grind
    refine ⟨add (mul α A) (mul β (add (mul [((k:Nat):Rat)] (mul A (sub z (der q1)))) (mul (der A) q1))),fun t=> ?_⟩
    rw [pw_ev,hA t,ev_add,ev_mul,ev_mul,ev_add,ev_mul,ev_mul,ev_mul,ev_sub]
    have e:ev t [((k:Nat):Rat)]=((k:Nat):Rat):=by show 0*t+_=_;grind
    have h1:=e4 t
    have h2:=hc t
    rw [e]
    have h3:ev t A=ev t α*ev t h*ev t A+ev t β*(ev t A*ev t w):=by grind
    rw [h2] at h3
    grind
theorem sqf_cop {p h:List Rat} (hp:(cl p).length≠0) (hc:cl h=h) (d1:dvd h (sqf p)) (d2:dvd h (der (sqf p))):h.length≤1:=by
  refine Decidable.byContradiction fun hl=> ?_
  have hc0:=cl_cl p
  have hg:=gcd_cl (cl p) (der (cl p))
  have hn:(gcd (cl p) (der (cl p))).length≠0:=gcd_ne (by rw [hc0];exact hp)
  obtain ⟨k1,v,hv⟩:=gcd_dvd (cl p) (der (cl p)) hc0 (der_cl _)
  obtain ⟨a,b,hab⟩:=gcd_bez (cl p) (der (cl p)) hc0 (der_cl _)
  have hm:=exact_mul hc0 hg hn k1
  have he:sqf p=mo (dq (cl p) (gcd (cl p) (der (cl p)))):=if_neg hp
  generalize hG:gcd (cl p) (der (cl p))=G at*
  generalize hQ:dq (cl p) G=q at*
  have hqc:cl q=q:=by rw [← hQ];exact dq_cl _ _
  obtain ⟨c,hc0',ec⟩:=mo_scl hqc
  rw [he,ec] at d1 d2
  obtain ⟨q0,hq0⟩:=d1
  obtain ⟨z0,hz0⟩:=d2
  -- back from the multiple
  have hinv:∃c',c*c'=1:=⟨1 / c,by
    have:=Rat.div_mul_cancel (a:=1) hc0'
    rw [Rat.mul_comm];exact this⟩
  obtain ⟨c',hcc⟩:=hinv
  have e2:∀t,ev t q=ev t h*ev t (mul q0 [c']):=fun t=>by
    have h1:=hq0 t
    rw [ev_scl] at h1
    rw [ev_mul]
    show _=_*(_*(0*t+c'))
    grind
  have hds:∀t,ev t (der (scl q c))=ev t (der q)*c:=fun t=>by
    have:der (scl q c)=scl (der q) c:=zJa (der_cl _) (scl_cl _ _) fun i=>by rw [der_get,scl_get,scl_get,der_get];grind
    rw [this,ev_scl]
  have e3:∀t,ev t (der q)=ev t h*ev t (mul z0 [c']):=fun t=>by
    have h1:=hz0 t
    rw [hds] at h1
    rw [ev_mul]
    show _=_*(_*(0*t+c'))
    grind
  have hpd:∀t,ev t (der (cl p))=ev t (der q)*ev t G+ev t q*ev t (der G):=fun t=>by
    have:der (cl p)=der (mul q G):=by rw [hm]
    rw [this,der_mul,ev_add,ev_mul,ev_mul]
  have hpq:∀t,ev t (cl p)=ev t q*ev t G:=fun t=>by rw [← hm,ev_mul]
  have e1:∀t,ev t G*ev t (sub v (der q))=ev t (der G)*ev t q:=fun t=>by
    have h1:=hpd t
    rw [hv t] at h1
    rw [ev_sub];grind
  -- q and v have no common divisor, so h and w have none
  have hGs:=ev_some hg hn
  have hbz:∀t,ev t a*ev t q+ev t b*ev t v=1:=fun t=>by
    have:=cancel (c:=G) (D:=sub (add (mul a q) (mul b v)) [1]) hGs (fun s=>by
      have h1:=hab s
      rw [hpq s,hv s] at h1
      rw [ev_sub,ev_add,ev_mul,ev_mul]
      show _*(_ - (0*s+1))=0
      grind) t
    rw [ev_sub,ev_add,ev_mul,ev_mul] at this
    have e:ev t [1]=1:=by show 0*t+1=(1:Rat);grind
    rw [e] at this
    grind
  have e4:∀t,ev t (add (mul a (mul q0 [c'])) (mul b (mul z0 [c'])))*ev t h+ev t b*ev t (sub v (der q))=1:=fun t=>by
    have h1:=hbz t
    have h2:=e2 t
    have h3:=e3 t
    rw [ev_add,ev_mul t a,ev_mul t b,ev_sub]
    rw [h2] at h1
    grind
  obtain ⟨A,hA⟩:=pw_dvd (G:=G) (q:=q) (w:=sub v (der q)) (h:=h) (by rw [hc];omega) e1 e2 e3 e4 G.length
  have h5:G=mul (cl (pw h G.length)) (cl A):=ev_ext' hg (mul_cl _ _) fun t=>by rw [ev_mul,ev_cl,ev_cl];exact hA t
  have h6:=pw_len hc (by omega) G.length
  by_cases h7:(cl A).length=0
  · rw [List.length_eq_zero_iff.1 h7, mul_comm', mul_nil] at h5
    exact hn (by rw [h5];rfl)
  · have h8 := mul_length (cl_cl (pw h G.length)) (cl_cl A) (by omega) h7
    rw [← h5] at h8
    omega
end Go.Proofs.YtbiaimgafknkmaaGreat.Po
namespace Go.Proofs.YtbiaimgafknkmaaGreat.Po
open Go.Proofs.YtbiaimgafknkmaaGreat.Big
def le2 (z L:Rat):Prop:= -L≤z∧z≤L
theorem le2_add {x y A B:Rat} (h:le2 x A) (k:le2 y B):le2 (x+y) (A+B):=by
  unfold le2 at *;constructor <;> grind
theorem le2_mono {x A B:Rat} (h:le2 x A) (k:A≤B):le2 x B:=by
  unfold le2 at *;constructor <;> grind
theorem le2_nonneg {x A:Rat} (h:le2 x A):0≤A:=by unfold le2 at h;grind
theorem le2_mul {x y A B:Rat} (h:le2 x A) (k:le2 y B):le2 (x*y) (A*B):=by
  unfold le2 at*
  have a1:=Rat.mul_nonneg (show 0≤A - x by grind) (show 0≤B+y by grind)
  have a2:=Rat.mul_nonneg (show 0≤A+x by grind) (show 0≤B - y by grind)
  have a3:=Rat.mul_nonneg (show 0≤A - x by grind) (show 0≤B - y by grind)
  have a4:=Rat.mul_nonneg (show 0≤A+x by grind) (show 0≤B+y by grind)
  constructor <;> grind
theorem le2_abs (a:Rat):le2 a (qabs a):=by
  unfold le2 qabs;split <;> constructor <;> grind
theorem ev_bound {R:Rat} (hR:0≤R):∀l:List Rat,∃M,0≤M∧∀t,le2 t R→le2 (ev t l) M
  |[]=>⟨0,by grind,fun t _=>by show le2 0 0;unfold le2;constructor <;> grind⟩
  |a :: l=>by
    obtain ⟨M,h0,h⟩:=ev_bound hR l
    have:=Rat.mul_nonneg h0 hR
    have ha:=le2_nonneg (le2_abs a)
    refine ⟨M*R+qabs a,by grind,fun t ht=> ?_⟩
    exact le2_add (le2_mul (h t ht) ht) (le2_abs a)
theorem ev_lip {R:Rat} (hR:0≤R):∀l:List Rat,∃L,0≤L∧∀s t,le2 s R→le2 t R→s≤t→le2 (ev t l - ev s l) (L*(t - s))
  |[]=>⟨0,by grind,fun s t _ _ _=>by show le2 (0 - 0) _;unfold le2;constructor <;> grind⟩
  |a :: l=>by
    obtain ⟨L,h0,h⟩:=ev_lip hR l
    obtain ⟨M,m0,hm⟩:=ev_bound hR l
    have:=Rat.mul_nonneg hR h0
    refine ⟨M+R*L,by grind,fun s t hs ht hst=> ?_⟩
    have e:ev t (a :: l) - ev s (a :: l)=ev t l*(t - s)+s*(ev t l - ev s l):=by
      show ev t l*t+a - (ev s l*s+a)=_;grind
    have h1:=le2_mul (hm t ht) (show le2 (t - s) (t - s) by unfold le2;constructor <;> grind)
    have h2:=le2_mul hs (h s t hs ht hst)
    rw [e]
    refine le2_mono (le2_add h1 h2) ?_
    grind
theorem der_cons (a:Rat) (l:List Rat) (t:Rat):ev t (der (a :: l))=ev t l+t*ev t (der l):=by
  have e:der (a :: l)=der (add (mul [0,1] l) [a]):=der_ext fun t=>by
    rw [ev_add,ev_mul]
    show ev t l*t+a=((0*t+1)*t+0)*ev t l+(0*t+a);grind
  have e2:der (add (mul [0,1] l) [a])=add (der (mul [0,1] l)) (der [a]):=zJa (der_cl _) (add_cl _ _) fun i=>by
    rw [der_get,add_get,add_get,der_get,der_get];grind
  have e3:der [a]=[]:=by
    have:(der [a]).length≤0:=der_len [a]
    exact List.length_eq_zero_iff.1 (by omega)
  have e4:ev t (der [(0:Rat),1])=1:=by
    have:der [(0:Rat),1]=[1]:=by decide +kernel
    rw [this];show 0*t+1=(1:Rat);grind
  rw [e,e2,ev_add,der_mul,ev_add,ev_mul,ev_mul,e3,e4]
  show _+((0*t+1)*t+0)*_+0=_
  grind
theorem ev_tay {R:Rat} (hR:0≤R):∀l:List Rat,∃K,0≤K∧∀s t,le2 s R→le2 t R→s≤t→le2 (ev t l - ev s l - (t - s)*ev s (der l)) (K*((t - s)*(t - s)))
  |[]=>⟨0,by grind,fun s t _ _ _=>by
      have:ev s (der [])=0:=by
        have:der ([]:List Rat)=[]:=by decide +kernel
        rw [this];rfl
      rw [this]
      show le2 (0 - 0 - _) _;unfold le2;constructor <;> grind⟩
  |a :: l=>by
    obtain ⟨K,h0,h⟩:=ev_tay hR l
    obtain ⟨L,l0,hl⟩:=ev_lip hR l
    have:=Rat.mul_nonneg hR h0
    refine ⟨L+R*K,by grind,fun s t hs ht hst=> ?_⟩
    have e:ev t (a :: l) - ev s (a :: l) - (t - s)*ev s (der (a :: l))=(ev t l - ev s l)*(t - s)+s*(ev t l - ev s l - (t - s)*ev s (der l)):=by
      rw [der_cons]
      show ev t l*t+a - (ev s l*s+a) - _=_;grind
    have h1:=le2_mul (hl s t hs ht hst) (show le2 (t - s) (t - s) by unfold le2;constructor <;> grind)
    have h2:=le2_mul hs (h s t hs ht hst)
    rw [e]
    refine le2_mono (le2_add h1 h2) ?_
    grind
theorem all_lip {R:Rat} (hR:0≤R):∀S:List (List Rat),∃L,0≤L∧∀l,l∈S→∀s t,le2 s R→le2 t R→s≤t→le2 (ev t l - ev s l) (L*(t - s))
  |[]=>⟨0,by grind,fun l h=>by cases h⟩
  |l :: S=>by
    obtain ⟨L,l0,hL⟩:=ev_lip hR l
    obtain ⟨M,m0,hM⟩:=all_lip hR S
    refine ⟨L+M,by grind,fun k hk s t hs ht hst=> ?_⟩
    have h0:0≤t - s:=by grind
    have h1:=Rat.mul_nonneg l0 h0
    have h2:=Rat.mul_nonneg m0 h0
    rcases List.mem_cons.1 hk with rfl|hk
    · exact le2_mono (hL s t hs ht hst) (by grind)
    · exact le2_mono (hM k hk s t hs ht hst) (by grind)
def chn:List (List Rat)→Prop
  |[]=>True
  |[a]=>∃c:Rat,c≠0∧∀t,ev t a=c
  |[_,b]=>∃c:Rat,c≠0∧∀t,ev t b=c
  |a :: b :: c :: l=>(∃q,∀t,ev t a=ev t q*ev t b - ev t c)∧chn (b :: c :: l)
def sm (δ z:Rat):Prop:= -δ<z∧z<δ
def prs (δ x:Rat):List (List Rat)→Prop
  |[]=>True
  |[a]=>¬sm δ (ev x a)
  |a :: b :: l=>¬(sm δ (ev x a)∧sm δ (ev x b))∧prs δ x (b :: l)
theorem sm_mono {δ ε z:Rat} (h:sm δ z) (k:δ≤ε):sm ε z:=by unfold sm at *;constructor <;> grind
theorem prs_mono {δ ε x:Rat} (k:δ≤ε):∀S:List (List Rat),prs ε x S→prs δ x S
  |[],_=>trivial
  |[_],h=>fun z=>h (sm_mono z k)
  |_ :: b :: l,h=>⟨fun z=>h.1 ⟨sm_mono z.1 k,sm_mono z.2 k⟩,prs_mono k (b :: l) h.2⟩
def chq (R Q:Rat):List (List Rat)→Prop
  |[]=>True
  |[a]=>∃c:Rat,c≠0∧∀t,ev t a=c
  |[_,b]=>∃c:Rat,c≠0∧∀t,ev t b=c
  |a :: b :: c :: l=>(∃q,(∀t,le2 t R→le2 (ev t q) Q)∧∀t,ev t a=ev t q*ev t b - ev t c)∧chq R Q (b :: c :: l)
theorem chq_mono {R Q Q':Rat} (k:Q≤Q'):∀S:List (List Rat),chq R Q S→chq R Q' S
  |[],_=>trivial
  |[_],h=>h
  |[_,_],h=>h
  |_ :: b :: c :: l,⟨⟨q,h1,h2⟩,h3⟩=>⟨⟨q,fun t ht=>le2_mono (h1 t ht) k,h2⟩,chq_mono k (b :: c :: l) h3⟩
theorem chn_q {R:Rat} (hR:0≤R):∀S:List (List Rat),chn S→∃Q,0≤Q∧chq R Q S
  |[],_=>⟨0,by grind,trivial⟩
  |[_],h=>⟨0,by grind,h⟩
  |[_,_],h=>⟨0,by grind,h⟩
  |a :: b :: c :: l,⟨⟨q,h2⟩,h3⟩=>by
    obtain ⟨M,m0,hM⟩:=ev_bound hR q
    obtain ⟨Q,q0,hQ⟩:=chn_q hR (b :: c :: l) h3
    exact ⟨M+Q,by grind,⟨q,fun t ht=>le2_mono (hM t ht) (by grind),h2⟩,chq_mono (by grind) _ hQ⟩
theorem const_big {a:List Rat} {c:Rat} (hc:c≠0) (h:∀t,ev t a=c):∃δ,0<δ∧∀x,¬sm δ (ev x a):=by
  refine ⟨qabs c,?_,fun x z=> ?_⟩
  · unfold qabs;split <;> grind
  · rw [h] at z
    unfold sm qabs at z
    split at z <;> grind
theorem chq_prs {R Q:Rat} (hQ:0≤Q):∀S:List (List Rat),chq R Q S→∃δ,0<δ∧∀x,le2 x R→prs δ x S
  |[],_=>⟨1,by decide +kernel,fun _ _=>trivial⟩
  |[a],⟨c,hc,h⟩=>by
    obtain ⟨δ,h0,h1⟩:=const_big hc h
    exact ⟨δ,h0,fun x _=>h1 x⟩
  |[a,b],⟨c,hc,h⟩=>by
    obtain ⟨δ,h0,h1⟩:=const_big hc h
    exact ⟨δ,h0,fun x _=>⟨fun z=>h1 x z.2,h1 x⟩⟩
  |a :: b :: c :: l,⟨⟨q,h1,h2⟩,h3⟩=>by
    obtain ⟨δ,h0,hδ⟩:=chq_prs hQ (b :: c :: l) h3
    have hq2:0<Q+2:=by grind
    have e:δ / (Q+2)*(Q+2)=δ:=Rat.div_mul_cancel (by grind)
    have hp:0<δ / (Q+2):=by
      refine Rat.not_le.1 fun z=> ?_
      have:=Rat.mul_nonneg (show 0≤ -(δ / (Q+2)) by grind) (show 0≤Q+2 by grind)
      grind
    generalize δ / (Q+2)=ε at*
    have hQε:=Rat.mul_nonneg hQ (show 0≤ε by grind)
    have hle:ε≤δ:=by grind
    refine ⟨ε,hp,fun x hx=>⟨fun z=> ?_,prs_mono hle _ (hδ x hx)⟩⟩
    have h4:=le2_mul (h1 x hx) (show le2 (ev x b) ε by unfold sm at z;unfold le2;constructor <;> grind)
    have h5:=h2 x
    refine (hδ x hx).1 ⟨sm_mono z.2 hle,?_⟩
    unfold sm le2 at*
    constructor <;> grind
end Go.Proofs.YtbiaimgafknkmaaGreat.Po
namespace Go.Proofs.YtbiaimgafknkmaaGreat.Po
open Go.Proofs.YtbiaimgafknkmaaGreat.Big
theorem sgq_p {z:Rat} (h:0<z):sgq z=1:=by
  have:=sgq_pos.2 h;have:=sgq_rng z;omega
theorem sgq_n {z:Rat} (h:z<0):sgq z= -1:=by
  have:=sgq_lt.2 h;have:=sgq_rng z;omega
theorem sm_not {δ z:Rat} (h:¬sm δ z):z≤ -δ∨δ≤z:=by
  unfold sm at h
  by_cases k: -δ<z
  · exact .inr (by grind)
  · exact .inl (by grind)
theorem sgn_stay {δ η z w:Rat} (hd:0<δ) (h:¬sm δ z) (k:le2 (w - z) η) (l:η<δ):sgq w=sgq z∧sgq z≠0:=by
  unfold le2 at k
  rcases sm_not h with q|q
  · rw [sgq_n (show w<0 by grind),sgq_n (show z<0 by grind)];decide
  · rw [sgq_p (show 0<w by grind),sgq_p (show 0<z by grind)];decide
theorem va_add (x:Rat):∀(l:List (List Rat)) (n s:Int),va x l n s=n+va x l 0 s
  |[],n,s=>by show n=n+0;omega
  |p :: l,n,s=>by
    unfold va
    split
    · exact va_add x l n s
    · split
      · rw [va_add x l (n+1),va_add x l (0+1)];omega
      · exact va_add x l n _
theorem va_cons (x:Rat) (p:List Rat) (l:List (List Rat)) (n s:Int):va x (p :: l) n s=if sgq (ev x p)=0 then va x l n s else va x l (if s*sgq (ev x p)<0 then n+1 else n) (sgq (ev x p)):=rfl
theorem va_mid {z:Rat} {g k:List Rat} {T:List (List Rat)} {n s:Int} (hs:s=1∨s= -1) (hk:sgq (ev z k)= -s):va z (g :: k :: T) n s=va z T (n+1) (-s):=by
  have hr:=sgq_rng (ev z g)
  rw [va_cons,va_cons,va_cons]
  rcases (show sgq (ev z g)= -1∨sgq (ev z g)=0∨sgq (ev z g)=1 by omega) with e|e|e <;> rcases hs with rfl|rfl <;> simp [e,hk]
theorem chq_tail {R Q:Rat} {f:List Rat} {T:List (List Rat)} (h:chq R Q (f :: T)):chq R Q T:=by
  match T,h with
  |[],_=>trivial
  |[_],h=>exact h
  |_ :: _ :: _,h=>exact h.2
theorem prs_tail {δ x:Rat} {f:List Rat} {T:List (List Rat)} (h:prs δ x (f :: T)):prs δ x T:=by
  match T,h with
  |[],_=>trivial
  |_ :: _,h=>exact h.2
theorem tail_same {R Q δ1 δ x y:Rat} (hQ:0≤Q) (hd:0<δ) (hδ:(Q+2)*δ≤δ1) (hx:le2 x R):∀(m:Nat) (f:List Rat) (T:List (List Rat)),T.length≤m→chq R Q (f :: T)→prs δ1 x (f :: T)→(∀g,g∈f :: T→∃η,η<δ∧le2 (ev y g - ev x g) η)→¬sm δ (ev x f)→∀n,va x T n (sgq (ev x f))=va y T n (sgq (ev x f))
  |_,f,[],_,_,_,_,_,n=>rfl
  |0,f,g :: T,hm,_,_,_,_,_=>by simp at hm
  |m+1,f,g :: T,hm,hc,hp,hl,hf,n=>by
    have hQδ:=Rat.mul_nonneg hQ (show 0≤δ by grind)
    have hle:δ≤δ1:=by grind
    have hm':T.length≤m:=by simp at hm;omega
    obtain ⟨ηg,lg,bg⟩:=hl g (by simp)
    have hlt:∀k,k∈g :: T→∃η,η<δ∧le2 (ev y k - ev x k) η:=fun k hk=>hl k (List.mem_cons_of_mem _ hk)
    by_cases hg:sm δ (ev x g)
    · match T, hc, hp, hm', hlt with
      |[],hc,hp,_,_=>exact absurd (sm_mono hg hle) hp.2
      |k :: T,⟨⟨q,h1,h2⟩,h3⟩,hp,hm',hlt=>
        have hf1:¬sm δ1 (ev x f):=fun z=>hp.1 ⟨z,sm_mono hg hle⟩
        have h4:=le2_mul (h1 x hx) (show le2 (ev x g) δ by unfold sm at hg;unfold le2;constructor <;> grind)
        have h5:=h2 x
        obtain ⟨ηk,lk,bk⟩:=hlt k (by simp)
        have hs:sgq (ev x f)=1∨sgq (ev x f)= -1:=by
          rcases sm_not hf1 with z|z
          · exact .inr (sgq_n (by grind))
          · exact .inl (sgq_p (by grind))
        have hkx:¬sm δ (ev x k)∧sgq (ev x k)= - sgq (ev x f):=by
          unfold le2 at h4
          rcases sm_not hf1 with z|z
          · have : 2 * δ ≤ ev x k := by grind
            rw [sgq_p (show 0<ev x k by grind),sgq_n (show ev x f<0 by grind)]
            refine ⟨fun w=> ?_,by decide⟩
            unfold sm at w;grind
          · have : ev x k ≤ -(2 * δ) := by grind
            rw [sgq_n (show ev x k<0 by grind),sgq_p (show 0<ev x f by grind)]
            refine ⟨fun w=> ?_,by decide⟩
            unfold sm at w;grind
        have hky:=(sgn_stay hd hkx.1 bk lk).1
        rw [va_mid hs hkx.2,va_mid hs (hky.trans hkx.2),←hkx.2]
        exact tail_same hQ hd hδ hx m k T (by simp at hm';omega) (chq_tail h3) (prs_tail hp.2) (fun j hj=>hlt j (List.mem_cons_of_mem _ hj)) hkx.1 (n+1)
    · obtain ⟨e1, e2⟩ := sgn_stay hd hg bg lg
      unfold va
      rw [e1,if_neg e2,if_neg e2]
      exact tail_same hQ hd hδ hx m g T hm' (chq_tail hc) (prs_tail hp) hlt hg _
def b2 (p:Prop) [Decidable p]:Int:=if p then 1 else 0
def Stp (S:List (List Rat)) (f:List Rat) (x y:Rat):Prop:=
  (sgq (ev x f)=sgq (ev y f)∧(∀z,x≤z→z≤y→ev z f≠0)∧vr S x=vr S y)
  ∨((∀u v,x≤u→u<v→v≤y→ev u f<ev v f)∧vr S x - vr S y=b2 (ev x f<0) - b2 (ev y f<0))
  ∨((∀u v,x≤u→u<v→v≤y→ev v f<ev u f)∧vr S x - vr S y=b2 (0<ev x f) - b2 (0<ev y f))
theorem vr_head {S:List (List Rat)} {f0 f1:List Rat} {T:List (List Rat)} {z:Rat} {τ:Int} (hS:S=f0 :: f1 :: T) (h1:sgq (ev z f1)=τ) (hτ:τ≠0):vr S z=(if sgq (ev z f0)*τ<0 then 1 else 0)+va z T 0 τ:=by
  rw [hS]
  unfold vr
  rw [va_cons,va_cons,va_cons,h1,if_neg hτ,if_neg hτ]
  split
  · rename_i h0
    rw [va_add,h0]
    simp
  · rename_i h0
    rw [va_add]
    simp
theorem pos_mul {a b:Rat} (ha:0<a) (hb:0<b):0<a*b:=Rat.mul_pos ha hb
theorem step {f0:List Rat} {T:List (List Rat)} (hc:chn (f0 :: der f0 :: T)) {R:Rat} (hR:0≤R):∃h,0<h∧∀x y,le2 x R→le2 y R→x<y→y - x≤h→Stp (f0 :: der f0 :: T) f0 x y:=by
  obtain ⟨Q,hQ,hq⟩:=chn_q hR _ hc
  obtain ⟨δ1,hδ1,hp⟩:=chq_prs hQ _ hq
  obtain ⟨L,hL,hl⟩:=all_lip hR (f0 :: der f0 :: T)
  obtain ⟨K,hK,hk⟩:=ev_tay hR f0
  have dpos:∀{a b:Rat},0<a→0<b→0<a / b:=fun {a b} ha hb=>by
    have e:a / b*b=a:=Rat.div_mul_cancel (by grind)
    refine Rat.not_le.1 fun z=> ?_
    have:=Rat.mul_nonneg (show 0≤ -(a / b) by grind) (show 0≤b by grind)
    grind
  have hd:0<δ1 / (Q+2):=dpos hδ1 (by grind)
  have ed:δ1 / (Q+2)*(Q+2)=δ1:=Rat.div_mul_cancel (by grind)
  generalize δ1 / (Q+2)=δ at*
  have hh:0<δ / (L+K+1):=dpos hd (by grind)
  have eh:δ / (L+K+1)*(L+K+1)=δ:=Rat.div_mul_cancel (by grind)
  generalize δ / (L+K+1)=h at*
  have hQδ:=Rat.mul_nonneg hQ (show 0≤δ by grind)
  have hLh:=Rat.mul_nonneg hL (show 0≤h by grind)
  have hKh:=Rat.mul_nonneg hK (show 0≤h by grind)
  refine ⟨h,hh,fun x y hx hy hxy hyx=> ?_⟩
  have hlip:∀g,g∈f0 :: der f0 :: T→∀u v,x≤u→u≤v→v≤y→le2 (ev v g - ev u g) (L*h):=fun g hg u v h1 h2 h3=>by
    have:=Rat.mul_nonneg hL (show 0≤h - (v - u) by grind)
    exact le2_mono (hl g hg u v (by unfold le2 at *;constructor <;> grind) (by unfold le2 at *;constructor <;> grind) h2) (by grind)
  have hLδ:L*h<δ:=by grind
  have hxy':x≤y:=by grind
  have hlx:∀g,g∈f0 :: der f0 :: T→∃η,η<δ∧le2 (ev y g - ev x g) η:=fun g hg=>⟨L*h,hLδ,hlip g hg x y (by grind) hxy' (by grind)⟩
  by_cases h0:sm δ (ev x f0)
  · have hle : δ ≤ δ1 := by grind
    have h1:¬sm δ1 (ev x (der f0)):=fun z=>(hp x hx).1 ⟨sm_mono h0 hle,z⟩
    have h1':¬sm δ (ev x (der f0)):=fun z=>h1 (sm_mono z hle)
    obtain ⟨e1,e2⟩:=sgn_stay hd h1' (hlip (der f0) (by simp) x y (by grind) hxy' (by grind)) hLδ
    have ht:=tail_same hQ hd (show (Q+2)*δ≤δ1 by grind) hx T.length (der f0) T (Nat.le_refl _) (chq_tail hq) (prs_tail (hp x hx)) (fun g hg=>hlx g (List.mem_cons_of_mem _ hg)) h1' 0
    have vx:=vr_head (f0:=f0) (T:=T) rfl rfl e2 (z:=x) (f1:=der f0)
    have vy:=vr_head (f0:=f0) (T:=T) rfl e1 e2 (z:=y) (f1:=der f0)
    have hmono:∀u v,x≤u→u<v→v≤y→le2 (ev v f0 - ev u f0 - (v - u)*ev u (der f0)) (K*((v - u)*(v - u)))∧le2 (ev u (der f0) - ev x (der f0)) (L*h):=fun u v a b c=>
      ⟨hk u v (by unfold le2 at *;constructor <;> grind) (by unfold le2 at *;constructor <;> grind) (by grind),hlip (der f0) (by simp) x u (by grind) a (by grind)⟩
    refine .inr ?_
    rcases sm_not h1 with z|z
    · refine .inr ⟨fun u v a b c => ?_, ?_⟩
      · obtain ⟨m1, m2⟩ := hmono u v a b c
        have hneg:ev u (der f0)< -δ:=by unfold le2 at m2;grind
        have hKw:K*(v - u)≤δ:=by
          have:=Rat.mul_nonneg hK (show 0≤h - (v - u) by grind)
          grind
        have:=pos_mul (show 0<v - u by grind) (show 0< -(ev u (der f0)) - K*(v - u) by grind)
        unfold le2 at m1
        grind
      · have s1 : sgq (ev x (der f0)) = -1 := sgq_n (by grind)
        rw [vx,vy,ht,s1]
        unfold b2
        have p1:∀w:Rat,(sgq w* -1<0)↔0<w:=fun w=>by have:=sgq_pos (x:=w);constructor <;> intro q <;> (first|(apply sgq_pos.1;omega)|(have:=sgq_pos.2 q;omega))
        simp only [p1]
        omega
    · refine .inl ⟨fun u v a b c => ?_, ?_⟩
      · obtain ⟨m1, m2⟩ := hmono u v a b c
        have hpos:δ<ev u (der f0):=by unfold le2 at m2;grind
        have hKw:K*(v - u)≤δ:=by
          have:=Rat.mul_nonneg hK (show 0≤h - (v - u) by grind)
          grind
        have:=pos_mul (show 0<v - u by grind) (show 0<ev u (der f0) - K*(v - u) by grind)
        unfold le2 at m1
        grind
      · have s1 : sgq (ev x (der f0)) = 1 := sgq_p (by grind)
        rw [vx,vy,ht,s1]
        unfold b2
        have p1:∀w:Rat,(sgq w*1<0)↔w<0:=fun w=>by rw [Int.mul_one];exact sgq_lt
        simp only [p1]
        omega
  · obtain ⟨e1, e2⟩ := sgn_stay hd h0 (hlip f0 (by simp) x y (by grind) hxy' (by grind)) hLδ
    refine .inl ⟨e1.symm,fun z a b c=> ?_,?_⟩
    · have := hlip f0 (by simp) x z (by grind) a b
      unfold le2 at this
      rcases sm_not h0 with w|w <;> grind
    · have ht := tail_same hQ hd (show (Q + 2) * δ ≤ δ1 by grind) hx (der f0 :: T).length f0 (der f0 :: T) (Nat.le_refl _) hq (hp x hx) hlx h0 0
      have hv:∀w,sgq (ev w f0)=sgq (ev x f0)→vr (f0 :: der f0 :: T) w=va w (der f0 :: T) 0 (sgq (ev x f0)):=fun w hw=>by
        unfold vr
        conv=>lhs;unfold va
        rw [hw,if_neg e2,Int.zero_mul,if_neg (by decide)]
      rw [hv x rfl,hv y e1]
      exact ht
theorem le_natAbs (r:Rat):r≤((r.num.natAbs:Nat):Rat):=by
  have h1:(r.num:Rat) / ((r.den:Int):Rat)=r:=by rw [← Rat.divInt_eq_div,Rat.num_divInt_den]
  have h2:=Rat.div_mul_cancel (a:=(r.num:Rat)) (cast_ne (den_ne r))
  rw [h1] at h2
  have h3:(1:Rat)≤((r.den:Int):Rat):=by
    have:=r.den_pos
    have:(1:Int)≤(r.den:Int):=by omega
    exact_mod_cast this
  have h4:(r.num:Rat)≤((r.num.natAbs:Nat):Rat):=by
    have:r.num≤((r.num.natAbs:Nat):Int):=by omega
    exact_mod_cast this
  have h5:(0:Rat)≤((r.num.natAbs:Nat):Rat):=by exact_mod_cast Nat.zero_le _
  by_cases h:0≤r
  · have := Rat.mul_nonneg h (show 0 ≤ ((r.den : Int) : Rat) - 1 by grind)
    grind
  · grind
theorem walk {P:Rat→Rat→Prop} {R h:Rat} (hh:0<h) (hs:∀x y,le2 x R→le2 y R→x<y→y - x≤h→P x y) (ht:∀x z y,x<z→z<y→P x z→P z y→P x y) (x y:Rat) (hx:le2 x R) (hy:le2 y R) (hxy:x<y):P x y:=by
  have key:∀(n:Nat) (x:Rat),le2 x R→x<y→y - x≤((n:Nat):Rat)*h→P x y:=by
    intro n
    induction n with
    |zero=>
      intro x _ h1 h2
      have:((0:Nat):Rat)=0:=by decide +kernel
      rw [this] at h2;grind
    |succ n ih=>
      intro x hx h1 h2
      by_cases k:y - x≤h
      · exact hs x y hx hy h1 k
      · have e : ((n + 1 : Nat) : Rat) = (n : Nat) + 1 := by exact_mod_cast cast_s n
        rw [e] at h2
        have hz:le2 (x+h) R:=by unfold le2 at *;constructor <;> grind
        exact ht x (x+h) y (by grind) (by grind) (hs x (x+h) hx hz (by grind) (by grind)) (ih (x+h) hz (by grind) (by grind))
  have e:(y - x) / h*h=y - x:=Rat.div_mul_cancel (by grind)
  refine key ((y - x) / h).num.natAbs x hx hxy ?_
  have:=Rat.mul_nonneg (show 0≤((((y - x) / h).num.natAbs:Nat):Rat) - (y - x) / h by have:=le_natAbs ((y - x) / h);grind) (show 0≤h by grind)
  grind
end Go.Proofs.YtbiaimgafknkmaaGreat.Po
namespace Go.Proofs.YtbiaimgafknkmaaGreat.Po
open Go.Proofs.YtbiaimgafknkmaaGreat.Big
theorem neg1:(((-1:Int)):Rat)= -1:=by decide +kernel
theorem ev_neg (t:Rat) (l:List Rat):ev t (mul l [(((-1:Int)):Rat)])= - ev t l:=by
  rw [ev_mul,neg1];show _*(0*t+ -1)=_;grind
theorem one_const {b:List Rat} (hb:cl b=b) (h:b.length=1):∃c:Rat,c≠0∧∀t,ev t b=c:=by
  match b,h with
  |[c],_=>exact ⟨c,last_ne (l:=[c]) hb (by simp),fun t=>by show 0*t+c=c;grind⟩
theorem dvd_refl (b:List Rat):dvd b b:=⟨[1],fun t=>by show _=_*(0*t+1);grind⟩
theorem st_chn:∀(n:Nat) (a b:List Rat),cl a=a→cl b=b→b.length≠0→(mul (dr a b) [(((-1:Int)):Rat)]).length≤n→(∀h,cl h=h→dvd h a→dvd h b→h.length≤1)→chn (a :: b :: st n b (mul (dr a b) [(((-1:Int)):Rat)]))
  |n,a,b,ha,hb,h0,hn,hd=>by
    by_cases hc:(mul (dr a b) [(((-1:Int)):Rat)]).length=0
    · rw [st_nil hc]
      have hda:dvd b a:=⟨dq a b,fun t=>by
        have h1:=div_ev ha hb h0 t
        have h2:=ev_neg t (dr a b)
        rw [List.length_eq_zero_iff.1 hc] at h2
        have h3:(0:Rat)= - ev t (dr a b):=h2
        grind⟩
      have:=hd b hb hda (dvd_refl b)
      exact one_const hb (by omega)
    · obtain ⟨m, rfl⟩ : ∃ m, n = m + 1 := ⟨n - 1, by omega⟩
      rw [st_yes hc hn]
      have hcc:=mul_cl (dr a b) [(((-1:Int)):Rat)]
      refine ⟨⟨dq a b,fun t=> ?_⟩,?_⟩
      · rw [ev_neg,div_ev ha hb h0 t];grind
      · refine st_chn m b _ hb hcc hc (sdr_len hcc hc hn) fun h hh h1 h2 => ?_
        refine hd h hh ?_ h1
        obtain ⟨u,hu⟩:=h1
        obtain ⟨v,hv⟩:=h2
        refine ⟨sub (mul (dq a b) u) v,fun t=> ?_⟩
        have h3:=hv t
        rw [ev_neg] at h3
        rw [div_ev ha hb h0 t,ev_sub,ev_mul,hu t]
        grind
theorem sturm_chn {p:List Rat} (hp:(cl p).length≠0):(∃c:Rat,c≠0∧(∀t,ev t (sqf p)=c)∧sturm p=[sqf p])∨∃T,sturm p=sqf p :: der (sqf p) :: T∧chn (sqf p :: der (sqf p) :: T):=by
  have h0:(sqf p).length≠0:=fun e=>hp ((sqf_nil p).1 e)
  have hs:sturm p=sqf p :: st (sqf p).length (sqf p) (der (sqf p)):=if_neg h0
  have hc:=sqf_cl p
  by_cases hd:(der (sqf p)).length=0
  · refine .inl ?_
    have h1:(sqf p).length=1:=by
      refine Decidable.byContradiction fun k=> ?_
      have h2:=last_ne hc h0
      have h3:=der_get (sqf p) ((sqf p).length - 2)
      rw [gD0 (by omega),show (sqf p).length - 2+1=(sqf p).length - 1 by omega] at h3
      rcases Rat.mul_eq_zero.1 h3.symm with z|z
      · have : (((sqf p).length - 1 : Nat) : Int) = 0 := by exact_mod_cast z
        omega
      · exact h2 z
    obtain ⟨c,c0,hcc⟩:=one_const hc h1
    exact ⟨c,c0,hcc,by rw [hs,st_nil hd]⟩
  · refine .inr ?_
    have hl:=der_len (sqf p)
    have hy:=st_yes (a:=sqf p) hd (show (der (sqf p)).length≤(sqf p).length by omega)
    refine ⟨_,by rw [hs,hy],?_⟩
    exact st_chn _ _ _ hc (der_cl _) hd (sdr_len (der_cl _) hd (by omega)) fun h hh h1 h2=>sqf_cop hp hh h1 h2
def pl:List Rat→List Rat
  |[]=>[1]
  |b :: B=>mul [-b,1] (pl B)
def pe:List Rat→Rat→Rat
  |[],_=>1
  |b :: B,t=>(t - b)*pe B t
theorem pl_ev (t:Rat):∀B,ev t (pl B)=pe B t
  |[]=>by show 0*t+1=(1:Rat);grind
  |b :: B=>by show ev t (mul [-b,1] (pl B))=_;rw [ev_mul,ev_lin,pl_ev t B];rfl
theorem pe_zero (t:Rat):∀B:List Rat,pe B t=0↔t∈B
  |[]=>⟨fun h=>absurd (show (1:Rat)=0 from h) (by decide +kernel),fun h=>by cases h⟩
  |b :: B=>by
    show (t - b)*pe B t=0↔_
    rw [Rat.mul_eq_zero,pe_zero t B,List.mem_cons]
    constructor
    · rintro (h | h)
      · exact .inl (by grind)
      · exact .inr h
    · rintro (h | h)
      · exact .inl (by grind)
      · exact .inr h
theorem lin_ne (a:Rat):∃t,ev t [-a,1]≠0:=⟨a+1,by rw [ev_lin];grind⟩
theorem split_of:∀(L:List Rat) (h u:List Rat) (c:Rat),c≠0→(∀t,ev t h*ev t u=c*pe L t)→∃B c',c'≠0∧(∀t,ev t h=c'*pe B t)∧∀b,b∈B→b∈L
  |[],h,u,c,hc,e=>by
    have e':∀t,ev t h*ev t u=c:=fun t=>by rw [e t];show c*1=c;grind
    have h1:(cl h).length≠0:=cl_ne ⟨0,fun z=>hc (by rw [← e' 0,z];grind)⟩
    have h2:(cl u).length≠0:=cl_ne ⟨0,fun z=>hc (by rw [← e' 0,z];grind)⟩
    have h3:=mul_length (cl_cl h) (cl_cl u) h1 h2
    have h4:mul (cl h) (cl u)=cl [c]:=ev_ext' (mul_cl _ _) (cl_cl _) fun t=>by
      rw [ev_mul,ev_cl,ev_cl,ev_cl,e' t];show c=0*t+c;grind
    have h5:(cl [c]).length≤1:=cl_le_len [c]
    rw [h4] at h3
    obtain ⟨k,hk,hh⟩:=one_const (cl_cl h) (by omega)
    exact ⟨[],k,hk,fun t=>by rw [← ev_cl,hh t];show k=k*1;grind,fun b hb=>by cases hb⟩
  |a :: L,h,u,c,hc,e=>by
    have ea:=e a
    have:ev a h*ev a u=0:=by rw [ea];show c*((a - a)*pe L a)=0;grind
    rcases Rat.mul_eq_zero.1 this with z|z
    · have e1:∀t,ev t (syn a h)*ev t u=c*pe L t:=fun t=>by
        have:=cancel (c:=[-a,1]) (D:=sub (mul (syn a h) u) (mul [c] (pl L))) (lin_ne a) (fun s=>by
          have h1:=e s
          have h2:=syn_ev a s h
          rw [ev_lin,ev_sub,ev_mul,ev_mul,pl_ev]
          have h3:c*((s - a)*pe L s)=ev s h*ev s u:=h1.symm
          show _*(_ - (0*s+c)*_)=0
          rw [h2,z] at h3
          grind) t
        rw [ev_sub,ev_mul,ev_mul,pl_ev] at this
        have e2:ev t [c]=c:=by show 0*t+c=c;grind
        rw [e2] at this
        grind
      obtain ⟨B,c',hc',hB,hm⟩:=split_of L (syn a h) u c hc e1
      refine ⟨a :: B,c',hc',fun t=> ?_,fun b hb=> ?_⟩
      · rw [syn_ev a t h,z,hB t];show _=c'*((t - a)*pe B t);grind
      · rcases List.mem_cons.1 hb with rfl | hb
        · exact List.mem_cons_self
        · exact List.mem_cons_of_mem _ (hm b hb)
    · have e1:∀t,ev t h*ev t (syn a u)=c*pe L t:=fun t=>by
        have:=cancel (c:=[-a,1]) (D:=sub (mul h (syn a u)) (mul [c] (pl L))) (lin_ne a) (fun s=>by
          have h1:=e s
          have h2:=syn_ev a s u
          rw [ev_lin,ev_sub,ev_mul,ev_mul,pl_ev]
          have h3:c*((s - a)*pe L s)=ev s h*ev s u:=h1.symm
          show _*(_ - (0*s+c)*_)=0
          rw [h2,z] at h3
          grind) t
        rw [ev_sub,ev_mul,ev_mul,pl_ev] at this
        have e2:ev t [c]=c:=by show 0*t+c=c;grind
        rw [e2] at this
        grind
      obtain ⟨B,c',hc',hB,hm⟩:=split_of L h (syn a u) c hc e1
      exact ⟨B,c',hc',hB,fun b hb=>List.mem_cons_of_mem _ (hm b hb)⟩
theorem sqf_dvd {p:List Rat} (hp:(cl p).length≠0):∃u,∀t,ev t p=ev t (sqf p)*ev t u:=by
  have hc:=cl_cl p
  have hg:=gcd_cl (cl p) (der (cl p))
  have hn:(gcd (cl p) (der (cl p))).length≠0:=gcd_ne (by rw [hc];exact hp)
  obtain ⟨d1,-⟩:=gcd_dvd (cl p) (der (cl p)) hc (der_cl _)
  have hm:=exact_mul hc hg hn d1
  have he:sqf p=mo (dq (cl p) (gcd (cl p) (der (cl p)))):=if_neg hp
  have hqc:=dq_cl (cl p) (gcd (cl p) (der (cl p)))
  refine ⟨mul [lead (dq (cl p) (gcd (cl p) (der (cl p))))] (gcd (cl p) (der (cl p))),fun t=> ?_⟩
  have h1:ev t (cl p)=ev t (dq (cl p) (gcd (cl p) (der (cl p))))*ev t (gcd (cl p) (der (cl p))):=by rw [← ev_mul,hm]
  have h2:=mo_ev hqc t
  rw [ev_cl] at h1
  rw [h1,ev_mul,he,←h2]
  show _=_*((0*t+_)*_)
  grind
theorem sqf_split {p L:List Rat} (hp:(cl p).length≠0) (hL:∀t,ev t p=pe L t):∃B c,c≠0∧(∀t,ev t (sqf p)=c*pe B t)∧B.Nodup∧∀b,b∈B↔b∈L:=by
  obtain ⟨u,hu⟩:=sqf_dvd hp
  obtain ⟨B,c,hc,hB,hm⟩:=split_of L (sqf p) u 1 (by decide +kernel) (fun t=>by rw [← hu t,hL t];grind)
  refine ⟨B,c,hc,hB,?_,fun b=>⟨hm b,fun h=> ?_⟩⟩
  · -- a factor twice would be a common divisor
    refine Classical.byContradiction fun k=> ?_
    have hdup:∀B:List Rat,¬B.Nodup→∃b C,∀t,pe B t=(t - b)*((t - b)*pe C t):=by
      intro B
      induction B with
      |nil=>intro h;exact absurd List.nodup_nil h
      |cons a B ih=>
        intro h
        by_cases hB:B.Nodup
        · have ha : a ∈ B := Classical.byContradiction fun q => h (List.nodup_cons.2 ⟨q, hB⟩)
          have hx:∀B:List Rat,a∈B→∃C,∀t,pe B t=(t - a)*pe C t:=by
            intro B
            induction B with
            |nil=>intro h;cases h
            |cons d B ih2=>
              intro h
              by_cases hd:a=d
              · exact ⟨B,fun t=>by rw [hd];rfl⟩
              · obtain ⟨C, hC⟩ := ih2 ((List.mem_cons.1 h).resolve_left hd)
                exact ⟨d :: C,fun t=>by show (t - d)*pe B t=_*((t - d)*pe C t);rw [hC t];grind⟩
          obtain ⟨C,hC⟩:=hx B ha
          exact ⟨a,C,fun t=>by show (t - a)*pe B t=_;rw [hC t]⟩
        · obtain ⟨b, C, hC⟩ := ih hB
          exact ⟨b,a :: C,fun t=>by show (t - a)*pe B t=_*(_*((t - a)*pe C t));rw [hC t];grind⟩
    obtain ⟨b,C,hC⟩:=hdup B k
    have hlin:cl [-b,1]=[-b,1]:=by
      have:=cl_len [-b,1]
      unfold cl
      have e:tn [-b,1] [-b,1].length=2:=by
        show (if ([-b,1]:List Rat).getD 1 0=0 then _ else 2)=2
        rw [if_neg (by show ¬(1:Rat)=0;decide +kernel)]
      rw [e];rfl
    have hf:∀t,ev t (sqf p)=ev t [-b,1]*ev t (mul [-b,1] (mul [c] (pl C))):=fun t=>by
      rw [hB t,hC t,ev_mul,ev_mul,pl_ev,ev_lin]
      show _=_*(_*((0*t+c)*_));grind
    have hd2:dvd [-b,1] (der (sqf p)):=by
      have e:der (sqf p)=der (mul [-b,1] (mul [-b,1] (mul [c] (pl C)))):=der_ext fun t=>by rw [ev_mul];exact hf t
      refine ⟨add (mul (der [-b,1]) (mul [c] (pl C))) (der (mul [-b,1] (mul [c] (pl C)))),fun t=> ?_⟩
      rw [e,der_mul]
      simp only [ev_add,ev_mul]
      grind
    have:=sqf_cop hp hlin ⟨_,hf⟩ hd2
    simp at this
  · have h1 : ev b p = 0 := by rw [hL b]; exact (pe_zero b L).2 h
    have h2:=(sqf_root hp b).2 h1
    rw [hB b] at h2
    rcases Rat.mul_eq_zero.1 h2 with z|z
    · exact absurd z hc
    · exact (pe_zero b B).1 z
def cn:List Rat→Rat→Rat→Int
  |[],_,_=>0
  |b :: B,x,y=>(if x<b∧b≤y then 1 else 0)+cn B x y
theorem cn_add {x z y:Rat} (h1:x<z) (h2:z<y):∀B,cn B x y=cn B x z+cn B z y
  |[]=>rfl
  |b :: B=>by
    unfold cn
    rw [cn_add h1 h2 B]
    have:(if x<b∧b≤y then (1:Int) else 0)=(if x<b∧b≤z then 1 else 0)+(if z<b∧b≤y then 1 else 0):=by
      by_cases a1:x<b
      · by_cases a2 : b ≤ z
        · rw [if_pos ⟨a1,by grind⟩,if_pos ⟨a1,a2⟩,if_neg (fun k=>by grind)];rfl
        · by_cases a3 : b ≤ y
          · rw [if_pos ⟨a1,a3⟩,if_neg (fun k=>a2 k.2),if_pos ⟨by grind,a3⟩];rfl
          · rw [if_neg (fun k=>a3 k.2),if_neg (fun k=>a2 k.2),if_neg (fun k=>a3 k.2)];rfl
      · rw [if_neg (fun k=>a1 k.1),if_neg (fun k=>a1 k.1),if_neg (fun k=>by grind)];rfl
    omega
theorem cn_zero {x y:Rat}:∀{B:List Rat},(∀b,b∈B→¬(x<b∧b≤y))→cn B x y=0
  |[],_=>rfl
  |b :: B,h=>by
    unfold cn
    rw [if_neg (h b List.mem_cons_self),cn_zero fun b hb=>h b (List.mem_cons_of_mem _ hb)];rfl
theorem cn_one {x y r:Rat}:∀{B:List Rat},B.Nodup→r∈B→x<r→r≤y→(∀b,b∈B→x<b→b≤y→b=r)→cn B x y=1
  |[],_,h,_,_,_=>by cases h
  |b :: B,hn,hr,h1,h2,hu=>by
    unfold cn
    obtain ⟨n1,n2⟩:=List.nodup_cons.1 hn
    by_cases e:b=r
    · subst e
      rw [if_pos ⟨h1,h2⟩,cn_zero fun c hc k=>n1 ((hu c (List.mem_cons_of_mem _ hc) k.1 k.2) ▸ hc)];rfl
    · rw [if_neg (fun k=>e (hu b List.mem_cons_self k.1 k.2)),cn_one n2 ((List.mem_cons.1 hr).resolve_left (fun z=>e z.symm)) h1 h2 fun c hc=>hu c (List.mem_cons_of_mem _ hc)];rfl
theorem pe_same {x y:Rat} (hxy:x<y):∀B:List Rat,(∀b,b∈B→b<x∨y<b)→0<pe B x*pe B y
  |[],_=>by show (0:Rat)<1*1;decide +kernel
  |b :: B,h=>by
    have ih:=pe_same hxy B fun c hc=>h c (List.mem_cons_of_mem _ hc)
    have hb:0<(x - b)*(y - b):=by
      rcases h b List.mem_cons_self with k|k
      · exact pos_mul (by grind) (by grind)
      · have := pos_mul (show 0 < b - x by grind) (show 0 < b - y by grind)
        grind
    have:=pos_mul hb ih
    show 0<(x - b)*pe B x*((y - b)*pe B y)
    grind
theorem sturm_split {p L:List Rat} (hp:(cl p).length≠0) (hL:∀t,ev t p=pe L t):∃B c,c≠0∧(∀t,ev t (sqf p)=c*pe B t)∧B.Nodup∧(∀b,b∈B↔b∈L)∧∀x y,x<y→bt (sturm p) x y=cn B x y:=by
  obtain ⟨B,c,hc,hB,hN,hm⟩:=sqf_split hp hL
  refine ⟨B,c,hc,hB,hN,hm,fun x y hxy=> ?_⟩
  have hroot:∀b,b∈B→ev b (sqf p)=0:=fun b hb=>by rw [hB b,(pe_zero b B).2 hb];grind
  have hback:∀t,ev t (sqf p)=0→t∈B:=fun t ht=>by
    rw [hB t] at ht
    rcases Rat.mul_eq_zero.1 ht with z|z
    · exact absurd z hc
    · exact (pe_zero t B).1 z
  unfold bt
  rcases sturm_chn hp with ⟨d,hd,hdd,hs⟩|⟨T,hs,hch⟩
  · have hv:∀z,vr (sturm p) z=0:=fun z=>by
      rw [hs]
      unfold vr
      rw [va_cons]
      split
      · rfl
      · show (if (0 : Int) * _ < 0 then _ else (0 : Int)) = 0
        rw [Int.zero_mul,if_neg (by decide)]
    rw [hv,hv,cn_zero fun b hb _=>by have:=hroot b hb;rw [hdd b] at this;exact hd this]
    rfl
  · rw [hs]
    obtain ⟨R,hR,hx,hy⟩:∃R,0≤R∧le2 x R∧le2 y R:=⟨qabs x+qabs y,by
      have:=le2_nonneg (le2_abs x);have:=le2_nonneg (le2_abs y);grind,le2_mono (le2_abs x) (by have:=le2_nonneg (le2_abs y);grind),le2_mono (le2_abs y) (by have:=le2_nonneg (le2_abs x);grind)⟩
    obtain ⟨h,hh,hstep⟩:=step hch hR
    generalize hSS:sqf p :: der (sqf p) :: T=SS at*
    refine walk (P:=fun x y=>vr SS x - vr SS y=cn B x y) hh (fun x y hx hy hxy hle=> ?_) (fun x z y a b k1 k2=>by rw [cn_add a b];omega) x y hx hy hxy
    rcases hstep x y hx hy hxy hle with ⟨-,hz,hv⟩|⟨hmono,hv⟩|⟨hmono,hv⟩
    · rw [cn_zero fun b hb k=>hz b (by grind) k.2 (hroot b hb)];omega
    · rw [hv]
      by_cases hr:∃r,r∈B∧x<r∧r≤y
      · obtain ⟨r, hrB, h1, h2⟩ := hr
        have e0:=hroot r hrB
        rw [cn_one hN hrB h1 h2 fun b hb b1 b2=>by
          have e1:=hroot b hb
          rcases (show b<r∨b=r∨r<b by grind) with q|q|q
          · have:=hmono b r (by grind) q h2;grind
          · exact q
          · have:=hmono r b (by grind) q b2;grind]
        have hx0:ev x (sqf p)<0:=by have:=hmono x r (by grind) h1 h2;grind
        have hy0:¬ev y (sqf p)<0:=by
          rcases (show r=y∨r<y by grind) with q|q
          · rw [← q,e0];grind
          · have:=hmono r y (by grind) q (by grind);grind
        unfold b2
        rw [if_pos hx0,if_neg hy0];rfl
      · rw [cn_zero fun b hb k => hr ⟨b, hb, k.1, k.2⟩]
        have hm2:=hmono x y (by grind) hxy (by grind)
        have:ev x (sqf p)<0↔ev y (sqf p)<0:=by
          constructor
          · intro hx0
            refine Rat.not_le.1 fun k=> ?_
            rcases (show ev y (sqf p)=0∨0<ev y (sqf p) by grind) with q|q
            · exact hr ⟨y,hback y q,hxy,by grind⟩
            · have:=pe_same hxy B fun b hb=>by
                rcases (show b<x∨b=x∨x<b by grind) with w|w|w
                · exact .inl w
                · have:=hroot b hb;rw [w] at this;grind
                · exact .inr (Rat.not_le.1 fun z=>hr ⟨b,hb,w,z⟩)
              have h3:=pos_mul (show 0< -(ev x (sqf p)) by grind) q
              rw [hB x,hB y] at h3
              have h4:0≤c*c:=by
                rcases (show 0≤c∨c≤0 by grind) with w|w
                · exact Rat.mul_nonneg w w
                · have:=Rat.mul_nonneg (show 0≤ -c by grind) (show 0≤ -c by grind);grind
              have:=Rat.mul_nonneg h4 (show 0≤pe B x*pe B y by grind)
              grind
          · intro hy0;grind
        unfold b2
        by_cases q:ev x (sqf p)<0
        · rw [if_pos q,if_pos (this.1 q)];rfl
        · rw [if_neg q,if_neg (fun z=>q (this.2 z))];rfl
    · rw [hv]
      by_cases hr:∃r,r∈B∧x<r∧r≤y
      · obtain ⟨r, hrB, h1, h2⟩ := hr
        have e0:=hroot r hrB
        rw [cn_one hN hrB h1 h2 fun b hb b1 b2=>by
          have e1:=hroot b hb
          rcases (show b<r∨b=r∨r<b by grind) with q|q|q
          · have:=hmono b r (by grind) q h2;grind
          · exact q
          · have:=hmono r b (by grind) q b2;grind]
        have hx0:0<ev x (sqf p):=by have:=hmono x r (by grind) h1 h2;grind
        have hy0:¬0<ev y (sqf p):=by
          rcases (show r=y∨r<y by grind) with q|q
          · rw [← q,e0];grind
          · have:=hmono r y (by grind) q (by grind);grind
        unfold b2
        rw [if_pos hx0,if_neg hy0];rfl
      · rw [cn_zero fun b hb k => hr ⟨b, hb, k.1, k.2⟩]
        have hm2:=hmono x y (by grind) hxy (by grind)
        have:0<ev x (sqf p)↔0<ev y (sqf p):=by
          constructor
          · intro hx0
            refine Rat.not_le.1 fun k=> ?_
            rcases (show ev y (sqf p)=0∨ev y (sqf p)<0 by grind) with q|q
            · exact hr ⟨y,hback y q,hxy,by grind⟩
            · have:=pe_same hxy B fun b hb=>by
                rcases (show b<x∨b=x∨x<b by grind) with w|w|w
                · exact .inl w
                · have:=hroot b hb;rw [w] at this;grind
                · exact .inr (Rat.not_le.1 fun z=>hr ⟨b,hb,w,z⟩)
              have h3:=pos_mul hx0 (show 0< -(ev y (sqf p)) by grind)
              rw [hB x,hB y] at h3
              have h4:0≤c*c:=by
                rcases (show 0≤c∨c≤0 by grind) with w|w
                · exact Rat.mul_nonneg w w
                · have:=Rat.mul_nonneg (show 0≤ -c by grind) (show 0≤ -c by grind);grind
              have:=Rat.mul_nonneg h4 (show 0≤pe B x*pe B y by grind)
              grind
          · intro hy0;grind
        unfold b2
        by_cases q:0<ev x (sqf p)
        · rw [if_pos q,if_pos (this.1 q)];rfl
        · rw [if_neg q,if_neg (fun z=>q (this.2 z))];rfl
end Go.Proofs.YtbiaimgafknkmaaGreat.Po
namespace Go.Proofs.YtbiaimgafknkmaaGreat.Po
open Go.Proofs.YtbiaimgafknkmaaGreat.Big
theorem cn_append (x y:Rat):∀A B:List Rat,cn (A++B) x y=cn A x y+cn B x y
  |[],B=>by show _=0+_;rw [Int.zero_add];rfl
  |a :: A,B=>by
    show _+cn (A++B) x y=_+cn A x y+_
    rw [cn_append x y A B];omega
theorem cn_same (x y:Rat):∀B C:List Rat,B.Nodup→C.Nodup→(∀b,b∈B↔b∈C)→cn B x y=cn C x y
  |[],C,_,_,h=>by
    cases C with
    |nil=>rfl
    |cons c C=>exact absurd ((h c).2 List.mem_cons_self) (by simp)
  |b :: B,C,hB,hC,h=>by
    obtain ⟨n1,n2⟩:=List.nodup_cons.1 hB
    obtain ⟨C1,C2,rfl⟩:=List.append_of_mem ((h b).1 List.mem_cons_self)
    have hC':(b :: (C1++C2)).Nodup:=(List.perm_middle.nodup_iff).1 hC
    obtain ⟨m1,m2⟩:=List.nodup_cons.1 hC'
    have ih:=cn_same x y B (C1++C2) n2 m2 fun c=>by
      have:=h c
      simp only [List.mem_cons,List.mem_append] at this ⊢
      constructor
      · intro hc
        rcases this.1 (.inr hc) with q|q|q
        · exact .inl q
        · subst q;exact absurd hc n1
        · exact .inr q
      · intro hc
        have hcb:c≠b:=fun e=>m1 (by subst e;exact List.mem_append.2 hc)
        rcases this.2 (hc.elim .inl (fun q=> .inr (.inr q))) with q|q
        · exact absurd q hcb
        · exact q
    rw [cn_append]
    show _+cn B x y=cn C1 x y+(_+cn C2 x y)
    rw [ih,cn_append];omega
def sel (l:List Rat) (x y:Rat):List Rat:=l.filter (fun r=>decide (x<r∧r≤y))
theorem sel_len (x y:Rat):∀l:List Rat,((sel l x y).length:Int)=cn l x y
  |[]=>rfl
  |r :: l=>by
    unfold sel cn
    rw [List.filter_cons]
    split
    · rename_i h
      rw [if_pos (of_decide_eq_true h),List.length_cons]
      have:=sel_len x y l
      unfold sel at this
      omega
    · rename_i h
      rw [if_neg (fun k=>h (decide_eq_true k))]
      have:=sel_len x y l
      unfold sel at this
      omega
def asc:List Rat→Prop
  |[]=>True
  |[_]=>True
  |a :: b :: l=>a<b∧asc (b :: l)
theorem asc_tail {a:Rat} {l:List Rat} (h:asc (a :: l)):asc l:=by
  cases l with
  |nil=>trivial
  |cons b l=>exact h.2
theorem asc_lt:∀{a:Rat} {l:List Rat},asc (a :: l)→∀b,b∈l→a<b
  |_,[],_,b,hb=>by cases hb
  |a,c :: l,h,b,hb=>by
    rcases List.mem_cons.1 hb with rfl|hb
    · exact h.1
    · have:=asc_lt h.2 b hb;have:=h.1;grind
theorem asc_nodup:∀{l:List Rat},asc l→l.Nodup
  |[],_=>List.nodup_nil
  |a :: l,h=>List.nodup_cons.2 ⟨fun k=>by have:=asc_lt h a k;grind,asc_nodup (asc_tail h)⟩
theorem sel_split {x z y:Rat} (h1:x<z) (h2:z<y):∀{l:List Rat},asc l→sel l x y=sel l x z++sel l z y
  |[],_=>rfl
  |r :: l,h=>by
    have ih:=sel_split h1 h2 (asc_tail h)
    unfold sel at*
    rw [List.filter_cons,List.filter_cons,List.filter_cons]
    by_cases a1:r≤z
    · rw [show decide (x < r ∧ r ≤ y) = decide (x < r ∧ r ≤ z) from decide_eq_decide.2 ⟨fun k => ⟨k.1, a1⟩, fun k => ⟨k.1, by grind⟩⟩, decide_eq_false (p := z < r ∧ r ≤ y) (fun k => by grind)]
      split
      · rw [ih];rfl
      · rw [ih];rfl
    · -- nothing of the rest lies at the left
      have e0:l.filter (fun r=>decide (x<r∧r≤z))=[]:=List.filter_eq_nil_iff.2 fun b hb k=>by
        have:=asc_lt h b hb
        have:=(of_decide_eq_true k).2
        grind
      rw [e0] at ih ⊢
      rw [decide_eq_false (p:=x<r∧r≤z) (fun k=>a1 k.2)]
      rw [show decide (x<r∧r≤y)=decide (z<r∧r≤y) from decide_eq_decide.2 ⟨fun k=>⟨by grind,k.2⟩,fun k=>⟨by grind,k.2⟩⟩,ih]
      rfl
def dy (β:Rat) (j:Nat) (x:Rat):Prop:=∃k:Int,x*((2^j:Nat):Rat)=β*(k:Rat)∧ -((2^j:Nat):Int)≤k∧k≤((2^j:Nat):Int)
theorem two_pow (j:Nat):(((2^(j+1):Nat)):Rat)=2*((2^j:Nat):Rat):=by
  have:2^(j+1)=2*2^j:=by rw [Nat.pow_succ,Nat.mul_comm]
  rw [this]
  exact_mod_cast rfl
theorem dy_mid {β x y:Rat} {j:Nat} (hx:dy β j x) (hy:dy β j y):dy β (j+1) (mid x y):=by
  obtain ⟨k,h1,h2,h3⟩:=hx
  obtain ⟨l,h4,h5,h6⟩:=hy
  refine ⟨k+l,?_,?_,?_⟩
  · rw [two_pow, Rat.intCast_add]
    unfold mid
    have e:Rat.divInt 1 2=1 / 2:=by decide +kernel
    rw [e]
    grind
  · have : 2 ^ (j + 1) = 2 * 2 ^ j := by rw [Nat.pow_succ, Nat.mul_comm]
    omega
  · have : 2 ^ (j + 1) = 2 * 2 ^ j := by rw [Nat.pow_succ, Nat.mul_comm]
    omega
theorem dy_next {β x:Rat} {j:Nat} (hx:dy β j x):dy β (j+1) x:=by
  obtain ⟨k,h1,h2,h3⟩:=hx
  have:2^(j+1)=2*2^j:=by rw [Nat.pow_succ,Nat.mul_comm]
  refine ⟨2*k,?_,by omega,by omega⟩
  rw [two_pow,Rat.intCast_mul]
  have:((2:Int):Rat)=2:=by decide +kernel
  rw [this];grind
theorem dy_hq {β x:Rat} {j:Nat} (hx:dy β j x) (hj:j≤45):hq x≤hq β+3:=by
  obtain ⟨k,h1,h2,h3⟩:=hx
  have hp:2^j≤2^45:=Nat.pow_le_pow_right (by decide) hj
  have h45:2^45=35184372088832:=by decide
  have hpos:0<2^j:=Nat.pow_pos (by decide)
  have hd:(((2^j:Nat):Int))≠0:=by omega
  have hk:hq (Rat.divInt k ((2^j:Nat):Int))≤3:=by
    have:=hq_divInt (n:=k) hd
    have:=zdd (z:=k) (by omega) (by omega)
    have:=zdd (z:=((2^j:Nat):Int)) (by omega) (by omega)
    omega
  have e:x=β*Rat.divInt k ((2^j:Nat):Int):=by
    rw [Rat.divInt_eq_div]
    have hc:((((2^j:Nat):Int)):Rat)≠0:=cast_ne hd
    have h4:x*((((2^j:Nat):Int)):Rat)=β*(k:Rat):=by exact_mod_cast h1
    have h5:=Rat.div_mul_cancel (a:=(k:Rat)) hc
    have h6:(x - β*((k:Rat) / ((((2^j:Nat):Int)):Rat)))*((((2^j:Nat):Int)):Rat)=0:=by
      rw [sub_mul',h4,Rat.mul_assoc,h5];grind
    rcases Rat.mul_eq_zero.1 h6 with z|z
    · grind
    · exact absurd z hc
  rw [e]
  have:=hq_mul β (Rat.divInt k ((2^j:Nat):Int))
  omega
def fit1 (S:List (List Rat)) (β:Rat) (J:Nat) (I:Rat×Rat) (r:Rat):Prop:=I.1<r∧r≤I.2∧bt S I.1 I.2=1∧∃j,j≤J∧dy β j I.1∧dy β j I.2
def fit (S:List (List Rat)) (β:Rat) (J:Nat):List (Rat×Rat)→List Rat→Prop
  |[],[]=>True
  |I :: Is,r :: rs=>fit1 S β J I r∧fit S β J Is rs
  |_,_=>False
theorem fit_append {S:List (List Rat)} {β:Rat} {J:Nat}:∀{A:List (Rat×Rat)} {B:List Rat} {C:List (Rat×Rat)} {D:List Rat},fit S β J A B→fit S β J C D→fit S β J (A++C) (B++D)
  |[],[],_,_,_,h=>h
  |_ :: _,_ :: _,_,_,h,k=>⟨h.1,fit_append h.2 k⟩
  |[],_ :: _,_,_,h,_=>h.elim
  |_ :: _,[],_,_,h,_=>h.elim
theorem fit_len {S:List (List Rat)} {β:Rat} {J:Nat}:∀{A:List (Rat×Rat)} {B:List Rat},fit S β J A B→A.length=B.length
  |[],[],_=>rfl
  |_ :: _,_ :: _,h=>congrArg (· +1) (fit_len h.2)
  |[],_ :: _,h=>h.elim
  |_ :: _,[],h=>h.elim
theorem fit_get {S:List (List Rat)} {β:Rat} {J:Nat}:∀{A:List (Rat×Rat)} {B:List Rat},fit S β J A B→∀i,i<B.length→fit1 S β J (A.getD i (0,0)) (B.getD i 0)
  |[],[],_,i,hi=>by simp at hi
  |_ :: _,_ :: _,h,0,_=>h.1
  |_ :: A,_ :: B,h,i+1,hi=>fit_get (A:=A) (B:=B) h.2 i (by simpa using hi)
  |[],_ :: _,h,_,_=>h.elim
  |_ :: _,[],h,_,_=>h.elim
theorem iso_fit {S:List (List Rat)} {l:List Rat} {β:Rat} {J:Nat} (hl:asc l) (hb:∀x y,x<y→bt S x y=cn l x y):∀(n j:Nat) (x y:Rat),x<y→dy β j x→dy β j y→j+n≤J+1→isT S n x y=true→fit S β J (iso S n x y) (sel l x y)
  |0,_,_,_,_,_,_,_,h=>by cases h
  |n+1,j,x,y,hxy,hx,hy,hj,h=>by
    have hlen:=sel_len x y l
    rw [← hb x y hxy] at hlen
    by_cases h0:bt S x y=0
    · rw [iso_none h0]
      have:sel l x y=[]:=List.length_eq_zero_iff.1 (by omega)
      rw [this];trivial
    · by_cases h1 : bt S x y = 1
      · rw [iso_one h1]
        have h2:(sel l x y).length=1:=by omega
        obtain ⟨r,hr⟩:=List.length_eq_one_iff.1 h2
        have hm:r∈sel l x y:=by rw [hr];exact List.mem_cons_self
        have:=of_decide_eq_true (List.mem_filter.1 hm).2
        rw [hr]
        exact ⟨⟨this.1,this.2,h1,j,by omega,hx,hy⟩,trivial⟩
      · obtain ⟨m1, m2⟩ := mid_lt hxy
        rw [iso_more h0 h1,sel_split m1 m2 hl]
        unfold isT at h
        rw [decide_eq_false h0,decide_eq_false h1,Bool.false_or,Bool.false_or,Bool.and_eq_true] at h
        exact fit_append (iso_fit hl hb n (j+1) x (mid x y) m1 (dy_next hx) (dy_mid hx hy) (by omega) h.1) (iso_fit hl hb n (j+1) (mid x y) y m2 (dy_mid hx hy) (dy_next hy) (by omega) h.2)
theorem isk_dy {S:List (List Rat)} {β:Rat} (hS:∀q,q∈S→q.length≤10∧bd 7000000000 q) (hβ:hq β≤1000):∀(n j:Nat) (x y:Rat),dy β j x→dy β j y→j+n≤46→isT S n x y=true→isk S n x y
  |0,_,_,_,_,_,_,h=>by cases h
  |n+1,j,x,y,hx,hy,hj,h=>by
    have h1:=dy_hq hx (by omega)
    have h2:=dy_hq hy (by omega)
    refine ⟨⟨by omega,by omega,vok_of (K:=7000000000) (M:=10000000000) (by omega) hS (by decide) (by decide),vok_of (K:=7000000000) (M:=10000000000) (by omega) hS (by decide) (by decide)⟩,fun h0 h1=> ?_⟩
    unfold isT at h
    rw [decide_eq_false h0,decide_eq_false h1,Bool.false_or,Bool.false_or,Bool.and_eq_true] at h
    exact ⟨isk_dy hS hβ n (j+1) x (mid x y) (dy_next hx) (dy_mid hx hy) (by omega) h.1,isk_dy hS hβ n (j+1) (mid x y) y (dy_mid hx hy) (dy_next hy) (by omega) h.2⟩
theorem isT_of {S:List (List Rat)} {l:List Rat} (hl:asc l) (hd:∀a b,a∈l→b∈l→a<b→1 / 4≤b - a) (hb:∀x y,x<y→bt S x y=cn l x y):∀(n:Nat) (x y:Rat),x<y→(y - x)*4<((2^n:Nat):Rat)→isT S (n+1) x y=true
  |0,x,y,hxy,hw=>by
    have e:((2^0:Nat):Rat)=1:=by decide +kernel
    rw [e] at hw
    have hle:bt S x y≤1:=by
      rw [hb x y hxy]
      by_cases hr:∃r,r∈l∧x<r∧r≤y
      · obtain ⟨r, hrl, h1, h2⟩ := hr
        rw [cn_one (asc_nodup hl) hrl h1 h2 fun b hbl b1 b2=>by
          rcases (show b<r∨b=r∨r<b by grind) with q|q|q
          · have:=hd b r hbl hrl q;grind
          · exact q
          · have:=hd r b hrl hbl q;grind]
        exact Int.le_refl 1
      · rw [cn_zero fun b hbl k=>hr ⟨b,hbl,k.1,k.2⟩];decide
    have hge:0≤bt S x y:=by rw [hb x y hxy,←sel_len];omega
    unfold isT
    rcases (show bt S x y=0∨bt S x y=1 by omega) with q|q <;> simp [q]
  |n+1,x,y,hxy,hw=>by
    obtain ⟨m1,m2⟩:=mid_lt hxy
    have e:mid x y=(x+y)*(1 / 2):=by
      unfold mid
      rw [show Rat.divInt 1 2=1 / 2 by decide +kernel]
    have e1:(mid x y - x)*4<((2^n:Nat):Rat):=by rw [two_pow] at hw;rw [e];grind
    have e2:(y - mid x y)*4<((2^n:Nat):Rat):=by rw [two_pow] at hw;rw [e];grind
    unfold isT
    rw [isT_of hl hd hb n x (mid x y) m1 e1,isT_of hl hd hb n (mid x y) y m2 e2]
    simp
theorem rf_root {S:List (List Rat)} {l:List Rat} {r:Rat} (hl:asc l) (hb:∀x y,x<y→bt S x y=cn l x y) (hr:r∈l):∀(n:Nat) (x y:Rat),x<r→r≤y→bt S x y=1→(rf S n x y).1<r∧r≤(rf S n x y).2∧∀b,b∈l→(rf S n x y).1<b→b≤(rf S n x y).2→b=r
  |0,x,y,h1,h2,h3=>by
    refine ⟨h1,h2,fun b hbl b1 b2=> ?_⟩
    have hlen:=sel_len x y l
    rw [← hb x y (by grind),h3] at hlen
    obtain ⟨q,hq⟩:=List.length_eq_one_iff.1 (show (sel l x y).length=1 by omega)
    have m1:r∈sel l x y:=List.mem_filter.2 ⟨hr,decide_eq_true ⟨h1,h2⟩⟩
    have m2:b∈sel l x y:=List.mem_filter.2 ⟨hbl,decide_eq_true ⟨b1,b2⟩⟩
    rw [hq] at m1 m2
    rw [List.mem_singleton.1 m1,List.mem_singleton.1 m2]
  |n+1,x,y,h1,h2,h3=>by
    have hxy:x<y:=by grind
    obtain ⟨m1,m2⟩:=mid_lt hxy
    have hsum:bt S x (mid x y)+bt S (mid x y) y=1:=by
      rw [hb _ _ m1,hb _ _ m2,←cn_add m1 m2,←hb _ _ hxy,h3]
    have hge:∀a b,a<b→0≤bt S a b:=fun a b hab=>by rw [hb a b hab,←sel_len];omega
    have hin:∀a b,a<b→a<r→r≤b→1≤bt S a b:=fun a b hab k1 k2=>by
      rw [hb a b hab,←sel_len]
      have:r∈sel l a b:=List.mem_filter.2 ⟨hr,decide_eq_true ⟨k1,k2⟩⟩
      have:=List.length_pos_of_mem this
      omega
    unfold rf
    split
    · rename_i h
      have hrm:r≤mid x y:=Rat.not_lt.1 fun k=>by
        have:=hin (mid x y) y m2 k h2
        omega
      exact rf_root hl hb hr n x (mid x y) h1 hrm h
    · rename_i h
      have h0:=hge x (mid x y) m1
      have hrm:mid x y<r:=Rat.not_le.1 fun k=>by
        have:=hin x (mid x y) m1 h1 k
        have:=hge (mid x y) y m2
        omega
      have:bt S (mid x y) y=1:=by
        have:=hin (mid x y) y m2 hrm h2
        omega
      exact rf_root hl hb hr n (mid x y) y hrm h2 this
theorem bm_ge {P:List Rat}:∀{k i:Nat},i<k→qabs (P.getD i 0 / lead P)≤bm P k
  |k+1,i,h=>by
    unfold bm
    by_cases e:i=k
    · subst e
      split
      · grind
      · rename_i q;exact Rat.not_lt.1 q
    · have := bm_ge (P := P) (k := k) (i := i) (by omega)
      split
      · rename_i q;grind
      · exact this
theorem bm_le {P:List Rat} {M:Rat} (hM:0≤M):∀k,(∀i,i<k→qabs (P.getD i 0 / lead P)≤M)→bm P k≤M
  |0,_=>by
    have e:((0:Int):Rat)=0:=by decide +kernel
    show ((0:Int):Rat)≤M
    rw [e];exact hM
  |k+1,h=>by
    unfold bm
    split
    · exact h k (by omega)
    · exact bm_le hM k fun i hi=>h i (by omega)
theorem horner {M t:Rat} (hM:0≤M) (ht:¬le2 t (M+1)∨t=M+1∨t= -(M+1)):∀l:List Rat,l≠[]→l.getD (l.length - 1) 0=1→(∀i,i<l.length - 1→le2 (l.getD i 0) M)→1≤ev t l∨ev t l≤ -1
  |[],h,_,_=>absurd rfl h
  |[a],_,h,_=>by
    have e:ev t [a]=0*t+a:=rfl
    have h1:a=1:=h
    refine .inl ?_
    rw [e,h1];grind
  |a :: b :: l,_,h,hc=>by
    have ih:=horner hM ht (b :: l) (by simp) (by simpa using h) fun i hi=>by
      have:=hc (i+1) (by simp at hi ⊢;omega)
      simpa using this
    have ha:le2 a M:=hc 0 (by simp)
    have e:ev t (a :: b :: l)=ev t (b :: l)*t+a:=rfl
    rw [e]
    have hT:M+1≤t∨t≤ -(M+1):=by
      rcases ht with q|q|q
      · unfold le2 at q
        by_cases z: -(M+1)≤t
        · exact .inl (by grind)
        · exact .inr (by grind)
      · exact .inl (by grind)
      · exact .inr (by grind)
    unfold le2 at ha
    rcases ih with q|q <;> rcases hT with z|z
    · have := Rat.mul_nonneg (show 0 ≤ ev t (b :: l) - 1 by grind) (show 0 ≤ t by grind)
      exact .inl (by grind)
    · have := Rat.mul_nonneg (show 0 ≤ ev t (b :: l) - 1 by grind) (show 0 ≤ -t by grind)
      exact .inr (by grind)
    · have := Rat.mul_nonneg (show 0 ≤ -(ev t (b :: l)) - 1 by grind) (show 0 ≤ t by grind)
      exact .inr (by grind)
    · have := Rat.mul_nonneg (show 0 ≤ -(ev t (b :: l)) - 1 by grind) (show 0 ≤ -t by grind)
      exact .inl (by grind)
end Go.Proofs.YtbiaimgafknkmaaGreat.Po
namespace Go.Proofs.YtbiaimgafknkmaaGreat.Po
open Go.Proofs.YtbiaimgafknkmaaGreat.Big
def md (q:Int):Int:=q.tmod 80
theorem md_rng (q:Int): -79≤md q∧md q≤79:=by
  unfold md
  have h1:=Int.tmod_lt_of_pos q (show (0:Int)<80 by decide)
  have h2:=Int.tmod_lt_of_pos (-q) (show (0:Int)<80 by decide)
  rw [Int.neg_tmod] at h2
  omega
def fc (n:Int):List Rat:=[Rat.divInt (-n) 4,((1:Int):Rat)]
def pqn (l:List Int):Nat→List Rat
  |0=>ofL [1]
  |k+1=>mul (pqn l k) (fc (md (l.getD k 0)))
def ps (n:Int):List Int→Nat
  |[]=>0
  |a :: l=>if a<n then ps n l+1 else 0
def ins (n:Int) (R:List Int):List Int:=if ps n R=R.length∨R.getD (ps n R) 0≠n then R.take (ps n R)++([n]++R.drop (ps n R)) else R
def rsn (l:List Int):Nat→List Int
  |0=>[]
  |k+1=>ins (md (l.getD k 0)) (rsn l k)
theorem ps_yes {n:Int}:∀{R:List Int} {a:Nat},a<R.length→R.getD a 0<n→ps n (R.drop a)=ps n (R.drop (a+1))+1:=by
  intro R a h k
  have e:R.drop a=R.getD a 0 :: R.drop (a+1):=by
    rw [List.getD_eq_getElem?_getD,List.getElem?_eq_getElem h]
    exact List.drop_eq_getElem_cons h
  rw [e]
  conv=>lhs;unfold ps
  rw [if_pos k]
theorem ps_no {n:Int} {R:List Int} {a:Nat} (h:¬(a<R.length∧R.getD a 0<n)):ps n (R.drop a)=0:=by
  by_cases k:a<R.length
  · have e:R.drop a=R.getD a 0 :: R.drop (a+1):=by
      rw [List.getD_eq_getElem?_getD,List.getElem?_eq_getElem k]
      exact List.drop_eq_getElem_cons k
    rw [e]
    unfold ps
    rw [if_neg (fun q=>h ⟨k,q⟩)]
  · rw [List.drop_eq_nil_of_le (by omega)];rfl
def ascZ:List Int→Prop
  |[]=>True
  |[_]=>True
  |a :: b :: l=>a<b∧ascZ (b :: l)
def ins2 (n:Int):List Int→List Int
  |[]=>[n]
  |a :: l=>if a<n then a :: ins2 n l else if a=n then a :: l else n :: a :: l
theorem ins_eq (n:Int):∀R:List Int,ins n R=ins2 n R
  |[]=>rfl
  |a :: l=>by
    have ih:=ins_eq n l
    by_cases h:a<n
    · have e : ps n (a :: l) = ps n l + 1 := if_pos h
      have e2:ins2 n (a :: l)=a :: ins2 n l:=if_pos h
      rw [e2,←ih]
      unfold ins
      rw [e]
      simp only [List.length_cons,List.take_succ_cons,List.drop_succ_cons,List.getD_cons_succ]
      by_cases k:ps n l=l.length∨l.getD (ps n l) 0≠n
      · rw [if_pos k,if_pos (by rcases k with k|k;exact .inl (by omega);exact .inr k)];rfl
      · rw [if_neg k,if_neg (fun q=>k (by rcases q with q|q;exact .inl (by omega);exact .inr q))]
    · have e : ps n (a :: l) = 0 := if_neg h
      unfold ins ins2
      rw [if_neg h,e]
      by_cases k:a=n
      · rw [if_pos k,if_neg (fun q=>by rcases q with q|q;simp at q;exact q k)]
      · rw [if_neg k,if_pos (.inr k)];rfl
theorem ins2_mem (n b:Int):∀R:List Int,b∈ins2 n R↔b=n∨b∈R
  |[]=>by simp [ins2]
  |a :: l=>by
    unfold ins2
    split
    · rw [List.mem_cons, ins2_mem n b l, List.mem_cons]
      constructor
      · rintro (h|h|h);exact .inr (.inl h);exact .inl h;exact .inr (.inr h)
      · rintro (h|h|h);exact .inr (.inl h);exact .inl h;exact .inr (.inr h)
    · split
      · rename_i e; subst e
        rw [List.mem_cons]
        constructor
        · intro h;exact .inr h
        · rintro (h|h);exact .inl h;exact h
      · rw [List.mem_cons]
theorem ins2_head {n a:Int} (h:a<n):∀{R:List Int},ascZ (a :: R)→ascZ (a :: ins2 n R)
  |[],_=>⟨h,trivial⟩
  |b :: l,hR=>by
    unfold ins2
    split
    · rename_i hb;exact ⟨hR.1,ins2_head hb hR.2⟩
    · split
      · exact hR
      · exact ⟨h,by omega,hR.2⟩
theorem ins2_asc (n:Int):∀{R:List Int},ascZ R→ascZ (ins2 n R)
  |[],_=>trivial
  |a :: l,hR=>by
    unfold ins2
    split
    · rename_i h;exact ins2_head h hR
    · split
      · exact hR
      · exact ⟨by omega,hR⟩
theorem ins2_len (n:Int):∀R:List Int,(ins2 n R).length≤R.length+1
  |[]=>Nat.le_refl _
  |a :: l=>by
    unfold ins2
    split
    · have:=ins2_len n l;simp;omega
    · split <;> simp
theorem rsn_len (l:List Int):∀k,(rsn l k).length≤k
  |0=>Nat.le_refl _
  |k+1=>by
    unfold rsn
    rw [ins_eq]
    have:=ins2_len (md (l.getD k 0)) (rsn l k)
    have:=rsn_len l k
    omega
theorem rsn_asc (l:List Int):∀k,ascZ (rsn l k)
  |0=>trivial
  |k+1=>by unfold rsn;rw [ins_eq];exact ins2_asc _ (rsn_asc l k)
theorem rsn_rng (l:List Int):∀k b,b∈rsn l k→ -79≤b∧b≤79
  |0,_,h=>by cases h
  |k+1,b,h=>by
    unfold rsn at h
    rw [ins_eq,ins2_mem] at h
    rcases h with h|h
    · rw [h];exact md_rng _
    · exact rsn_rng l k b h
def q4 (n:Int):Rat:=Rat.divInt n 4
theorem q4_eq (n:Int):q4 n=(n:Rat) / 4:=by
  unfold q4
  rw [Rat.divInt_eq_div]
  rfl
theorem q4_lt {a b:Int} (h:a<b):q4 a<q4 b∧1 / 4≤q4 b - q4 a:=by
  rw [q4_eq,q4_eq]
  have:((a+1:Int):Rat)≤(b:Rat):=by exact_mod_cast h
  rw [Rat.intCast_add] at this
  have e:((1:Int):Rat)=1:=by decide +kernel
  rw [e] at this
  constructor <;> grind
theorem q4_neg (n:Int):Rat.divInt (-n) 4= - q4 n:=by
  have:=q4_eq (-n)
  unfold q4 at this
  rw [this,q4_eq,Rat.intCast_neg];grind
theorem asc_q4:∀{R:List Int},ascZ R→asc (R.map q4)
  |[],_=>trivial
  |[_],_=>trivial
  |a :: b :: l,h=>⟨(q4_lt h.1).1,asc_q4 (R:=b :: l) h.2⟩
def Lk (l:List Int):Nat→List Rat
  |0=>[]
  |k+1=>q4 (md (l.getD k 0)) :: Lk l k
theorem pqn_ev (l:List Int) (t:Rat):∀k,ev t (pqn l k)=pe (Lk l k) t
  | 0 => by show 0 * t + ((1 : Int) : Rat) = 1; have e : ((1 : Int) : Rat) = 1 := by decide +kernel
            rw [e];grind
  |k+1=>by
    show ev t (mul (pqn l k) (fc (md (l.getD k 0))))=(t - q4 (md (l.getD k 0)))*pe (Lk l k) t
    rw [ev_mul,pqn_ev l t k]
    have e:ev t (fc (md (l.getD k 0)))=(0*t+((1:Int):Rat))*t+Rat.divInt (-(md (l.getD k 0))) 4:=rfl
    have e1:((1:Int):Rat)=1:=by decide +kernel
    rw [e,q4_neg,e1];grind
theorem Lk_mem (l:List Int) (b:Rat):∀k,b∈Lk l k↔b∈(rsn l k).map q4
  |0=>by simp [Lk,rsn]
  |k+1=>by
    have ih:=Lk_mem l b k
    unfold Lk rsn
    rw [ins_eq,List.mem_cons,ih,List.mem_map,List.mem_map]
    constructor
    · rintro (h | ⟨n, h1, h2⟩)
      · exact ⟨_,(ins2_mem _ _ _).2 (.inl rfl),h.symm⟩
      · exact ⟨n,(ins2_mem _ _ _).2 (.inr h1),h2⟩
    · rintro ⟨n, h1, h2⟩
      rcases (ins2_mem _ _ _).1 h1 with q|q
      · exact .inl (by rw [← h2,q])
      · exact .inr ⟨n,q,h2⟩
theorem fc_get (P:List Rat) (n:Int) (i:Nat):(mul P (fc n)).getD i 0=P.getD i 0*Rat.divInt (-n) 4+(match i with|0=>0|j+1=>P.getD j 0):=by
  rw [mul_comm',mul_get]
  have e1:((1:Int):Rat)=1:=by decide +kernel
  cases i with
  |zero=>
    rw [C_zero]
    show Rat.divInt (-n) 4*P.getD 0 0=P.getD 0 0*Rat.divInt (-n) 4+0
    grind
  |succ j=>
    rw [C_succ]
    have e2:C (fun i=>(fc n).getD (i+1) 0) (P.getD · 0) j=P.getD j 0:=by
      have:∀i,(fc n).getD (i+1) 0=if i=0 then (1:Rat) else 0:=fun i=>by
        cases i with
        |zero=>show ((1:Int):Rat)=1;exact e1
        |succ i=>rfl
      have h:=co_mono 0 1 (P.getD · 0) j (j+1)
      unfold C
      rw [co_congr (f':=fun i=>if i=0 then (1:Rat) else 0) (g':=(P.getD · 0)) this (fun _=>rfl),h,if_pos (by omega)]
      show 1*P.getD (j - 0) 0=_
      rw [Nat.sub_zero];grind
    rw [e2]
    show Rat.divInt (-n) 4*P.getD (j+1) 0+P.getD j 0=P.getD (j+1) 0*Rat.divInt (-n) 4+P.getD j 0
    grind
def pqI (k:Nat) (P:List Rat):Prop:=cl P=P∧P.length=k+1∧P.getD k 0=1∧∀i,∃n:Int,P.getD i 0*(((4^k:Nat):Int):Rat)=(n:Rat)∧ -((84^k:Nat):Int)≤n∧n≤((84^k:Nat):Int)
theorem fc_cl (n:Int):cl (fc n)=fc n:=by
  unfold cl
  have e:tn (fc n) (fc n).length=2:=by
    show (if (fc n).getD 1 0=0 then _ else 2)=2
    rw [if_neg (by show ¬((1:Int):Rat)=0;decide +kernel)]
  rw [e];rfl
theorem pqI_of (l:List Int):∀k,pqI k (pqn l k)
  |0=>by
    have e1:((1:Int):Rat)=1:=by decide +kernel
    refine ⟨by show cl (ofL [1])=ofL [1];decide +kernel,rfl,by show ((1:Int):Rat)=1;exact e1,fun i=> ?_⟩
    cases i with
    |zero=>exact ⟨1,by show ((1:Int):Rat)*((((4^0:Nat):Int)):Rat)=_;decide +kernel,by decide,by decide⟩
    |succ i=>exact ⟨0,by show (0:Rat)*_=_;rw [Rat.zero_mul];rfl,by decide,by decide⟩
  |k+1=>by
    obtain ⟨h1,h2,h3,h4⟩:=pqI_of l k
    have hn:=md_rng (l.getD k 0)
    show pqI (k+1) (mul (pqn l k) (fc (md (l.getD k 0))))
    generalize md (l.getD k 0)=n at*
    generalize pqn l k=P at*
    refine ⟨mul_cl _ _,?_,?_,fun i=> ?_⟩
    · rw [mul_length h1 (fc_cl n) (by omega) (by simp [fc])]
      show P.length+2 - 1=_
      omega
    · rw [fc_get]
      show P.getD (k+1) 0*_+P.getD k 0=1
      rw [gD0 (by omega),h3];grind
    · have e4:(((4^(k+1):Nat):Int):Rat)=4*(((4^k:Nat):Int):Rat):=by
        have:4^(k+1)=4*4^k:=by rw [Nat.pow_succ,Nat.mul_comm]
        rw [this];exact_mod_cast rfl
      have e84:84^(k+1)=84*84^k:=by rw [Nat.pow_succ,Nat.mul_comm]
      obtain ⟨a,a1,a2,a3⟩:=h4 i
      obtain ⟨b,b1,b2,b3⟩:∃b:Int,(match i with|0=>(0:Rat)|j+1=>P.getD j 0)*(((4^k:Nat):Int):Rat)=(b:Rat)∧ -((84^k:Nat):Int)≤b∧b≤((84^k:Nat):Int):=by
        cases i with
        |zero=>exact ⟨0,by rw [Rat.zero_mul];rfl,by omega,by omega⟩
        |succ j=>exact h4 j
      refine ⟨a*(-n)+4*b,?_,?_,?_⟩
      · rw [fc_get, q4_neg, q4_eq, e4, Rat.intCast_add, Rat.intCast_mul, Rat.intCast_mul, Rat.intCast_neg, ← a1, ← b1]
        have:((4:Int):Rat)=4:=by decide +kernel
        rw [this];grind
      · have q1 := Int.mul_nonneg (show 0 ≤ ((84 ^ k : Nat) : Int) - a by omega) (show 0 ≤ 79 - n by omega)
        have q2:=Int.mul_nonneg (show 0≤((84^k:Nat):Int)+a by omega) (show 0≤79+n by omega)
        have q3:=Int.mul_nonneg (show 0≤((84^k:Nat):Int) - a by omega) (show 0≤79+n by omega)
        have q4:=Int.mul_nonneg (show 0≤((84^k:Nat):Int)+a by omega) (show 0≤79 - n by omega)
        rw [e84]
        have e:((84*84^k:Nat):Int)=84*((84^k:Nat):Int):=by omega
        rw [e]
        grind
      · have q1 := Int.mul_nonneg (show 0 ≤ ((84 ^ k : Nat) : Int) - a by omega) (show 0 ≤ 79 - n by omega)
        have q2:=Int.mul_nonneg (show 0≤((84^k:Nat):Int)+a by omega) (show 0≤79+n by omega)
        have q3:=Int.mul_nonneg (show 0≤((84^k:Nat):Int) - a by omega) (show 0≤79+n by omega)
        have q4:=Int.mul_nonneg (show 0≤((84^k:Nat):Int)+a by omega) (show 0≤79 - n by omega)
        rw [e84]
        have e:((84*84^k:Nat):Int)=84*((84^k:Nat):Int):=by omega
        rw [e]
        grind
theorem pqn_cb (l:List Int) {k:Nat} (hk:k≤4):cb 1 (pqn l k):=by
  obtain ⟨h1,h2,h3,h4⟩:=pqI_of l k
  have e4:4^k≤256:=Nat.le_trans (Nat.pow_le_pow_right (by decide) hk) (by decide)
  have p4:0<4^k:=Nat.pow_pos (by decide)
  have e84:84^k≤49787136:=Nat.le_trans (Nat.pow_le_pow_right (by decide) hk) (by decide)
  have hln:∀z:Int,-49787136≤z→z≤49787136→ln z≤1:=fun z a b=>by
    have:=zed (x:=z) (y:=49787136) (by omega)
    have e:ln 49787136=1:=by decide +kernel
    omega
  refine ⟨((4^k:Nat):Int),by omega,hln _ (by omega) (by omega),fun i=> ?_⟩
  obtain ⟨n,n1,n2,n3⟩:=h4 i
  exact ⟨n,hln _ (by omega) (by omega),n1⟩
theorem pqn_le2 (l:List Int) {k:Nat} (hk:k≤4) (i:Nat):le2 ((pqn l k).getD i 0) 49787136:=by
  obtain ⟨h1,h2,h3,h4⟩:=pqI_of l k
  obtain ⟨n,n1,n2,n3⟩:=h4 i
  have p4:1≤4^k:=Nat.pow_pos (by decide)
  have e84:84^k≤49787136:=Nat.le_trans (Nat.pow_le_pow_right (by decide) hk) (by decide)
  have h5:(1:Rat)≤(((4^k:Nat):Int):Rat):=by exact_mod_cast p4
  have h6:(n:Rat)≤49787136:=by
    have h:n≤49787136:=by omega
    have e:((49787136:Int):Rat)=49787136:=by decide +kernel
    rw [← e];exact Rat.intCast_le_intCast.2 h
  have h7: -49787136≤(n:Rat):=by
    have h: -49787136≤n:=by omega
    have e:((-49787136:Int):Rat)= -49787136:=by decide +kernel
    rw [← e];exact Rat.intCast_le_intCast.2 h
  generalize (pqn l k).getD i 0=x at*
  generalize (((4^k:Nat):Int):Rat)=d at*
  unfold le2
  constructor
  · refine Rat.not_lt.1 fun z => ?_
    have:=Rat.mul_nonneg (show 0≤ -x by grind) (show 0≤d - 1 by grind)
    grind
  · refine Rat.not_lt.1 fun z => ?_
    have:=Rat.mul_nonneg (show 0≤x by grind) (show 0≤d - 1 by grind)
    grind
theorem roots_law (l:List Int) {k:Nat} (hk:k≤4):∃β,bound (cl (pqn l k))=β∧hq β≤1000∧isT (sturm (pqn l k)) 30 (-β) β=true∧fit (sturm (pqn l k)) β 29 (iso (sturm (pqn l k)) 30 (-β) β) ((rsn l k).map q4)∧dy β 0 (-β)∧dy β 0 β
    ∧(∀x y,x<y→bt (sturm (pqn l k)) x y=cn ((rsn l k).map q4) x y)∧∀t,ev t (sqf (pqn l k))=0↔t∈(rsn l k).map q4:=by
  obtain ⟨h1,h2,h3,h4⟩:=pqI_of l k
  have hcb:=pqn_cb l hk
  have hle:=pqn_le2 l hk
  have hne:(cl (pqn l k)).length≠0:=by rw [h1];omega
  obtain ⟨B,c,hc,hB,hN,hm,hbt⟩:=sturm_split hne (pqn_ev l · k)
  have hasc:asc ((rsn l k).map q4):=asc_q4 (rsn_asc l k)
  have hmem:∀b,b∈B↔b∈(rsn l k).map q4:=fun b=>(hm b).trans (Lk_mem l b k)
  have hb:∀x y,x<y→bt (sturm (pqn l k)) x y=cn ((rsn l k).map q4) x y:=fun x y h=>by rw [hbt x y h];exact cn_same x y _ _ hN (asc_nodup hasc) hmem
  have hroot:∀t,ev t (sqf (pqn l k))=0↔t∈(rsn l k).map q4:=fun t=>by
    rw [hB t,←hmem,←pe_zero]
    constructor
    · intro z
      rcases Rat.mul_eq_zero.1 z with q|q
      · exact absurd q hc
      · exact q
    · intro z;rw [z];grind
  have hlead:lead (pqn l k)=1:=by unfold lead;rw [h2];exact h3
  have hl0:lead (pqn l k)≠0:=by rw [hlead];decide +kernel
  have hβ:hq (bound (pqn l k))≤1000:=Nat.le_trans (bound_hq (cb_bd hcb) hl0) (by decide)
  have hbm:bm (pqn l k) ((pqn l k).length - 1)≤49787136:=bm_le (by decide +kernel) _ fun i _=>by
    rw [hlead]
    have:=hle i
    have e:(pqn l k).getD i 0 / 1=(pqn l k).getD i 0:=by rw [Rat.div_def,show (1:Rat)⁻¹ =1 by decide +kernel,Rat.mul_one]
    rw [e]
    unfold le2 at this
    unfold qabs;split <;> grind
  have hbm0:0≤bm (pqn l k) ((pqn l k).length - 1):=by
    have:∀j,0≤bm (pqn l k) j:=by
      intro j
      induction j with
      |zero=>show (0:Rat)≤((0:Int):Rat);decide +kernel
      |succ j ih=>
        unfold bm
        split
        · rename_i q;grind
        · exact ih
    exact this _
  have e1:((1:Int):Rat)=1:=by decide +kernel
  have hbd:bound (pqn l k)=bm (pqn l k) ((pqn l k).length - 1)+1:=by unfold bound;rw [e1]
  have hout:∀t,t∈(rsn l k).map q4→ -(bound (pqn l k))<t∧t<bound (pqn l k):=fun t ht=>by
    have h0:ev t (pqn l k)=0:=by rw [pqn_ev,pe_zero];exact (Lk_mem l t k).2 ht
    refine Classical.byContradiction fun z=> ?_
    have hh:=horner (M:=bm (pqn l k) ((pqn l k).length - 1)) (t:=t) hbm0 (by
      rw [← hbd]
      by_cases q:le2 t (bound (pqn l k))
      · refine .inr ?_
        unfold le2 at q
        by_cases q2:t=bound (pqn l k)
        · exact .inl q2
        · exact .inr (by grind)
      · exact .inl q) (pqn l k) (fun e => by rw [e] at h2; simp at h2) (by rw [h2]; exact h3) fun i hi => by
        have:=bm_ge (P:=pqn l k) hi
        rw [hlead] at this
        have e:(pqn l k).getD i 0 / 1=(pqn l k).getD i 0:=by rw [Rat.div_def,show (1:Rat)⁻¹ =1 by decide +kernel,Rat.mul_one]
        rw [e] at this
        exact le2_mono (le2_abs _) this
    rw [h0] at hh
    rcases hh with q|q
    · exact absurd q (by decide +kernel)
    · exact absurd q (by decide +kernel)
  rw [h1]
  refine ⟨bound (pqn l k),rfl,hβ,?_⟩
  generalize bound (pqn l k)=β at*
  have hdy1 : dy β 0 (-β) := ⟨-1, by show _ * ((1 : Nat) : Rat) = _; rw [neg1]; have : ((1 : Nat) : Rat) = 1 := by decide +kernel
                                     rw [this];grind,by decide,by decide⟩
  have hdy2 : dy β 0 β := ⟨1, by show _ * ((1 : Nat) : Rat) = _; rw [e1]; have : ((1 : Nat) : Rat) = 1 := by decide +kernel
                                 rw [this],by decide,by decide⟩
  have hlt: -β<β:=by grind
  have hT:isT (sturm (pqn l k)) 30 (-β) β=true:=isT_of hasc (fun a b ha hb' hab=>by
    obtain ⟨m,hm1,rfl⟩:=List.mem_map.1 ha
    obtain ⟨n,hn1,rfl⟩:=List.mem_map.1 hb'
    have:m<n:=by
      rcases (show m<n∨m=n∨n<m by omega) with q|q|q
      · exact q
      · subst q;grind
      · have:=(q4_lt q).1;grind
    exact (q4_lt this).2) hb 29 (-β) β hlt (by
      have:((2^29:Nat):Rat)=536870912:=by decide +kernel
      rw [this];grind)
  refine ⟨hT,?_,hdy1,hdy2,hb,hroot⟩
  have hfit:=iso_fit (J:=29) hasc hb 30 0 (-β) β hlt hdy1 hdy2 (by decide) hT
  have hsel:sel ((rsn l k).map q4) (-β) β=(rsn l k).map q4:=List.filter_eq_self.2 fun r hr=>decide_eq_true (by have:=hout r hr;exact ⟨this.1,by grind⟩)
  rw [hsel] at hfit
  exact hfit
end Go.Proofs.YtbiaimgafknkmaaGreat.Po
namespace Go.Proofs.YtbiaimgafknkmaaGreat.Po
open Go.Proofs.YtbiaimgafknkmaaGreat.Big
def rq (S:List (List Rat)):Nat→Rat→Rat→Prop
  |0,a,b=>hq a≤100000∧hq b≤100000
  |n+1,a,b=>(hq a≤100000∧hq b≤100000)∧hq (mid a b)≤100000∧(bt S a (mid a b)=1→rq S n a (mid a b))∧(bt S a (mid a b)≠1→rq S n (mid a b) b)
theorem rq_mid {S:List (List Rat)} {n:Nat} {a b:Rat} (h:rq S n a b) (hn:0<n):hq (mid a b)≤100000:=by
  obtain ⟨m,rfl⟩:∃m,n=m+1:=⟨n - 1,by omega⟩
  exact h.2.1
theorem rq_yes {S:List (List Rat)} {n:Nat} {a b:Rat} (h:rq S n a b) (hn:0<n) (k:bt S a (mid a b)=1):rq S (n - 1) a (mid a b):=by
  obtain ⟨m,rfl⟩:∃m,n=m+1:=⟨n - 1,by omega⟩
  exact h.2.2.1 k
theorem rq_no {S:List (List Rat)} {n:Nat} {a b:Rat} (h:rq S n a b) (hn:0<n) (k:¬bt S a (mid a b)=1):rq S (n - 1) (mid a b) b:=by
  obtain ⟨m,rfl⟩:∃m,n=m+1:=⟨n - 1,by omega⟩
  exact h.2.2.2 k
theorem rq_dy {S:List (List Rat)} {β:Rat} (hβ:hq β≤1000):∀(n j:Nat) (a b:Rat),dy β j a→dy β j b→j+n≤45→rq S n a b
  |0,j,a,b,ha,hb,hj=>by
    have:=dy_hq ha (by omega);have:=dy_hq hb (by omega)
    exact ⟨by omega,by omega⟩
  |n+1,j,a,b,ha,hb,hj=>by
    have:=dy_hq ha (by omega);have:=dy_hq hb (by omega)
    have:=dy_hq (dy_mid ha hb) (by omega)
    exact ⟨⟨by omega,by omega⟩,by omega,fun _=>rq_dy hβ n (j+1) a (mid a b) (dy_next ha) (dy_mid ha hb) (by omega),fun _=>rq_dy hβ n (j+1) (mid a b) b (dy_mid ha hb) (dy_next hb) (by omega)⟩
theorem rf_lt {S:List (List Rat)}:∀(n:Nat) (a b:Rat),a<b→(rf S n a b).1<(rf S n a b).2
  |0,a,b,h=>h
  |n+1,a,b,h=>by
    obtain ⟨m1,m2⟩:=mid_lt h
    unfold rf
    split
    · exact rf_lt n a (mid a b) m1
    · exact rf_lt n (mid a b) b m2
theorem rfe_root {p:List Rat} {l:List Rat} {a b r:Rat} {k:Int} (hS:(sturm p).length≠0) (hl:asc l) (hb:∀x y,x<y→bt (sturm p) x y=cn l x y) (hz:∀t,ev t (sqf p)=0↔t∈l) (hr:r∈l) (h1:a<r) (h2:r≤b) (h3:bt (sturm p) a b=1) (hk:0≤k∧k≤200):
    (rfe (sturm p) (rtp ((sturm p).getD 0 [])) a b k).1=0∧(rfe (sturm p) (rtp ((sturm p).getD 0 [])) a b k).2.1≤r∧r≤(rfe (sturm p) (rtp ((sturm p).getD 0 [])) a b k).2.2∧¬((rfe (sturm p) (rtp ((sturm p).getD 0 [])) a b k).2.1<(rfe (sturm p) (rtp ((sturm p).getD 0 [])) a b k).2.2∧(rfe (sturm p) (rtp ((sturm p).getD 0 [])) a b k).2.1=r):=by
  have hab:a<b:=by grind
  have hsg:sgq (a - b)<0:=sgqn.2 hab
  have hn3:¬((sgq (a - b)=0∧rtp ((sturm p).getD 0 []) a=false)∨(sgq (a - b)<0∧bt (sturm p) a b≠1)):=fun q=>by
    rcases q with q|q
    · omega
    · exact q.2 h3
  obtain ⟨g1,g2,g3⟩:=rf_root hl hb hr k.toNat a b h1 h2 h3
  have hz4:rfz (sturm p) a b k=((rf (sturm p) k.toNat a b).1,(rf (sturm p) k.toNat a b).2):=by unfold rfz;rw [if_pos hab]
  by_cases hrt:rtp ((sturm p).getD 0 []) (rf (sturm p) k.toNat a b).2=true
  · have e:(rf (sturm p) k.toNat a b).2=r:=by
      unfold rtp at hrt
      rw [sturm_head hS] at hrt
      have:=(hz _).1 (of_decide_eq_true hrt)
      exact g3 _ this (rf_lt _ _ _ hab) (by grind)
    rw [rfe4 hS (by omega) (fun q=>by grind) hn3 hz4 hrt,e]
    exact ⟨rfl,by grind,by grind,fun q=>by grind⟩
  · rw [rfe5 hS (by omega) (fun q => by grind) hn3 hz4 (by cases e : rtp ((sturm p).getD 0 []) (rf (sturm p) k.toNat a b).2 <;> simp_all)]
    exact ⟨rfl,by grind,g2,fun q=>by grind⟩
theorem map_q4_get {R:List Int} {i:Nat} (h:i<R.length):(R.map q4).getD i 0=Rat.divInt (R.getD i 0) 4∧Rat.divInt (R.getD i 0) 4∈R.map q4:=by
  have e:(R.map q4).getD i 0=Rat.divInt (R.getD i 0) 4:=by
    rw [List.getD_eq_getElem?_getD,List.getD_eq_getElem?_getD,List.getElem?_map,List.getElem?_eq_getElem h];rfl
  refine ⟨e,?_⟩
  rw [List.getD_eq_getElem?_getD,List.getElem?_eq_getElem h]
  exact List.mem_map.2 ⟨_,List.getElem_mem h,rfl⟩
theorem q4_hq {n:Int} (h: -79≤n∧n≤79):hq (Rat.divInt n 4)≤3:=by
  have:=hq_divInt (n:=n) (show (4:Int)≠0 by decide)
  have:=zdd (z:=n) (by omega) (by omega)
  have e:ln 4=1:=by decide +kernel
  omega
theorem getD_mem' {R:List Int} {i:Nat} (h:i<R.length):R.getD i 0∈R:=by
  rw [List.getD_eq_getElem?_getD,List.getElem?_eq_getElem h];exact List.getElem_mem h
theorem rq_hq {S:List (List Rat)}:∀(n:Nat) (a b:Rat),rq S n a b→hq (rf S n a b).1≤100000∧hq (rf S n a b).2≤100000
  |0,_,_,h=>h
  |n+1,a,b,h=>by
    unfold rf
    split
    · rename_i k;exact rq_hq n _ _ (h.2.2.1 k)
    · rename_i k;exact rq_hq n _ _ (h.2.2.2 k)
theorem rfe_rq {S:List (List Rat)} {rt:Rat→Bool} {a b:Rat} {k:Int} (h:a<b→0≤k→k≤200→rq S k.toNat a b) (ha:hq a≤100000) (hb:hq b≤100000):hq (rfe S rt a b k).2.1≤100000∧hq (rfe S rt a b k).2.2≤100000:=by
  have h0:hq (0:Rat)≤100000:=by rw [hq_zero];decide
  by_cases hk2:k<0∨200<k
  · unfold rfe
    repeat' split
    all_goals first|exact ⟨h0,h0⟩|(exfalso;simp_all;done)
  · have hz:hq (rfz S a b k).1≤100000∧hq (rfz S a b k).2≤100000:=by
      unfold rfz
      split
      · rename_i q;exact rq_hq _ _ _ (h q (by omega) (by omega))
      · exact ⟨ha,hb⟩
    unfold rfe
    repeat' split
    all_goals first|exact ⟨h0,h0⟩|exact ⟨hz.2,hz.2⟩|exact hz
theorem fc_bd {n:Int} (h: -79≤n∧n≤79):bd 3 (vals [some (Rat.divInt (-n) 4),some (((1:Int):Int):Rat)]):=fun i=>by
  match i with
  |0=>exact q4_hq (by omega)
  |1=>show hq ((1:Int):Rat)≤3;decide
  |i+2=>show hq 0≤3;rw [hq_zero];decide
theorem pqn_bd (l:List Int) {k:Nat} (hk:k≤4):bd 1 (pqn l k):=cb_bd (pqn_cb l hk)
theorem pqn_len (l:List Int) (k:Nat):(pqn l k).length=k+1:=(pqI_of l k).2.1
end Go.Proofs.YtbiaimgafknkmaaGreat.Po
namespace Go.Proofs.YtbiaimgafknkmaaGreat.Sp
open Go
set_option linter.unusedVariables false
set_option maxRecDepth 100000
set_option maxHeartbeats 8000000
theorem zWd {p1:Option Addr} {n1:Nat} {c1:Nat} {l1:List (Option Rat)} {u1:Wd} {v1:Wd} {x1:Option Rat} {u2:Wd} {v2:Wd} {x2:Option Rat} {k:Int} (hn1:l1.length=n1) (hm1:n1≤190) (hok:Po.rsok (Po.vals l1)) (hlS:(Po.sturm (Po.vals l1)).length≤400) (hvk:∀z,yf z≤100000→Po.vok (Po.sturm (Po.vals l1)) z) (hev:∀z,yf z≤100000→∀i,yf (Po.ev z ((Po.vals l1).drop i))≤200000000000) (hx1:yf (x1.getD 0)≤100000) (hx2:yf (x2.getD 0)≤100000) (hrq:(x1.getD 0)<(x2.getD 0)→0≤k→k≤200→Po.rq (Po.sturm (Po.vals l1)) k.toNat (x1.getD 0) (x2.getD 0)):Con Tryz.prog 37 [.slice p1 n1 c1,.agg #[u1.b,u1.l,v1.b,v1.l,u2.b,u2.l,v2.b,v2.l],.int .i64 k] [] [slF rE p1 c1 l1,eF u1 v1 x1,eF u2 v2 x2] (Y:=Wd×Wd×Wd×Wd) (fun y=>True) (fun y=> .tuple #[.agg #[y.1.b,y.1.l,y.2.1.b,y.2.1.l,y.2.2.1.b,y.2.2.1.l,y.2.2.2.b,y.2.2.2.l],.int .i64 ((Po.rfe (Po.sturm (Po.vals l1)) (Po.rtp ((Po.sturm (Po.vals l1)).getD 0 [])) (x1.getD 0) (x2.getD 0) k).1)]) (fun y=>[]) (fun y=>[qF (decide ((Po.rfe (Po.sturm (Po.vals l1)) (Po.rtp ((Po.sturm (Po.vals l1)).getD 0 [])) (x1.getD 0) (x2.getD 0) k).1=0)) y.1 y.2.1 ((Po.rfe (Po.sturm (Po.vals l1)) (Po.rtp ((Po.sturm (Po.vals l1)).getD 0 [])) (x1.getD 0) (x2.getD 0) k).2.1),qF (decide ((Po.rfe (Po.sturm (Po.vals l1)) (Po.rtp ((Po.sturm (Po.vals l1)).getD 0 [])) (x1.getD 0) (x2.getD 0) k).1=0)) y.2.2.1 y.2.2.2 ((Po.rfe (Po.sturm (Po.vals l1)) (Po.rtp ((Po.sturm (Po.vals l1)).getD 0 [])) (x1.getD 0) (x2.getD 0) k).2.2)]):=by
 refine zl Tryz.func37 rfl rfl rfl (fun c=> ?_)
 show RunC _ _ _ _ _ [(0,.slice p1 n1 c1),(1,.agg #[u1.b,u1.l,v1.b,v1.l,u2.b,u2.l,v2.b,v2.l]),(2,.int .i64 k)] [] [slF rE p1 c1 l1,eF u1 v1 x1,eF u2 v2 x2]
 refine zQ 0 rfl (fun hL0=> ?_)
 refine zVe (qF x1.isSome u1 v1 (x1.getD 0)) (eF_weak 1 rfl)<|zVe (qF x2.isSome u2 v2 (x2.getD 0)) (eF_weak 3 rfl)<|ze<|za<|zH rfl rfl (zO rfl rfl) (fun b1=> ?_)
 refine zH rfl rfl (zr zr48 rfl) (fun b2=> ?_)
 refine e_p (zb rfl)<|zf<|zd<|ze<|za<|e_mv rfl<|zk rfl rfl (.c rfl .n) ce67 (zfc (p1:=p1) (n1:=n1) (c1:=c1) (l1:=l1) (hn1:=ass) (hm1:=ass) (hok:=by exact hok.1)) (.c (j:=2) rfl .n) ?_
 rintro ⟨p93,c94⟩ -
 dsimp only [aq,nq,cq]
 refine zH rfl rfl (zr zr76 rfl) (fun b5=> ?_)
 refine zj 0 rfl rfl rfl rfl rfl sz76 rfl (.take .nil) .z<|zf<|zd<|ze<|ze<|za<|e_ru (zh 0 ty76 rfl rfl rfl)<|e_p (zD Tryz.underlying76 rfl)<|e_p (zia rfl rfl)<|zf<|zd<|zC rfl (fun h19=> ?_) (fun h19=> ?_)
 ·
  refine ze<|za<|e_p (zG zr48 rfl yc (.c sz28 (.c sz28 .n)) .n .n)<|zj 1 rfl rfl rfl rfl rfl sz48 rfl (.t8 .nil) (.s .z)<|e_p (zb rfl)<|zf<|zd<|zE<|zq<|zbb (qF false wz wz 0) (fun g _=>qF_none g) ?_
  have hv9:(Po.rfe (Po.sturm (Po.vals l1)) (Po.rtp ((Po.sturm (Po.vals l1)).getD 0 [])) (x1.getD 0) (x2.getD 0) k)=(14,0,0):=Po.rfe0 om
  exact zxa ye (wz,wz,wz,wz) trivial (zn 1 ty48 rfl rfl (.t8 .nil)) (zp rfl) (by rw [hv9];rfl) (ho:=(.n:PickO _ _ _)) ((.e (j:=0) rfl (by rw [hv9];rfl) (.e (j:=0) rfl (by rw [hv9];rfl) .n)):SelR _ _ _)
 ·
  have hS0:(Po.sturm (Po.vals l1)).length≠0:=by omega
  refine zB<|zd<|ze<|zWa (X:=Unit) (fun x=>True) (fun x=>[(26,.bool (decide ((k<0)∨(200<k)))),(8,.pointer (some ⟨b5,0,none⟩)),(7,.int .i64 0),(6,.pointer (some ⟨b2,0,none⟩)),(4,.pointer (some ⟨b1,0,none⟩)),(2,.int .i64 k)]) (fun x=>[boxA b5 76 [.slice p93 ((Po.sturm (Po.vals l1)).length) c94],boxA b2 48 (cw [wz,wz,wz,wz]),boxA b1 48 (cw [u1,v1,u2,v2])]) (fun x=>[slF (rS rQ) p93 c94 (Po.sturm (Po.vals l1)),qF x2.isSome u2 v2 (x2.getD 0),qF x1.isSome u1 v1 (x1.getD 0),slF rE p1 c1 l1,eF u1 v1 x1,eF u2 v2 x2]) ?_ ?_
  ·
   refine za<|e_mv rfl<|e_p (zba rfl rfl)<|zga rfl rfl (zha rfl) (fun h6=> ?_) (fun h6=> ?_)
   ·
    refine e_no<|e_no<|e_p (zJ rfl rfl)<|zf ?_
    exact zna () (show True from by first|trivial|omega|simp_all) ((.e rfl (congrArg Value.bool cbu) (.of rfl)):SubM _ _) (ho:=((.of [0,0,0] rfl):PickO _ _ _)) ((.of [0,1,2,3,4,5] rfl):SelR _ _ _)
   ·
    refine e_mv rfl<|e_p (zwa rfl rfl)<|e_p (zJ rfl rfl)<|zf ?_
    exact zna () (show True from by first|trivial|omega|simp_all) ((.e rfl (congrArg Value.bool cbu) (.of rfl)):SubM _ _) (ho:=((.of [0,0,0] rfl):PickO _ _ _)) ((.of [0,1,2,3,4,5] rfl):SelR _ _ _)
  ·
   rintro ⟨⟩ -
   try dsimp only [cw]
   refine zC rfl (fun h26=> ?_) (fun h26=> ?_)
   ·
    refine ze<|za<|e_p (zG zr48 rfl yc (.c sz28 (.c sz28 .n)) .n .n)<|zj 1 rfl rfl rfl rfl rfl sz48 rfl (.t8 .nil) (.s .z)<|e_p (zb rfl)<|zf<|zd<|zE<|zq<|zbb (qF false wz wz 0) (fun g _=>qF_none g) ?_
    have hv9:(Po.rfe (Po.sturm (Po.vals l1)) (Po.rtp ((Po.sturm (Po.vals l1)).getD 0 [])) (x1.getD 0) (x2.getD 0) k)=(2,0,0):=Po.rfe1 hS0 h26
    exact zxa ye (wz,wz,wz,wz) trivial (zn 1 ty48 rfl rfl (.t8 .nil)) (zp rfl) (by rw [hv9];rfl) (ho:=(.n:PickO _ _ _)) ((.e (j:=0) rfl (by rw [hv9];rfl) (.e (j:=0) rfl (by rw [hv9];rfl) .n)):SelR _ _ _)
   ·
    refine zB<|zd<|ze<|zU (OW:=[]) (O:=[boxA b5 76 [.slice p93 ((Po.sturm (Po.vals l1)).length) c94],boxA b2 48 (cw [wz,wz,wz,wz]),boxA b1 48 (cw [u1,v1,u2,v2])]) 8 mixed (.then .ret) kr<|e_pv 0 rfl rfl (zg yc rfl sz28 rfl rfl)<|e_u 1 rfl rfl (zc 2 ty28 rfl rfl (.t4 .nil))<|e_pv 3 rfl rfl (zg yc rfl sz28 rfl rfl)<|e_u 4 rfl rfl (zc 2 ty28 rfl rfl (.s4 (.t4 .nil)))<|zrd (m':=[(32,.agg (cw [u2,v2]).toArray),(29,.agg (cw [u1,v1]).toArray),(8,.pointer (some ⟨b5,0,none⟩)),(7,.int .i64 0),(6,.pointer (some ⟨b2,0,none⟩)),(2,.int .i64 k)]) (R':=[slF (rS rQ) p93 c94 (Po.sturm (Po.vals l1)),qF x2.isSome u2 v2 (x2.getD 0),qF x1.isSome u1 v1 (x1.getD 0),slF rE p1 c1 l1,eF u1 v1 x1,eF u2 v2 x2]) ((.of rfl):SubM _ _) (List.Perm.refl _) (List.Perm.refl _) ((.of [0,1,2,3,4,5] rfl):SelR _ _ _)<|zBa (X:=Wd×Wd×Wd×Wd×Nat×Nat) (k':=0) (L':=(lb 10 1023)) (fun (u2_1,u2_2,u5_1,u5_2,u6_1,u7_1)=>([(10,.pointer (some ⟨u7_1,0,none⟩)),(9,.pointer (some ⟨u6_1,0,none⟩)),(8,.pointer (some ⟨b5,0,none⟩)),(7,.int .i64 0),(6,.pointer (some ⟨b2,0,none⟩)),(2,.int .i64 k)],[boxA u7_1 28 (cw [u5_1,u5_2]),boxA u6_1 28 (cw [u2_1,u2_2])],[boxA b5 76 [.slice p93 ((Po.sturm (Po.vals l1)).length) c94],boxA b2 48 (cw [wz,wz,wz,wz]),boxA b1 48 (cw [u1,v1,u2,v2])],[qF true u5_1 u5_2 (x2.getD 0),qF true u2_1 u2_2 (x1.getD 0),slF (rS rQ) p93 c94 (Po.sturm (Po.vals l1)),qF x2.isSome u2 v2 (x2.getD 0),qF x1.isSome u1 v1 (x1.getD 0),slF rE p1 c1 l1,eF u1 v1 x1,eF u2 v2 x2])) ?_ (fun hD0=> ?_)
    ·
     rintro ⟨u2_1,u2_2,u5_1,u5_2,u6_1,u7_1⟩
     dsimp only [cw]
     refine zT kr<|zd<|ze<|za<|e_ru (zc 1 ty28 rfl rfl (.t4 .nil))<|e_ru (zc 0 ty28 rfl rfl (.t4 .nil))<|zM rfl rfl (.c rfl (.c rfl .n)) ce68 (zDb (k1:=true) (u1:=u2_1) (v1:=u2_2) (q1:=(x1.getD 0)) (k2:=true) (u2:=u5_1) (v2:=u5_2) (q2:=(x2.getD 0)) (hl:=om)) (.c (j:=1) rfl (.c (j:=0) rfl .n))<|e_p (zb rfl)<|zf<|zd<|ze<|ze<|za<|e_mv rfl<|e_p (zwa rfl rfl)<|zf<|zd<|zC rfl (fun h38=> ?_) (fun h38=> ?_)
     ·
      refine ze<|za<|e_p (zG zr48 rfl yc (.c sz28 (.c sz28 .n)) .n .n)<|zj 3 rfl rfl rfl rfl rfl sz48 rfl (.t8 .nil) (.s (.s (.s .z)))<|e_p (zb rfl)<|zf<|zd<|zE<|zq<|zbb (qF false wz wz 0) (fun g _=>qF_none g) ?_
      have hv9:(Po.rfe (Po.sturm (Po.vals l1)) (Po.rtp ((Po.sturm (Po.vals l1)).getD 0 [])) (x1.getD 0) (x2.getD 0) k)=(5,0,0):=Po.rfe2 hS0 h26 (Po.lt_sgq.1 h38)
      exact zxa ye (wz,wz,wz,wz) trivial (zn 3 ty48 rfl rfl (.t8 .nil)) (zp rfl) (by rw [hv9];rfl) (ho:=(.n:PickO _ _ _)) ((.e (j:=0) rfl (by rw [hv9];rfl) (.e (j:=0) rfl (by rw [hv9];rfl) .n)):SelR _ _ _)
     ·
      have hle:¬(x2.getD 0)<(x1.getD 0):=fun e=>h38 (Po.lt_sgq.2 e)
      refine zB<|zd<|ze<|zAc 2 rfl (.s (.s .z))<|za<|e_p (zKb .n (.c rfl .n))<|e_p (zb rfl)<|zf<|zd<|ze<|zWa (X:=Unit) (fun x=>True) (fun x=>[(59,.bool (decide ((yh ((x1.getD 0) - (x2.getD 0))=0∧(Po.rtp ((Po.sturm (Po.vals l1)).getD 0 [])) (x1.getD 0)=false)∨(yh ((x1.getD 0) - (x2.getD 0))<0∧Po.bt (Po.sturm (Po.vals l1)) (x1.getD 0) (x2.getD 0)≠1)))),(12,.func (.func 69) #[] #[.pointer (some ⟨b5,0,none⟩)]),(11,.int .i64 (yh ((x1.getD 0) - (x2.getD 0)))),(10,.pointer (some ⟨u7_1,0,none⟩)),(9,.pointer (some ⟨u6_1,0,none⟩)),(8,.pointer (some ⟨b5,0,none⟩)),(7,.int .i64 0),(6,.pointer (some ⟨b2,0,none⟩)),(2,.int .i64 k)]) (fun x=>[boxA u7_1 28 (cw [u5_1,u5_2]),boxA u6_1 28 (cw [u2_1,u2_2]),boxA b2 48 (cw [wz,wz,wz,wz]),boxA b1 48 (cw [u1,v1,u2,v2])]) (fun x=>[atF b5 0 [.slice p93 ((Po.sturm (Po.vals l1)).length) c94],qF true u5_1 u5_2 (x2.getD 0),qF true u2_1 u2_2 (x1.getD 0),slF (rS rQ) p93 c94 (Po.sturm (Po.vals l1)),qF x2.isSome u2 v2 (x2.getD 0),qF x1.isSome u1 v1 (x1.getD 0),slF rE p1 c1 l1,eF u1 v1 x1,eF u2 v2 x2]) ?_ ?_
      ·
       refine za<|e_mv rfl<|e_p (zia rfl rfl)<|zga rfl rfl (zha rfl) (fun h7=> ?_) (fun h7=> ?_)
       ·
        refine e_mv rfl<|e_ru (zc 1 ty28 rfl rfl (.t4 .nil))<|zQc (first:=[]) (cap:=[.pointer (some ⟨b5,0,none⟩)]) rfl rfl rfl (.c rfl .n) ce69 (zMc (pL:=p93) (nL:=(Po.sturm (Po.vals l1)).length) (cL:=c94) (L:=(Po.sturm (Po.vals l1))) (bl:=b5) (u1:=u2_1) (v1:=u2_2) (x1:=(x1.getD 0)) (hnL:=by rfl) (h0:=om) (hx:=by first|omega|rfl|assumption) (hv:=by exact hvk _ om)) (.c (j:=0) rfl (.c (j:=3) rfl (.c (j:=2) rfl .n))) ?_
        rintro ⟨⟩ -
        dsimp only [aq,nq,cq]
        refine e_p (zpb rfl)<|e_p (zJ rfl rfl)<|zga rfl rfl (zha rfl) (fun h8=> ?_) (fun h8=> ?_)
        ·
         refine e_no<|e_no<|e_no<|e_no<|e_no<|e_no<|e_no<|e_no<|e_no<|e_p (zJ rfl rfl)<|zf ?_
         exact zna () (show True from by first|trivial|omega|simp_all) ((.e rfl (congrArg Value.bool (by first|omega|(simp_all [Po.rtp];done)|(simp_all [Po.rtp];omega))) (.of rfl)):SubM _ _) (ho:=((.of [0,0,1,1] rfl):PickO _ _ _)) ((.of [0,1,2,3,4,5,6,7,8] rfl):SelR _ _ _)
        ·
         refine e_mv rfl<|e_p (zba rfl rfl)<|zga rfl rfl (zha rfl) (fun h9=> ?_) (fun h9=> ?_)
         ·
          refine e_ru (zo (j:=0) 0 ty76 rfl rfl rfl rfl)<|e_ru (zc 1 ty28 rfl rfl (.t4 .nil))<|e_ru (zc 0 ty28 rfl rfl (.t4 .nil))<|zM rfl rfl (.c rfl (.c rfl (.c rfl .n))) ce70 (zZb (pL:=p93) (nL:=(Po.sturm (Po.vals l1)).length) (cL:=c94) (L:=(Po.sturm (Po.vals l1))) (u1:=u2_1) (v1:=u2_2) (x1:=(x1.getD 0)) (u2:=u5_1) (v2:=u5_2) (x2:=(x2.getD 0)) (hnL:=by rfl) (hmL:=by exact hlS) (hx1:=by first|omega|rfl|assumption) (hx2:=by first|omega|rfl|assumption) (hv1:=by exact hvk _ om) (hv2:=by exact hvk _ om)) (.c (j:=3) rfl (.c (j:=2) rfl (.c (j:=1) rfl .n)))<|e_p (zfb rfl rfl)<|e_p (zJ rfl rfl)<|e_p (zJ rfl rfl)<|zf ?_
          exact zna () (show True from by first|trivial|omega|simp_all) ((.e rfl (congrArg Value.bool (by first|omega|(simp_all [Po.rtp];done)|(simp_all [Po.rtp];omega))) (.of rfl)):SubM _ _) (ho:=((.of [0,0,1,1] rfl):PickO _ _ _)) ((.of [0,1,2,3,4,5,6,7,8] rfl):SelR _ _ _)
         ·
          refine e_no<|e_no<|e_no<|e_no<|e_no<|e_p (zJ rfl rfl)<|e_p (zJ rfl rfl)<|zf ?_
          exact zna () (show True from by first|trivial|omega|simp_all) ((.e rfl (congrArg Value.bool (by first|omega|(simp_all [Po.rtp];done)|(simp_all [Po.rtp];omega))) (.of rfl)):SubM _ _) (ho:=((.of [0,0,1,1] rfl):PickO _ _ _)) ((.of [0,1,2,3,4,5,6,7,8] rfl):SelR _ _ _)
       ·
        refine e_no<|e_no<|e_no<|e_no<|e_p (zJ rfl rfl)<|e_mv rfl<|e_mv rfl<|e_p (zba rfl rfl)<|zga rfl rfl (zha rfl) (fun h10=> ?_) (fun h10=> ?_)
        ·
         refine e_ru (zo (j:=0) 0 ty76 rfl rfl rfl rfl)<|e_ru (zc 1 ty28 rfl rfl (.t4 .nil))<|e_ru (zc 0 ty28 rfl rfl (.t4 .nil))<|zM rfl rfl (.c rfl (.c rfl (.c rfl .n))) ce70 (zZb (pL:=p93) (nL:=(Po.sturm (Po.vals l1)).length) (cL:=c94) (L:=(Po.sturm (Po.vals l1))) (u1:=u2_1) (v1:=u2_2) (x1:=(x1.getD 0)) (u2:=u5_1) (v2:=u5_2) (x2:=(x2.getD 0)) (hnL:=by rfl) (hmL:=by exact hlS) (hx1:=by first|omega|rfl|assumption) (hx2:=by first|omega|rfl|assumption) (hv1:=by exact hvk _ om) (hv2:=by exact hvk _ om)) (.c (j:=3) rfl (.c (j:=2) rfl (.c (j:=1) rfl .n)))<|e_p (zfb rfl rfl)<|e_p (zJ rfl rfl)<|e_p (zJ rfl rfl)<|zf ?_
         exact zna () (show True from by first|trivial|omega|simp_all) ((.e rfl (congrArg Value.bool (by first|omega|(simp_all [Po.rtp];done)|(simp_all [Po.rtp];omega))) (.of rfl)):SubM _ _) (ho:=((.of [0,0,1,1] rfl):PickO _ _ _)) ((.of [0,1,2,3,4,5,6,7,8] rfl):SelR _ _ _)
        ·
         refine e_no<|e_no<|e_no<|e_no<|e_no<|e_p (zJ rfl rfl)<|e_p (zJ rfl rfl)<|zf ?_
         exact zna () (show True from by first|trivial|omega|simp_all) ((.e rfl (congrArg Value.bool (by first|omega|(simp_all [Po.rtp];done)|(simp_all [Po.rtp];omega))) (.of rfl)):SubM _ _) (ho:=((.of [0,0,1,1] rfl):PickO _ _ _)) ((.of [0,1,2,3,4,5,6,7,8] rfl):SelR _ _ _)
      ·
       rintro ⟨⟩ -
       try dsimp only [cw]
       refine zC rfl (fun h59=> ?_) (fun h59=> ?_)
       ·
        refine ze<|za<|e_p (zG zr48 rfl yc (.c sz28 (.c sz28 .n)) .n .n)<|zj 2 rfl rfl rfl rfl rfl sz48 rfl (.t8 .nil) (.s (.s .z))<|e_p (zb rfl)<|zf<|zd<|zE<|zq<|zbb (qF false wz wz 0) (fun g _=>qF_none g) ?_
        have hv9:(Po.rfe (Po.sturm (Po.vals l1)) (Po.rtp ((Po.sturm (Po.vals l1)).getD 0 [])) (x1.getD 0) (x2.getD 0) k)=(6,0,0):=Po.rfe3 hS0 h26 hle h59
        exact zxa ye (wz,wz,wz,wz) trivial (zn 2 ty48 rfl rfl (.t8 .nil)) (zp rfl) (by rw [hv9];rfl) (ho:=(.n:PickO _ _ _)) ((.e (j:=0) rfl (by rw [hv9];rfl) (.e (j:=0) rfl (by rw [hv9];rfl) .n)):SelR _ _ _)
       ·
        refine zB<|zd<|ze<|ze<|za<|e_p (zb rfl)<|zf<|zd<|zy<|zfa (X:=Nat×Rat×Rat×Wd×Wd×Wd×Wd) (fun x:Nat×Rat×Rat×Wd×Wd×Wd×Wd=>x.1≤k.toNat∧yf x.2.1≤100000∧yf x.2.2.1≤100000∧((x1.getD 0)<(x2.getD 0)→x.2.1<x.2.2.1)∧((x1.getD 0)<(x2.getD 0)→Po.rq (Po.sturm (Po.vals l1)) (k.toNat - x.1) x.2.1 x.2.2.1)∧(((x1.getD 0)<(x2.getD 0)→Po.rf (Po.sturm (Po.vals l1)) (k.toNat - x.1) x.2.1 x.2.2.1=Po.rf (Po.sturm (Po.vals l1)) k.toNat (x1.getD 0) (x2.getD 0))∧(¬(x1.getD 0)<(x2.getD 0)→x.2.1=(x1.getD 0)∧x.2.2.1=(x2.getD 0)))) (fun x=>[(13,.int .i64 ((x.1:Nat):Int)),(12,.func (.func 69) #[] #[.pointer (some ⟨b5,0,none⟩)]),(11,.int .i64 (yh ((x1.getD 0) - (x2.getD 0)))),(10,.pointer (some ⟨u7_1,0,none⟩)),(9,.pointer (some ⟨u6_1,0,none⟩)),(8,.pointer (some ⟨b5,0,none⟩)),(7,.int .i64 0),(6,.pointer (some ⟨b2,0,none⟩)),(2,.int .i64 k)]) (fun x=>[boxA u7_1 28 (cw [x.2.2.2.2.2.1,x.2.2.2.2.2.2]),boxA u6_1 28 (cw [x.2.2.2.1,x.2.2.2.2.1]),boxA b2 48 (cw [wz,wz,wz,wz]),boxA b1 48 (cw [u1,v1,u2,v2])]) (fun x=>[qF true x.2.2.2.1 x.2.2.2.2.1 (x.2.1),qF true x.2.2.2.2.2.1 x.2.2.2.2.2.2 (x.2.2.1),atF b5 0 [.slice p93 ((Po.sturm (Po.vals l1)).length) c94],qF true u5_1 u5_2 (x2.getD 0),qF true u2_1 u2_2 (x1.getD 0),slF (rS rQ) p93 c94 (Po.sturm (Po.vals l1)),qF x2.isSome u2 v2 (x2.getD 0),qF x1.isSome u1 v1 (x1.getD 0),slF rE p1 c1 l1,eF u1 v1 x1,eF u2 v2 x2]) (fun x:Nat×Rat×Rat×Wd×Wd×Wd×Wd=>k.toNat - x.1) (0,(x1.getD 0),(x2.getD 0),u2_1,u2_2,u5_1,u5_2) (show 0≤k.toNat∧yf (x1.getD 0)≤100000∧yf (x2.getD 0)≤100000∧((x1.getD 0)<(x2.getD 0)→(x1.getD 0)<(x2.getD 0))∧((x1.getD 0)<(x2.getD 0)→Po.rq (Po.sturm (Po.vals l1)) (k.toNat - 0) (x1.getD 0) (x2.getD 0))∧(((x1.getD 0)<(x2.getD 0)→Po.rf (Po.sturm (Po.vals l1)) (k.toNat - 0) (x1.getD 0) (x2.getD 0)=Po.rf (Po.sturm (Po.vals l1)) k.toNat (x1.getD 0) (x2.getD 0))∧(¬(x1.getD 0)<(x2.getD 0)→(x1.getD 0)=(x1.getD 0)∧(x2.getD 0)=(x2.getD 0))) from by exact ⟨Nat.zero_le _,hx1,hx2,fun e=>e,fun e=>hrq e om om,fun _=>rfl,fun _=>⟨rfl,rfl⟩⟩) ((.e rfl (by first|rfl|(congr 1;omega)|simp_all) (.of rfl)):SubM _ _) (ho:=((.of [0,0,0,0] rfl):PickO _ _ _)) ((.e (j:=2) rfl rfl (.e (j:=1) rfl rfl (.of [0,1,2,3,4,5,6,7,8] rfl))):SelR _ _ _) ?_
        rintro ⟨i,a,b,ua,va,ub,vb⟩ hI
        replace hI:i≤k.toNat∧yf a≤100000∧yf b≤100000∧((x1.getD 0)<(x2.getD 0)→a<b)∧((x1.getD 0)<(x2.getD 0)→Po.rq (Po.sturm (Po.vals l1)) (k.toNat - i) a b)∧(((x1.getD 0)<(x2.getD 0)→Po.rf (Po.sturm (Po.vals l1)) (k.toNat - i) a b=Po.rf (Po.sturm (Po.vals l1)) k.toNat (x1.getD 0) (x2.getD 0))∧(¬(x1.getD 0)<(x2.getD 0)→a=(x1.getD 0)∧b=(x2.getD 0))):=hI
        try dsimp only [cw]
        obtain ⟨hi,ha,hb,hlt,hq9,hrf⟩:=hI
        refine ze<|zWa (X:=Unit) (fun x=>True) (fun x=>[(67,.bool (decide ((((i:Nat):Int)<k)∧(yh ((x1.getD 0) - (x2.getD 0))<0)))),(13,.int .i64 ((i:Nat):Int)),(12,.func (.func 69) #[] #[.pointer (some ⟨b5,0,none⟩)]),(11,.int .i64 (yh ((x1.getD 0) - (x2.getD 0)))),(10,.pointer (some ⟨u7_1,0,none⟩)),(9,.pointer (some ⟨u6_1,0,none⟩)),(8,.pointer (some ⟨b5,0,none⟩)),(7,.int .i64 0),(6,.pointer (some ⟨b2,0,none⟩)),(2,.int .i64 k)]) (fun x=>[boxA u7_1 28 (cw [ub,vb]),boxA u6_1 28 (cw [ua,va]),boxA b2 48 (cw [wz,wz,wz,wz]),boxA b1 48 (cw [u1,v1,u2,v2])]) (fun x=>[qF true ua va a,qF true ub vb b,atF b5 0 [.slice p93 ((Po.sturm (Po.vals l1)).length) c94],qF true u5_1 u5_2 (x2.getD 0),qF true u2_1 u2_2 (x1.getD 0),slF (rS rQ) p93 c94 (Po.sturm (Po.vals l1)),qF x2.isSome u2 v2 (x2.getD 0),qF x1.isSome u1 v1 (x1.getD 0),slF rE p1 c1 l1,eF u1 v1 x1,eF u2 v2 x2]) ?_ ?_
        ·
         refine za<|e_mv rfl<|e_mv rfl<|e_p (zba rfl rfl)<|zga rfl rfl (zha rfl) (fun h11=> ?_) (fun h11=> ?_)
         ·
          refine e_mv rfl<|e_p (zba rfl rfl)<|e_p (zJ rfl rfl)<|zf ?_
          exact zna () (show True from by first|trivial|omega|simp_all) ((.e rfl (congrArg Value.bool cbu) (.of rfl)):SubM _ _) (ho:=((.of [0,0,0,0] rfl):PickO _ _ _)) ((.of [0,1,2,3,4,5,6,7,8,9,10] rfl):SelR _ _ _)
         ·
          refine e_no<|e_no<|e_p (zJ rfl rfl)<|zf ?_
          exact zna () (show True from by first|trivial|omega|simp_all) ((.e rfl (congrArg Value.bool cbu) (.of rfl)):SubM _ _) (ho:=((.of [0,0,0,0] rfl):PickO _ _ _)) ((.of [0,1,2,3,4,5,6,7,8,9,10] rfl):SelR _ _ _)
        ·
         rintro ⟨⟩ -
         try dsimp only [cw]
         refine zC rfl (fun h67=> ?_) (fun h67=> ?_)
         ·
          have hab:=hlt (Po.sgqn.1 h67.2)
          obtain ⟨hm1,hm2⟩:=Po.mid_lt hab
          have hmq:=Po.rq_mid (n:=k.toNat - i) (hq9 (Po.sgqn.1 h67.2)) om
          refine zB<|zd<|ze<|zy<|ze<|za<|e_ru (zc 1 ty28 rfl rfl (.t4 .nil))<|e_ru (zc 0 ty28 rfl rfl (.t4 .nil))<|zk rfl rfl (.c rfl (.c rfl .n)) ce71 (zLc (u1:=ua) (v1:=va) (x1:=a) (u2:=ub) (v2:=vb) (x2:=b) (hx1:=by first|omega|rfl|assumption) (hx2:=by first|omega|rfl|assumption)) (.c (j:=0) rfl (.c (j:=1) rfl .n)) ?_
          rintro ⟨w312,w413⟩ -
          dsimp only [aq,nq,cq]
          refine zH rfl rfl (zr zr28 rfl) (fun b14=> ?_)
          refine zj 0 rfl rfl rfl rfl rfl sz28 rfl (.t4 .nil) .z<|zf<|zd<|ze<|za<|e_ru (zo (j:=0) 3 ty76 rfl rfl rfl rfl)<|e_ru (zc 2 ty28 rfl rfl (.t4 .nil))<|e_ru (zc 0 ty28 rfl rfl (.t4 .nil))<|zM rfl rfl (.c rfl (.c rfl (.c rfl .n))) ce70 (zZb (pL:=p93) (nL:=(Po.sturm (Po.vals l1)).length) (cL:=c94) (L:=(Po.sturm (Po.vals l1))) (u1:=ua) (v1:=va) (x1:=a) (u2:=w312) (v2:=w413) (x2:=(Po.mid a b)) (hnL:=by rfl) (hmL:=by exact hlS) (hx1:=by first|omega|rfl|assumption) (hx2:=by first|omega|rfl|assumption) (hv1:=by exact hvk _ om) (hv2:=by exact hvk _ om)) (.c (j:=6) rfl (.c (j:=1) rfl (.c (j:=0) rfl .n)))<|e_p (zia rfl rfl)<|zf<|zd<|zC rfl (fun h77=> ?_) (fun h77=> ?_)
          ·
           refine za<|e_ru (zc 0 ty28 rfl rfl (.t4 .nil))<|zj 1 rfl rfl rfl rfl rfl sz28 rfl (.t4 .nil) (.s .z)<|zf<|zN<|zd<|za<|e_mv rfl<|e_p (zK (z:=(((i+1):Nat):Int)) rfl rfl (w64 om))<|e_p (zb rfl)<|zf<|zZ ((i+1),a,(Po.mid a b),ua,va,w312,w413) (show (i+1)≤k.toNat∧yf a≤100000∧yf (Po.mid a b)≤100000∧((x1.getD 0)<(x2.getD 0)→a<(Po.mid a b))∧((x1.getD 0)<(x2.getD 0)→Po.rq (Po.sturm (Po.vals l1)) (k.toNat - (i+1)) a (Po.mid a b))∧(((x1.getD 0)<(x2.getD 0)→Po.rf (Po.sturm (Po.vals l1)) (k.toNat - (i+1)) a (Po.mid a b)=Po.rf (Po.sturm (Po.vals l1)) k.toNat (x1.getD 0) (x2.getD 0))∧(¬(x1.getD 0)<(x2.getD 0)→a=(x1.getD 0)∧(Po.mid a b)=(x2.getD 0))) from by exact ⟨by omega,ha,hmq,fun _=>hm1,fun e=>Po.rq_yes (n:=k.toNat - i) (hq9 e) om h77,fun e=>(Po.rf_yes (k:=k.toNat - i) om h77).symm.trans (hrf.1 e),fun e=>absurd (Po.sgqn.1 h67.2) e⟩) (by show k.toNat - (i+1)<k.toNat - i;omega) ((.of rfl):SubM _ _) (ho:=((.of [1,1,1,1] rfl):PickO _ _ _)) ((.c (j:=1) rfl (.e (j:=0) rfl rfl (.of [3,4,5,6,7,8,9,10,11] rfl))):SelR _ _ _)
          ·
           refine za<|e_ru (zc 0 ty28 rfl rfl (.t4 .nil))<|zj 2 rfl rfl rfl rfl rfl sz28 rfl (.t4 .nil) (.s (.s .z))<|zf<|zN<|zd<|za<|e_mv rfl<|e_p (zK (z:=(((i+1):Nat):Int)) rfl rfl (w64 om))<|e_p (zb rfl)<|zf<|zZ ((i+1),(Po.mid a b),b,w312,w413,ub,vb) (show (i+1)≤k.toNat∧yf (Po.mid a b)≤100000∧yf b≤100000∧((x1.getD 0)<(x2.getD 0)→(Po.mid a b)<b)∧((x1.getD 0)<(x2.getD 0)→Po.rq (Po.sturm (Po.vals l1)) (k.toNat - (i+1)) (Po.mid a b) b)∧(((x1.getD 0)<(x2.getD 0)→Po.rf (Po.sturm (Po.vals l1)) (k.toNat - (i+1)) (Po.mid a b) b=Po.rf (Po.sturm (Po.vals l1)) k.toNat (x1.getD 0) (x2.getD 0))∧(¬(x1.getD 0)<(x2.getD 0)→(Po.mid a b)=(x1.getD 0)∧b=(x2.getD 0))) from by exact ⟨by omega,hmq,hb,fun _=>hm2,fun e=>Po.rq_no (n:=k.toNat - i) (hq9 e) om h77,fun e=>(Po.rf_no (k:=k.toNat - i) om h77).symm.trans (hrf.1 e),fun e=>absurd (Po.sgqn.1 h67.2) e⟩) (by show k.toNat - (i+1)<k.toNat - i;omega) ((.of rfl):SubM _ _) (ho:=((.of [1,1,1,1] rfl):PickO _ _ _)) ((.e (j:=0) rfl rfl (.of [2,3,4,5,6,7,8,9,10,11] rfl)):SelR _ _ _)
         ·
          refine zea<|zi<|zi<|zw<|zd<|ze<|zWa (X:=Unit) (fun x=>True) (fun x=>[(86,.bool (decide ((yh ((x1.getD 0) - (x2.getD 0))<0)∧(Po.ev b ((Po.sturm (Po.vals l1)).getD 0 [])=0)))),(10,.pointer (some ⟨u7_1,0,none⟩)),(9,.pointer (some ⟨u6_1,0,none⟩)),(7,.int .i64 0),(6,.pointer (some ⟨b2,0,none⟩))]) (fun x=>[boxA u7_1 28 (cw [ub,vb]),boxA u6_1 28 (cw [ua,va]),boxA b2 48 (cw [wz,wz,wz,wz]),boxA b1 48 (cw [u1,v1,u2,v2])]) (fun x=>[qF true ua va a,qF true ub vb b,atF b5 0 [.slice p93 ((Po.sturm (Po.vals l1)).length) c94],qF true u5_1 u5_2 (x2.getD 0),qF true u2_1 u2_2 (x1.getD 0),slF (rS rQ) p93 c94 (Po.sturm (Po.vals l1)),qF x2.isSome u2 v2 (x2.getD 0),qF x1.isSome u1 v1 (x1.getD 0),slF rE p1 c1 l1,eF u1 v1 x1,eF u2 v2 x2]) ?_ ?_
          ·
           refine za<|e_mv rfl<|e_p (zba rfl rfl)<|zga rfl rfl (zha rfl) (fun h15=> ?_) (fun h15=> ?_)
           ·
            refine e_mv rfl<|e_ru (zc 0 ty28 rfl rfl (.t4 .nil))<|zQc (first:=[]) (cap:=[.pointer (some ⟨b5,0,none⟩)]) rfl rfl rfl (.c rfl .n) ce69 (zMc (pL:=p93) (nL:=(Po.sturm (Po.vals l1)).length) (cL:=c94) (L:=(Po.sturm (Po.vals l1))) (bl:=b5) (u1:=ub) (v1:=vb) (x1:=b) (hnL:=by rfl) (h0:=om) (hx:=by first|omega|rfl|assumption) (hv:=by exact hvk _ om)) (.c (j:=2) rfl (.c (j:=5) rfl (.c (j:=1) rfl .n))) ?_
            rintro ⟨⟩ -
            dsimp only [aq,nq,cq]
            refine e_p (zJ rfl rfl)<|zf ?_
            exact zna () (show True from by first|trivial|omega|simp_all) ((.e rfl (congrArg Value.bool cbu) (.of rfl)):SubM _ _) (ho:=((.of [0,0,0,0] rfl):PickO _ _ _)) ((.of [0,1,2,3,4,5,6,7,8,9,10] rfl):SelR _ _ _)
           ·
            refine e_no<|e_no<|e_no<|e_p (zJ rfl rfl)<|zf ?_
            exact zna () (show True from by first|trivial|omega|simp_all) ((.e rfl (congrArg Value.bool cbu) (.of rfl)):SubM _ _) (ho:=((.of [0,0,0,0] rfl):PickO _ _ _)) ((.of [0,1,2,3,4,5,6,7,8,9,10] rfl):SelR _ _ _)
          ·
           rintro ⟨⟩ -
           try dsimp only [cw]
           refine zC rfl (fun h86=> ?_) (fun h86=> ?_)
           ·
            refine za<|e_ru (zc 0 ty28 rfl rfl (.t4 .nil))<|zj 1 rfl rfl rfl rfl rfl sz28 rfl (.t4 .nil) (.s .z)<|zf<|zd<|ze<|za<|e_ru (zc 1 ty28 rfl rfl (.t4 .nil))<|e_ru (zc 0 ty28 rfl rfl (.t4 .nil))<|e_p (zG zr48 rfl yc (.c sz28 (.c sz28 .n)) (.c rfl (.c rfl .n)) (.c rfl rfl rfl (.t4 .nil) (.c rfl rfl rfl (.s4 (.t4 .nil)) .n)))<|zj 2 rfl rfl rfl rfl rfl sz48 rfl (.t8 .nil) (.s (.s .z))<|e_p (zb rfl)<|zf<|zd<|zE ?_
            have hz:=Po.rfz_run (k:=k) hrf (fun e=>by have:=Po.sgqn.2 e;omega)
            have hv9:(Po.rfe (Po.sturm (Po.vals l1)) (Po.rtp ((Po.sturm (Po.vals l1)).getD 0 [])) (x1.getD 0) (x2.getD 0) k)=(0,b,b):=Po.rfe4 hS0 h26 hle h59 hz (decide_eq_true h86.2)
            exact zxa ye (ub,vb,ub,vb) trivial (zn 2 ty48 rfl rfl (.t8 .nil)) (zp rfl) (by rw [hv9]) (ho:=(.n:PickO _ _ _)) ((.e (j:=1) rfl (by rw [hv9];rfl) (.e (j:=1) rfl (by rw [hv9];rfl) .n)):SelR _ _ _)
           ·
            refine zB<|zd<|ze<|za<|e_ru (zc 1 ty28 rfl rfl (.t4 .nil))<|e_ru (zc 0 ty28 rfl rfl (.t4 .nil))<|e_p (zG zr48 rfl yc (.c sz28 (.c sz28 .n)) (.c rfl (.c rfl .n)) (.c rfl rfl rfl (.t4 .nil) (.c rfl rfl rfl (.s4 (.t4 .nil)) .n)))<|zj 2 rfl rfl rfl rfl rfl sz48 rfl (.t8 .nil) (.s (.s .z))<|e_p (zb rfl)<|zf<|zd<|zE ?_
            have hz:=Po.rfz_run (k:=k) hrf (fun e=>by have:=Po.sgqn.2 e;omega)
            have hv9:(Po.rfe (Po.sturm (Po.vals l1)) (Po.rtp ((Po.sturm (Po.vals l1)).getD 0 [])) (x1.getD 0) (x2.getD 0) k)=(0,a,b):=Po.rfe_ab hS0 h26 hle h59 hz hrf.2 (fun e1 e2=>h86 ⟨e1,of_decide_eq_true e2⟩)
            exact zxa ye (ua,va,ub,vb) trivial (zn 2 ty48 rfl rfl (.t8 .nil)) (zp rfl) (by rw [hv9]) (ho:=(.n:PickO _ _ _)) ((.e (j:=0) rfl (by rw [hv9];rfl) (.e (j:=1) rfl (by rw [hv9];rfl) .n)):SelR _ _ _)
    refine zBa (X:=Wd×Wd×Wd×Wd×Nat×Nat) (k':=1) (L':=(lb 10 511)) (fun (u2_1,u2_2,u5_1,u5_2,u6_1,u7_1)=>([(10,.pointer (some ⟨u7_1,0,none⟩)),(9,.pointer (some ⟨u6_1,0,none⟩)),(33,.agg (cw [u5_1,u5_2]).toArray),(8,.pointer (some ⟨b5,0,none⟩)),(7,.int .i64 0),(6,.pointer (some ⟨b2,0,none⟩)),(2,.int .i64 k)],[boxA u6_1 28 (cw [u2_1,u2_2]),boxA u7_1 28 (cw [wz,wz])],[boxA b5 76 [.slice p93 ((Po.sturm (Po.vals l1)).length) c94],boxA b2 48 (cw [wz,wz,wz,wz]),boxA b1 48 (cw [u1,v1,u2,v2])],[qF true u5_1 u5_2 (x2.getD 0),qF true u2_1 u2_2 (x1.getD 0),slF (rS rQ) p93 c94 (Po.sturm (Po.vals l1)),qF x2.isSome u2 v2 (x2.getD 0),qF x1.isSome u1 v1 (x1.getD 0),slF rE p1 c1 l1,eF u1 v1 x1,eF u2 v2 x2])) ?_ (fun hD1=> ?_)
    ·
     rintro ⟨u2_1,u2_2,u5_1,u5_2,u6_1,u7_1⟩
     dsimp only [cw]
     refine zAb 9 kr ?_
     ·
      refine zMe (zW (i:=1) rfl)<|zv kr rfl rfl rfl rfl rfl sz28 rfl (.t4 .nil) ?_
      exact zda (hD0 (u2_1,u2_2,u5_1,u5_2,u6_1,u7_1)) kr ((.of rfl):SubM _ _) .rfl .rfl ((.of [0,1,2,3,4,5,6,7] rfl):SelR _ _ _)
    refine zBa (X:=Wd×Wd×Wd×Wd×Nat×Nat) (k':=2) (L':=(lb 10 255)) (fun (u2_1,u2_2,u5_1,u5_2,u6_1,u7_1)=>([(10,.pointer (some ⟨u7_1,0,none⟩)),(9,.pointer (some ⟨u6_1,0,none⟩)),(33,.agg (cw [u5_1,u5_2]).toArray),(30,.agg (cw [u2_1,u2_2]).toArray),(8,.pointer (some ⟨b5,0,none⟩)),(7,.int .i64 0),(6,.pointer (some ⟨b2,0,none⟩)),(2,.int .i64 k)],[boxA u7_1 28 (cw [wz,wz]),boxA u6_1 28 (cw [wz,wz])],[boxA b5 76 [.slice p93 ((Po.sturm (Po.vals l1)).length) c94],boxA b2 48 (cw [wz,wz,wz,wz]),boxA b1 48 (cw [u1,v1,u2,v2])],[qF true u5_1 u5_2 (x2.getD 0),qF true u2_1 u2_2 (x1.getD 0),slF (rS rQ) p93 c94 (Po.sturm (Po.vals l1)),qF x2.isSome u2 v2 (x2.getD 0),qF x1.isSome u1 v1 (x1.getD 0),slF rE p1 c1 l1,eF u1 v1 x1,eF u2 v2 x2])) ?_ (fun hD2=> ?_)
    ·
     rintro ⟨u2_1,u2_2,u5_1,u5_2,u6_1,u7_1⟩
     dsimp only [cw]
     refine zAb 8 kr ?_
     ·
      refine zMe (zW (i:=1) rfl)<|zv kr rfl rfl rfl rfl rfl sz28 rfl (.t4 .nil) ?_
      exact zda (hD1 (u2_1,u2_2,u5_1,u5_2,u6_1,u7_1)) kr ((.of rfl):SubM _ _) .rfl .rfl ((.of [0,1,2,3,4,5,6,7] rfl):SelR _ _ _)
    refine zBa (X:=Wd×Wd×Wd×Wd×Nat) (k':=3) (L':=(lb 10 127)) (fun (u2_1,u2_2,u5_1,u5_2,u6_1)=>([(9,.pointer (some ⟨u6_1,0,none⟩)),(33,.agg (cw [u5_1,u5_2]).toArray),(30,.agg (cw [u2_1,u2_2]).toArray),(8,.pointer (some ⟨b5,0,none⟩)),(7,.int .i64 0),(6,.pointer (some ⟨b2,0,none⟩)),(2,.int .i64 k)],[boxA u6_1 28 (cw [wz,wz])],[boxA b5 76 [.slice p93 ((Po.sturm (Po.vals l1)).length) c94],boxA b2 48 (cw [wz,wz,wz,wz]),boxA b1 48 (cw [u1,v1,u2,v2])],[qF true u5_1 u5_2 (x2.getD 0),qF true u2_1 u2_2 (x1.getD 0),slF (rS rQ) p93 c94 (Po.sturm (Po.vals l1)),qF x2.isSome u2 v2 (x2.getD 0),qF x1.isSome u1 v1 (x1.getD 0),slF rE p1 c1 l1,eF u1 v1 x1,eF u2 v2 x2])) ?_ (fun hD3=> ?_)
    ·
     rintro ⟨u2_1,u2_2,u5_1,u5_2,u6_1⟩
     dsimp only [cw]
     refine zAb 7 kr ?_
     ·
      refine zOa rfl rfl rfl rfl (zr zr28 rfl) (fun u7_1 _=> ?_)
      exact zda (hD2 (u2_1,u2_2,u5_1,u5_2,u6_1,u7_1)) kr ((.of rfl):SubM _ _) .rfl .rfl ((.of [0,1,2,3,4,5,6,7] rfl):SelR _ _ _)
    refine zBa (X:=Wd×Wd×Wd×Wd×Nat) (k':=3) (L':=(lb 10 191)) (fun (u2_1,u2_2,u5_1,u5_2,u7_1)=>([(10,.pointer (some ⟨u7_1,0,none⟩)),(33,.agg (cw [u5_1,u5_2]).toArray),(30,.agg (cw [u2_1,u2_2]).toArray),(8,.pointer (some ⟨b5,0,none⟩)),(7,.int .i64 0),(6,.pointer (some ⟨b2,0,none⟩)),(2,.int .i64 k)],[boxA u7_1 28 (cw [wz,wz])],[boxA b5 76 [.slice p93 ((Po.sturm (Po.vals l1)).length) c94],boxA b2 48 (cw [wz,wz,wz,wz]),boxA b1 48 (cw [u1,v1,u2,v2])],[qF true u5_1 u5_2 (x2.getD 0),qF true u2_1 u2_2 (x1.getD 0),slF (rS rQ) p93 c94 (Po.sturm (Po.vals l1)),qF x2.isSome u2 v2 (x2.getD 0),qF x1.isSome u1 v1 (x1.getD 0),slF rE p1 c1 l1,eF u1 v1 x1,eF u2 v2 x2])) ?_ (fun hD4=> ?_)
    ·
     rintro ⟨u2_1,u2_2,u5_1,u5_2,u7_1⟩
     dsimp only [cw]
     refine zAb 6 kr ?_
     ·
      refine zOa rfl rfl rfl rfl (zr zr28 rfl) (fun u6_1 _=> ?_)
      exact zda (hD2 (u2_1,u2_2,u5_1,u5_2,u6_1,u7_1)) kr ((.of rfl):SubM _ _) (zRc 1 rfl (zRc 0 rfl .nil)) .rfl ((.of [0,1,2,3,4,5,6,7] rfl):SelR _ _ _)
    refine zBa (X:=Wd×Wd×Nat×Nat) (k':=3) (L':=(lb 10 223)) (fun (u2_1,u2_2,u6_1,u7_1)=>([(10,.pointer (some ⟨u7_1,0,none⟩)),(9,.pointer (some ⟨u6_1,0,none⟩)),(30,.agg (cw [u2_1,u2_2]).toArray),(32,.agg (cw [u2,v2]).toArray),(8,.pointer (some ⟨b5,0,none⟩)),(7,.int .i64 0),(6,.pointer (some ⟨b2,0,none⟩)),(2,.int .i64 k)],[boxA u7_1 28 (cw [wz,wz]),boxA u6_1 28 (cw [wz,wz])],[boxA b5 76 [.slice p93 ((Po.sturm (Po.vals l1)).length) c94],boxA b2 48 (cw [wz,wz,wz,wz]),boxA b1 48 (cw [u1,v1,u2,v2])],[qF true u2_1 u2_2 (x1.getD 0),slF (rS rQ) p93 c94 (Po.sturm (Po.vals l1)),qF x2.isSome u2 v2 (x2.getD 0),qF x1.isSome u1 v1 (x1.getD 0),slF rE p1 c1 l1,eF u1 v1 x1,eF u2 v2 x2])) ?_ (fun hD5=> ?_)
    ·
     rintro ⟨u2_1,u2_2,u6_1,u7_1⟩
     dsimp only [cw]
     refine zAb 5 kr ?_
     ·
      refine zu rfl rfl rfl rfl (.c rfl .n) ce53 (zaa (k1:=x2.isSome) (u1:=u2) (v1:=v2) (q1:=(x2.getD 0))) (.c (j:=2) rfl .n) ?_
      rintro ⟨u5_1,u5_2⟩ -
      dsimp only [aq,nq,cq]
      exact zda (hD2 (u2_1,u2_2,u5_1,u5_2,u6_1,u7_1)) kr ((.of rfl):SubM _ _) .rfl .rfl ((.of [0,1,2,3,4,5,6,7] rfl):SelR _ _ _)
    refine zBa (X:=Wd×Wd×Wd×Wd) (k':=4) (L':=(lb 10 63)) (fun (u2_1,u2_2,u5_1,u5_2)=>([(33,.agg (cw [u5_1,u5_2]).toArray),(30,.agg (cw [u2_1,u2_2]).toArray),(8,.pointer (some ⟨b5,0,none⟩)),(7,.int .i64 0),(6,.pointer (some ⟨b2,0,none⟩)),(2,.int .i64 k)],[],[boxA b5 76 [.slice p93 ((Po.sturm (Po.vals l1)).length) c94],boxA b2 48 (cw [wz,wz,wz,wz]),boxA b1 48 (cw [u1,v1,u2,v2])],[qF true u5_1 u5_2 (x2.getD 0),qF true u2_1 u2_2 (x1.getD 0),slF (rS rQ) p93 c94 (Po.sturm (Po.vals l1)),qF x2.isSome u2 v2 (x2.getD 0),qF x1.isSome u1 v1 (x1.getD 0),slF rE p1 c1 l1,eF u1 v1 x1,eF u2 v2 x2])) ?_ (fun hD6=> ?_)
    ·
     rintro ⟨u2_1,u2_2,u5_1,u5_2⟩
     dsimp only [cw]
     refine zcd 6 7 kr ?_ ?_
     ·
      refine zOa rfl rfl rfl rfl (zr zr28 rfl) (fun u6_1 _=> ?_)
      exact zda (hD3 (u2_1,u2_2,u5_1,u5_2,u6_1)) kr ((.of rfl):SubM _ _) .rfl .rfl ((.of [0,1,2,3,4,5,6,7] rfl):SelR _ _ _)
     ·
      refine zOa rfl rfl rfl rfl (zr zr28 rfl) (fun u7_1 _=> ?_)
      exact zda (hD4 (u2_1,u2_2,u5_1,u5_2,u7_1)) kr ((.of rfl):SubM _ _) .rfl .rfl ((.of [0,1,2,3,4,5,6,7] rfl):SelR _ _ _)
    refine zBa (X:=Wd×Wd×Nat) (k':=4) (L':=(lb 10 95)) (fun (u2_1,u2_2,u6_1)=>([(9,.pointer (some ⟨u6_1,0,none⟩)),(30,.agg (cw [u2_1,u2_2]).toArray),(32,.agg (cw [u2,v2]).toArray),(8,.pointer (some ⟨b5,0,none⟩)),(7,.int .i64 0),(6,.pointer (some ⟨b2,0,none⟩)),(2,.int .i64 k)],[boxA u6_1 28 (cw [wz,wz])],[boxA b5 76 [.slice p93 ((Po.sturm (Po.vals l1)).length) c94],boxA b2 48 (cw [wz,wz,wz,wz]),boxA b1 48 (cw [u1,v1,u2,v2])],[qF true u2_1 u2_2 (x1.getD 0),slF (rS rQ) p93 c94 (Po.sturm (Po.vals l1)),qF x2.isSome u2 v2 (x2.getD 0),qF x1.isSome u1 v1 (x1.getD 0),slF rE p1 c1 l1,eF u1 v1 x1,eF u2 v2 x2])) ?_ (fun hD7=> ?_)
    ·
     rintro ⟨u2_1,u2_2,u6_1⟩
     dsimp only [cw]
     refine zcd 5 7 kr ?_ ?_
     ·
      refine zu rfl rfl rfl rfl (.c rfl .n) ce53 (zaa (k1:=x2.isSome) (u1:=u2) (v1:=v2) (q1:=(x2.getD 0))) (.c (j:=2) rfl .n) ?_
      rintro ⟨u5_1,u5_2⟩ -
      dsimp only [aq,nq,cq]
      exact zda (hD3 (u2_1,u2_2,u5_1,u5_2,u6_1)) kr ((.of rfl):SubM _ _) .rfl .rfl ((.of [0,1,2,3,4,5,6,7] rfl):SelR _ _ _)
     ·
      refine zOa rfl rfl rfl rfl (zr zr28 rfl) (fun u7_1 _=> ?_)
      exact zda (hD5 (u2_1,u2_2,u6_1,u7_1)) kr ((.of rfl):SubM _ _) .rfl .rfl ((.of [0,1,2,3,4,5,6] rfl):SelR _ _ _)
    refine zBa (X:=Wd×Wd×Nat) (k':=4) (L':=(lb 10 159)) (fun (u2_1,u2_2,u7_1)=>([(10,.pointer (some ⟨u7_1,0,none⟩)),(30,.agg (cw [u2_1,u2_2]).toArray),(32,.agg (cw [u2,v2]).toArray),(8,.pointer (some ⟨b5,0,none⟩)),(7,.int .i64 0),(6,.pointer (some ⟨b2,0,none⟩)),(2,.int .i64 k)],[boxA u7_1 28 (cw [wz,wz])],[boxA b5 76 [.slice p93 ((Po.sturm (Po.vals l1)).length) c94],boxA b2 48 (cw [wz,wz,wz,wz]),boxA b1 48 (cw [u1,v1,u2,v2])],[qF true u2_1 u2_2 (x1.getD 0),slF (rS rQ) p93 c94 (Po.sturm (Po.vals l1)),qF x2.isSome u2 v2 (x2.getD 0),qF x1.isSome u1 v1 (x1.getD 0),slF rE p1 c1 l1,eF u1 v1 x1,eF u2 v2 x2])) ?_ (fun hD8=> ?_)
    ·
     rintro ⟨u2_1,u2_2,u7_1⟩
     dsimp only [cw]
     refine zcd 5 6 kr ?_ ?_
     ·
      refine zu rfl rfl rfl rfl (.c rfl .n) ce53 (zaa (k1:=x2.isSome) (u1:=u2) (v1:=v2) (q1:=(x2.getD 0))) (.c (j:=2) rfl .n) ?_
      rintro ⟨u5_1,u5_2⟩ -
      dsimp only [aq,nq,cq]
      exact zda (hD4 (u2_1,u2_2,u5_1,u5_2,u7_1)) kr ((.of rfl):SubM _ _) .rfl .rfl ((.of [0,1,2,3,4,5,6,7] rfl):SelR _ _ _)
     ·
      refine zOa rfl rfl rfl rfl (zr zr28 rfl) (fun u6_1 _=> ?_)
      exact zda (hD5 (u2_1,u2_2,u6_1,u7_1)) kr ((.of rfl):SubM _ _) (zRc 1 rfl (zRc 0 rfl .nil)) .rfl ((.of [0,1,2,3,4,5,6] rfl):SelR _ _ _)
    refine zBa (X:=Nat×Nat) (k':=4) (L':=(lb 10 219)) (fun (u6_1,u7_1)=>([(10,.pointer (some ⟨u7_1,0,none⟩)),(9,.pointer (some ⟨u6_1,0,none⟩)),(32,.agg (cw [u2,v2]).toArray),(29,.agg (cw [u1,v1]).toArray),(8,.pointer (some ⟨b5,0,none⟩)),(7,.int .i64 0),(6,.pointer (some ⟨b2,0,none⟩)),(2,.int .i64 k)],[boxA u7_1 28 (cw [wz,wz]),boxA u6_1 28 (cw [wz,wz])],[boxA b5 76 [.slice p93 ((Po.sturm (Po.vals l1)).length) c94],boxA b2 48 (cw [wz,wz,wz,wz]),boxA b1 48 (cw [u1,v1,u2,v2])],[slF (rS rQ) p93 c94 (Po.sturm (Po.vals l1)),qF x2.isSome u2 v2 (x2.getD 0),qF x1.isSome u1 v1 (x1.getD 0),slF rE p1 c1 l1,eF u1 v1 x1,eF u2 v2 x2])) ?_ (fun hD9=> ?_)
    ·
     rintro ⟨u6_1,u7_1⟩
     dsimp only [cw]
     refine zAb 2 kr ?_
     ·
      refine zu rfl rfl rfl rfl (.c rfl .n) ce53 (zaa (k1:=x1.isSome) (u1:=u1) (v1:=v1) (q1:=(x1.getD 0))) (.c (j:=2) rfl .n) ?_
      rintro ⟨u2_1,u2_2⟩ -
      dsimp only [aq,nq,cq]
      exact zda (hD5 (u2_1,u2_2,u6_1,u7_1)) kr ((.of rfl):SubM _ _) .rfl .rfl ((.of [0,1,2,3,4,5,6] rfl):SelR _ _ _)
    refine zBa (X:=Wd×Wd) (k':=5) (L':=(lb 10 31)) (fun (u2_1,u2_2)=>([(30,.agg (cw [u2_1,u2_2]).toArray),(32,.agg (cw [u2,v2]).toArray),(8,.pointer (some ⟨b5,0,none⟩)),(7,.int .i64 0),(6,.pointer (some ⟨b2,0,none⟩)),(2,.int .i64 k)],[],[boxA b5 76 [.slice p93 ((Po.sturm (Po.vals l1)).length) c94],boxA b2 48 (cw [wz,wz,wz,wz]),boxA b1 48 (cw [u1,v1,u2,v2])],[qF true u2_1 u2_2 (x1.getD 0),slF (rS rQ) p93 c94 (Po.sturm (Po.vals l1)),qF x2.isSome u2 v2 (x2.getD 0),qF x1.isSome u1 v1 (x1.getD 0),slF rE p1 c1 l1,eF u1 v1 x1,eF u2 v2 x2])) ?_ (fun hD10=> ?_)
    ·
     rintro ⟨u2_1,u2_2⟩
     dsimp only [cw]
     refine zJe 5 6 7 kr ?_ ?_ ?_
     ·
      refine zu rfl rfl rfl rfl (.c rfl .n) ce53 (zaa (k1:=x2.isSome) (u1:=u2) (v1:=v2) (q1:=(x2.getD 0))) (.c (j:=2) rfl .n) ?_
      rintro ⟨u5_1,u5_2⟩ -
      dsimp only [aq,nq,cq]
      exact zda (hD6 (u2_1,u2_2,u5_1,u5_2)) kr ((.of rfl):SubM _ _) .rfl .rfl ((.of [0,1,2,3,4,5,6,7] rfl):SelR _ _ _)
     ·
      refine zOa rfl rfl rfl rfl (zr zr28 rfl) (fun u6_1 _=> ?_)
      exact zda (hD7 (u2_1,u2_2,u6_1)) kr ((.of rfl):SubM _ _) .rfl .rfl ((.of [0,1,2,3,4,5,6] rfl):SelR _ _ _)
     ·
      refine zOa rfl rfl rfl rfl (zr zr28 rfl) (fun u7_1 _=> ?_)
      exact zda (hD8 (u2_1,u2_2,u7_1)) kr ((.of rfl):SubM _ _) .rfl .rfl ((.of [0,1,2,3,4,5,6] rfl):SelR _ _ _)
    refine zBa (X:=Nat) (k':=5) (L':=(lb 10 91)) (fun u6_1=>([(9,.pointer (some ⟨u6_1,0,none⟩)),(32,.agg (cw [u2,v2]).toArray),(29,.agg (cw [u1,v1]).toArray),(8,.pointer (some ⟨b5,0,none⟩)),(7,.int .i64 0),(6,.pointer (some ⟨b2,0,none⟩)),(2,.int .i64 k)],[boxA u6_1 28 (cw [wz,wz])],[boxA b5 76 [.slice p93 ((Po.sturm (Po.vals l1)).length) c94],boxA b2 48 (cw [wz,wz,wz,wz]),boxA b1 48 (cw [u1,v1,u2,v2])],[slF (rS rQ) p93 c94 (Po.sturm (Po.vals l1)),qF x2.isSome u2 v2 (x2.getD 0),qF x1.isSome u1 v1 (x1.getD 0),slF rE p1 c1 l1,eF u1 v1 x1,eF u2 v2 x2])) ?_ (fun hD11=> ?_)
    ·
     rintro u6_1
     dsimp only [cw]
     refine zcd 2 7 kr ?_ ?_
     ·
      refine zu rfl rfl rfl rfl (.c rfl .n) ce53 (zaa (k1:=x1.isSome) (u1:=u1) (v1:=v1) (q1:=(x1.getD 0))) (.c (j:=2) rfl .n) ?_
      rintro ⟨u2_1,u2_2⟩ -
      dsimp only [aq,nq,cq]
      exact zda (hD7 (u2_1,u2_2,u6_1)) kr ((.of rfl):SubM _ _) .rfl .rfl ((.of [0,1,2,3,4,5,6] rfl):SelR _ _ _)
     ·
      refine zOa rfl rfl rfl rfl (zr zr28 rfl) (fun u7_1 _=> ?_)
      exact zda (hD9 (u6_1,u7_1)) kr ((.of rfl):SubM _ _) .rfl .rfl ((.of [0,1,2,3,4,5] rfl):SelR _ _ _)
    refine zBa (X:=Nat) (k':=5) (L':=(lb 10 155)) (fun u7_1=>([(10,.pointer (some ⟨u7_1,0,none⟩)),(32,.agg (cw [u2,v2]).toArray),(29,.agg (cw [u1,v1]).toArray),(8,.pointer (some ⟨b5,0,none⟩)),(7,.int .i64 0),(6,.pointer (some ⟨b2,0,none⟩)),(2,.int .i64 k)],[boxA u7_1 28 (cw [wz,wz])],[boxA b5 76 [.slice p93 ((Po.sturm (Po.vals l1)).length) c94],boxA b2 48 (cw [wz,wz,wz,wz]),boxA b1 48 (cw [u1,v1,u2,v2])],[slF (rS rQ) p93 c94 (Po.sturm (Po.vals l1)),qF x2.isSome u2 v2 (x2.getD 0),qF x1.isSome u1 v1 (x1.getD 0),slF rE p1 c1 l1,eF u1 v1 x1,eF u2 v2 x2])) ?_ (fun hD12=> ?_)
    ·
     rintro u7_1
     dsimp only [cw]
     refine zcd 2 6 kr ?_ ?_
     ·
      refine zu rfl rfl rfl rfl (.c rfl .n) ce53 (zaa (k1:=x1.isSome) (u1:=u1) (v1:=v1) (q1:=(x1.getD 0))) (.c (j:=2) rfl .n) ?_
      rintro ⟨u2_1,u2_2⟩ -
      dsimp only [aq,nq,cq]
      exact zda (hD8 (u2_1,u2_2,u7_1)) kr ((.of rfl):SubM _ _) .rfl .rfl ((.of [0,1,2,3,4,5,6] rfl):SelR _ _ _)
     ·
      refine zOa rfl rfl rfl rfl (zr zr28 rfl) (fun u6_1 _=> ?_)
      exact zda (hD9 (u6_1,u7_1)) kr ((.of rfl):SubM _ _) (zRc 1 rfl (zRc 0 rfl .nil)) .rfl ((.of [0,1,2,3,4,5] rfl):SelR _ _ _)
    refine zJe 2 6 7 kr ?_ ?_ ?_
    ·
     refine zu rfl rfl rfl rfl (.c rfl .n) ce53 (zaa (k1:=x1.isSome) (u1:=u1) (v1:=v1) (q1:=(x1.getD 0))) (.c (j:=2) rfl .n) ?_
     rintro ⟨u2_1,u2_2⟩ -
     dsimp only [aq,nq,cq]
     exact zda (hD10 (u2_1,u2_2)) kr ((.of rfl):SubM _ _) .rfl .rfl ((.of [0,1,2,3,4,5,6] rfl):SelR _ _ _)
    ·
     refine zOa rfl rfl rfl rfl (zr zr28 rfl) (fun u6_1 _=> ?_)
     exact zda (hD11 u6_1) kr ((.of rfl):SubM _ _) .rfl .rfl ((.of [0,1,2,3,4,5] rfl):SelR _ _ _)
    ·
     refine zOa rfl rfl rfl rfl (zr zr28 rfl) (fun u7_1 _=> ?_)
     exact zda (hD12 u7_1) kr ((.of rfl):SubM _ _) .rfl .rfl ((.of [0,1,2,3,4,5] rfl):SelR _ _ _)
end Go.Proofs.YtbiaimgafknkmaaGreat.Sp
namespace Go.Proofs.YtbiaimgafknkmaaGreat.Sp
open Go
set_option linter.unusedVariables false
section
variable {P : Program} {n : Sz} {m : Fm} {R : List Fa} {d : Option Tmp} {ty : TypeId} {ps : String} {af : Array Edge} {gd : Option (Nat × Bool)} {α : Type}
theorem zFe {t T:TypeId} {bytes:Nat} {z:Value} {x y:Operand} {r:Rp α} {p q:Option Addr} {k k2 cap2:Nat} {xs ys:List α} (i0 j:Nat) (hi0:R[i0]? =some (slF r p k xs)) (hj:R[j]? =some (slF r q cap2 ys)) (hu:P.underlying t=some (.slice T)) (hI:Inf P T r.sz bytes z) (hpos:0<r.sz) (hzs:z.cells.size=r.sz)
    (h1:evo m x=some (.slice p k k)) (hk:xs.length=k) (h2:evo m y=some (.slice q k2 cap2)) (hk2:ys.length=k2) (h0:0<k2) (hm:k+k2≤9223372036854775807) (hby:(k+k2)*bytes≤140737488355328):
    Ef P n ⟨d,.call ⟨.builtin .append,#[x,y],#[t,t]⟩,ty,ps,af,gd⟩ m [] R (Y:=Option Addr×Nat) (fun _=>True) (fun v=> .slice v.1 (k+k2) v.2) (fun v=>[rowA T r v.1 v.2 (xs++ys)]) (fun _=>[]):=by
  intro a f w hh g s rr ap hw hg K Q hK
  have e2':hh=Hp.emp:=s
  subst e2'
  have hxs:Sl r g p k xs:=Holds.get i0 hi0 rr
  have hs:Sl r g q cap2 ys:=Holds.get j hj rr
  obtain ⟨i,hi,hz,hsz,hbyt⟩:=hI.info
  subst hk;subst hk2
  have hexec:∀v w',(Builtin.append_ #[t,t] ty #[.slice p xs.length xs.length,.slice q ys.length cap2]).run P w= .ok v w'→(execOp a.eval ⟨d,.call ⟨.builtin .append,#[x,y],#[t,t]⟩,ty,ps,af,gd⟩).run P w= .ok (.value v) w':=fun v w' hr=>by
    simp only [execOp,resolve,invoke,builtin,Sem.run_bind,Sem.run_pure,Result.andThen_ok,List.map_toArray,List.map_cons,List.map_nil,f.ev h1,f.ev h2,hr]
  have hne:ys≠[]:=fun e=>by rw [e] at h0;exact absurd h0 (Nat.lt_irrefl 0)
  obtain ⟨b2,off2,news,hq,hnl,hnc,hn1,hne'⟩:=hs.flat hne
  subst hq
  have hnews:∀j u,news[j]? =some u→w.cell? ((⟨b2,off2,none⟩:Addr).add j)=some u:=fun j u e=>by rw [Addr.add_lit];exact hnc w hg j u e
  have hnl':news.length=ys.length*i.size:=by rw [hsz];exact hnl
  cases p with
  |none=>
    have hx0:xs=[]:=by
      cases xs with
      |nil=>rfl
      |cons u l=>
        obtain ⟨b,off,γ,e1,-,-⟩:=hxs.2.2.2 0 u rfl
        cases e1
    subst hx0
    have hr:=run_append_nil (P:=P) w t ty T i z hu hi hz ⟨b2,off2,none⟩ ys.length cap2 news hnl' hnews h0 (by simp at hm;omega) (by rw [hbyt];simp at hby;omega)
    simp only [List.length_nil] at hexec
    refine op_value (hexec _ _ hr) ?_
    have hge:=grownCap_ge w ys.length 0 T
    have hfin:=fun hM=>hK (some ⟨w.heap.size,0,none⟩,grownCap w ys.length 0 T) (w.drew.alloc (Obj.cells (news.toArray++Builtin.zeroCells z.cells (grownCap w ys.length 0 T - ys.length)) T)) trivial hM
    simp only [List.length_nil,Nat.zero_add] at hfin
    refine hfin (mem_drew (mem_new (w:=w.drew) hw hg ?_))
    refine .inr ⟨w.heap.size,0,news++(Builtin.zeroCells z.cells (grownCap w ys.length 0 T - ys.length)).toList,rfl,by simpa using hge,grownCap_le_maxLen w _ 0 T (by unfold maxLen;simp at hm;omega),?_,?_,?_⟩
    · simp only [List.length_append, hnl, Array.length_toList, size_zeroCells, hzs]
      have e:grownCap w ys.length 0 T=ys.length+(grownCap w ys.length 0 T - ys.length):=by omega
      have e':=congrArg (· *r.sz) e
      simp only [Nat.add_mul] at e'
      omega
    · congr 2;apply Array.ext';simp
    · have := els_join (r := r) (g := g) (A := []) (B := news) (rest := (Builtin.zeroCells z.cells (grownCap w ys.length 0 T - ys.length)).toList) (off := 0) (pre := []) (xs := []) (ys := ys) rfl (by simp) (fun _ _ e => by simp at e) hne'
      simpa using this
  |some pa=>
    obtain ⟨olds,hol,hoc,hox⟩:∃olds:List Value,olds.length=xs.length*r.sz∧(∀j u,olds[j]? =some u→w.cell? (pa.add j)=some u)∧∀i x,xs[i]? =some x→∃γ,Slc olds (i*r.sz) r.sz (r.enc x γ)∧r.ok g x γ:=by
      by_cases hx0:xs=[]
      · subst hx0
        exact ⟨[],by simp,fun _ _ e=>by simp at e,fun _ _ e=>by simp at e⟩
      · obtain ⟨b, off, olds, hp, hol, hoc, -, hox⟩ := hxs.flat hx0
        cases hp
        exact ⟨olds,hol,fun j u e=>by rw [Addr.add_lit];exact hoc w hg j u e,hox⟩
    have hr:=run_append_grow (P:=P) w t ty T i z hu hi hz pa xs.length xs.length olds (by rw [hsz];exact hol) hoc ⟨b2,off2,none⟩ ys.length cap2 news hnl' hnews (by omega) (by omega) (growslice_fits (by omega) (by rw [hbyt];exact hby))
    refine op_value (hexec _ _ hr) ?_
    have hge:=grownCap_ge w (xs.length+ys.length) xs.length T
    refine hK (some ⟨w.heap.size,0,none⟩,grownCap w (xs.length+ys.length) xs.length T) _ trivial (mem_drew (mem_new (w:=w.drew) hw hg ?_))
    refine .inr ⟨w.heap.size,0,olds++(news++(Builtin.zeroCells z.cells (grownCap w (xs.length+ys.length) xs.length T - (xs.length+ys.length))).toList),rfl,by simpa using hge,grownCap_le_maxLen w _ xs.length T (by unfold maxLen;omega),?_,?_,?_⟩
    · simp only [List.length_append, hnl, hol, Array.length_toList, size_zeroCells, hzs]
      have e:grownCap w (xs.length+ys.length) xs.length T=xs.length+ys.length+(grownCap w (xs.length+ys.length) xs.length T - (xs.length+ys.length)):=by omega
      have e':=congrArg (· *r.sz) e
      simp only [Nat.add_mul] at e'
      omega
    · congr 2;apply Array.ext';simp
    · have := els_join (r := r) (g := g) (A := olds) (B := news) (rest := (Builtin.zeroCells z.cells (grownCap w (xs.length + ys.length) xs.length T - (xs.length + ys.length))).toList) (off := 0) (pre := []) (xs := xs) (ys := ys) rfl hol hox hne'
      simpa using this
end
end Go.Proofs.YtbiaimgafknkmaaGreat.Sp
namespace Go.Proofs.YtbiaimgafknkmaaGreat.Sp
open Go
set_option linter.unusedVariables false
section
variable {P : Program} {Q : Exit → Act → World → Prop} {c : Cx} {n : Sz} {ops : Array Oper} {m : Fm} {OW O : List As} {R : List Fa} {k wi : Nat} {L : Array Bool}
theorem znf {α:Type} (i:Nat) {T:TypeId} {r:Rp α} {p:Option Addr} {cap:Nat} {xs:List α} {O2:List As} (hi:OW[i]? =some (rowA T r p cap xs)) (hs':SetAt i OW emA O2) (kont:RunD P ops Q c n wi k L m O2 O (slF r p cap xs :: R)):RunD P ops Q c n wi k L m OW O R:=fun hQ hs hcl a w hw hr g f s1 s2 ap mm=>by
  obtain ⟨h1,h2,a12,e,hA,hO,put⟩:=Sep.pick i hi s1
  subst e
  have hg2:=Hp.apart_join.1 mm.apart
  have hg3:=Hp.apart_join.1 hg2.1
  have hgap:h1.apart g:=hg3.1
  have hfact:=rowA_sl hA hgap
  have hle:g.le (g.join h1):=Hp.le_joinL _ _
  have apw:=Hp.apart_join.1 ap
  have sO2:Sep (g.join h1) O2 h2:=by
    have:Sep (g.join h1) (emA :: OW.eraseIdx i) (Hp.emp.join h2):=⟨Hp.emp,h2,Hp.emp_apart _,rfl,rfl,Sep.mono hle hO⟩
    have:=Sep.perm (zzb emA hi) this
    unfold SetAt at hs'
    rw [hs']
    simpa [Hp.emp_join] using this
  have hasw:Has w (h2.join hr):=Has.mono mm.hasH (Hp.join_le (Hp.le_trans (Hp.le_joinR a12) (Hp.le_joinL _ _)) (Hp.le_joinR ap))
  have hash1:Has w h1:=Has.mono mm.hasH (Hp.le_trans (Hp.le_joinL h1 h2) (Hp.le_joinL _ _))
  have mm2:MemAt c w (O2++O) (slF r p cap xs :: R) (h2.join hr) (g.join h1):=by
    refine ⟨Sep.app sO2 (Sep.mono hle s2) apw.2,⟨hfact,Holds.mono hle mm.holds⟩,?_,hasw,Has.join mm.hasG hash1,Hp.le_trans mm.le hle,?_,?_,mm.kept⟩
    · exact Hp.apart_join.2 ⟨Hp.apart_joinR.2 ⟨hg3.2,Hp.apart_symm a12⟩,Hp.apart_joinR.2 ⟨hg2.2,Hp.apart_symm apw.1⟩⟩
    · intro b e nn
      by_cases hgb:g b=none
      · have hb1 : h1 b ≠ none := fun x => nn (Hp.join_none.2 ⟨hgb, x⟩)
        by_cases d:c.D b=none
        · refine .inl (mm.newH b d (fun x => hb1 ?_))
          exact (Hp.join_none.1 (Hp.join_none.1 x).1).1
        · exact .inr d
      · exact mm.newG b e hgb
    · intro b e nn
      refine mm.newH b e (fun x=>nn ?_)
      have x1:=Hp.join_none.1 x
      exact Hp.join_none.2 ⟨(Hp.join_none.1 x1.1).2,x1.2⟩
  refine wpAnyI_strong (S':=SL wi h2 hr (g.join h1)) (fun L w2 ⟨x1,x2,x3⟩=>⟨x1,Has.mono x2 hle,fun z=>Has.join (Has.mono x2 (Hp.le_joinR (Hp.apart_symm hgap))) (x3 z)⟩) _ _ _ _ (kont hQ hs hcl a w h2 hr (g.join h1) f sO2 (Sep.mono hle s2) apw.2 mm2)
end
end Go.Proofs.YtbiaimgafknkmaaGreat.Sp
namespace Go.Proofs.YtbiaimgafknkmaaGreat.Sp
open Go
set_option linter.unusedVariables false
theorem inK_i8 {z:Int}:InK .i8 z↔ -128≤z∧z≤127:=by simp [InK,IntKind.min,IntKind.max,IntKind.bits,IntKind.signed]
section
variable {P : Program} {n : Sz} {m : Fm} {O : List As} {R : List Fa} {d : Option Tmp} {ty : TypeId} {ps : String} {af : Array Edge} {gd : Option (Nat × Bool)}
end
end Go.Proofs.YtbiaimgafknkmaaGreat.Sp
namespace Go.Proofs.YtbiaimgafknkmaaGreat.Sp
open Go
set_option linter.unusedVariables false
set_option maxRecDepth 100000
set_option maxHeartbeats 8000000
theorem zNb {p1:Option Addr} {n1:Nat} {c1:Nat} {l1:List Int} (hn1:l1.length=n1):Con Tryz.prog 8 [.slice p1 n1 c1] [] [slF (rI .i8) p1 c1 l1] (Y:=Unit) (fun y=>True) (fun y=> .bool true) (fun y=>[]) (fun y=>[]):=by
 refine zl Tryz.func8 rfl rfl rfl (fun c=> ?_)
 show RunC _ _ _ _ _ [(0,.slice p1 n1 c1)] [] [slF (rI .i8) p1 c1 l1]
 refine zQ 0 rfl (fun hL0=> ?_)
 refine zHa 0 rfl (fun hE0=> ?_)
 refine ze<|za<|e_p (zb rfl)<|zf<|zd<|ze<|ze<|za<|zM rfl rfl (.n) ce9 (zmf) (.n)<|e_p (zhc rfl)<|zf<|zd<|zSa rfl rfl<|zB<|zd<|ze<|ze<|za<|e_mv rfl<|e_p (zD yi rfl)<|e_p (zwa rfl rfl)<|zf<|zd<|zC rfl (fun h23=> ?_) (fun h23=> ?_)
 ·
  refine ze<|za<|e_p (zb rfl)<|zf<|zd<|zE<|zq ?_
  exact zA Tryz.results8 () trivial (zp rfl) rfl (ho:=(.n:PickO _ _ _)) (.n:SelR _ _ _)
 ·
  have hn4:n1≤4:=by omega
  refine zB<|zd<|ze<|za<|zsa rfl rfl (zL (enc:=fun z:Int=>[ya yb z]) (ok:=InK .i64) (h1:=fun _=>rfl) (h2:=fun _=>rfl) (k:=1) yd inf3 rfl dd dd dd (.c (x:=1) rfl rfl (fun _ _=>by exact zua.2 om) .n)) (fun b1 _=> ?_)
  refine zV 0 rfl .z<|zk rfl rfl (.c rfl .n) ce40 (zoc (p1:=some ⟨b1,0,none⟩) (n1:=1) (c1:=1) (l1:=[1]) (hn1:=by rfl) (hm1:=dd)) (.c (j:=0) rfl .n) ?_
  rintro ⟨p92,c93⟩ -
  dsimp only [aq,nq,cq]
  refine e_p (zb rfl)<|zf<|zd<|ze ?_
  have e4:(Po.ofL ([1]):List Rat)=Po.pqn l1 0:=by rfl
  rw [e4]
  refine za<|e_p (zb rfl)<|zf<|zd<|ze<|ze<|zNf (rI .i64)<|za<|e_mv rfl<|e_p (zD yi rfl)<|e_mv rfl<|zf<|zd<|zy<|zfa (X:=Nat×(Option Addr)×Nat×(Option Addr)×Nat) (fun x:Nat×(Option Addr)×Nat×(Option Addr)×Nat=>x.1≤n1) (fun x=>[(4,.slice (x.2.2.2.1) ((Po.rsn l1 x.1).length) (x.2.2.2.2)),(3,.slice (x.2.1) ((Po.pqn l1 x.1).length) (x.2.2.1)),(28,ya yb ((x.1:Nat):Int)),(27,ya yb ((n1:Nat):Int)),(26,.slice p1 n1 c1),(2,.bool false)]) (fun x=>[]) (fun x=>[slF rQ (x.2.1) (x.2.2.1) (Po.pqn l1 x.1),slF (rI .i64) (x.2.2.2.1) (x.2.2.2.2) (Po.rsn l1 x.1),slF (rI .i64) none 0 ([]),slF rQ p92 c93 (Po.pqn l1 0),slF (rI .i64) (some ⟨b1,0,none⟩) 1 ([1]),slF (rI .i8) p1 c1 l1]) (fun x:Nat×(Option Addr)×Nat×(Option Addr)×Nat=>n1 - x.1) (0,p92,c93,none,0) (show 0≤n1 from by exact Nat.zero_le _) ((.e rfl rfl (.e rfl rfl (.e rfl (by first|rfl|(congr 1;omega)|simp_all) (.of rfl)))):SubM _ _) (ho:=(.n:PickO _ _ _)) ((.c (j:=1) rfl (.e (j:=0) rfl rfl (.of [0,1,2,3] rfl))):SelR _ _ _) ?_
  rintro ⟨i,pP,cP,pR,cR⟩ hI
  replace hI:i≤n1:=hI
  try dsimp only
  refine zQ 1 rfl (fun hLR=> ?_)
  refine ze<|za<|e_p (zba rfl rfl)<|zf<|zd<|ze<|zC rfl (fun h29=> ?_) (fun h29=> ?_)
  ·
   have hi4:i<n1:=by omega
   have hmd:=Po.md_rng (l1.getD i 0)
   have hpl:=Po.pqn_len l1 i
   have hrl:=Po.rsn_len l1 i
   have hrr:=Po.rsn_rng l1 i
   unfold Po.md at hmd
   have hfc:Po.bd 3 (Po.vals [some (Rat.divInt (-((l1.getD i 0).tmod 80)) 4),some (((1:Int):Int):Rat)]):=Po.fc_bd hmd
   refine zB<|zd<|ze<|zy<|ze<|za<|zR (x0:=(l1.getD i 0)) 5 i rfl yi sz56 rfl rfl rfl (by first|rfl|assumption|omega|(rw [List.length_drop,List.length_take];omega)|(simp;omega)) rfl rfl (gD (d:=0) om) (fun b5 o6 hok7=> ?_)
   replace hok7:=inK_i8.1 hok7
   refine e_ru (zo (j:=0) 0 ty56 rfl rfl rfl rfl)<|e_p (zb rfl)<|zf<|zd<|ze<|za<|e_mv rfl<|e_p (zx (z:=(l1.getD i 0)) rfl (by rw [Tryz.underlying56];rfl) Tryz.underlying3 (w64 om))<|e_p (zTa (z:=(l1.getD i 0).tmod 80) rfl rfl (by first|decide|exact ⟨rfl,by omega,by omega⟩|omega) rfl)<|e_p (zb rfl)<|zf<|zd<|ze<|za<|e_mv rfl<|e_p (zYd (z:=(-((l1.getD i 0).tmod 80))) rfl (w64 om))<|zk rfl rfl (.c rfl (.c rfl .n)) ce41 (zYc (z1:=(-((l1.getD i 0).tmod 80))) (z2:=4) (hz1:=om) (hz2:=dd) (hy:=dd)) (.n) ?_
   rintro ⟨w38,w49⟩ -
   dsimp only [aq,nq,cq]
   refine e_mv rfl<|e_p (zm rfl rfl)<|e_p (zm rfl rfl)<|zH rfl rfl (zr zr28 rfl) (fun b10=> ?_)
   refine zj 0 rfl rfl rfl rfl rfl sz28 rfl (.t4 .nil) .z<|e_p (zb rfl)<|zf<|zd<|ze<|zU (OW:=[]) (O:=[boxA b10 28 (cw [w38,w49])]) 100000 mixed (.then (.block (.then (.then (.block (.then .ret)))))) kr<|e_dm 0 rfl rfl rfl<|e_u 1 rfl rfl (zc 0 ty28 rfl rfl (.t4 .nil))<|e_one 2 (zu rfl rfl rfl rfl (.c rfl .n) ce42 (zkb (z:=1) (hz:=by first|omega|rfl|assumption|decide)) (.n) ?_)
   rintro ⟨w311,w412⟩ -
   dsimp only [aq,nq,cq]
   refine e_one 3 (zoe rfl rfl rfl rfl (zCa (r:=rE) (k:=2) Tryz.underlying23 inf28 rfl dd dd dd (.c (x:=(some (Rat.divInt (-((l1.getD i 0).tmod 80)) 4))) (cs:=[w38.b,w38.l,w49.b,w49.l]) (w38,w49) rfl rfl rfl (fun g hr=>qF_e (Holds.get 1 rfl hr)) (.c (x:=(some ((1:Int):Rat))) (cs:=[w311.b,w311.l,w412.b,w412.l]) (w311,w412) rfl rfl rfl (fun g hr=>qF_e (Holds.get 0 rfl hr)) .n))) (fun b13 _=> ?_))
   refine zVa (addQE 3 rfl)<|zQb 0 rfl .z<|e_one 4 (zu rfl rfl rfl rfl (.c rfl (.c rfl .n)) ce17 (zvc (p1:=pP) (n1:=(Po.pqn l1 i).length) (c1:=cP) (l1:=((Po.pqn l1 i).map some)) (p2:=some ⟨b13,0,none⟩) (n2:=2) (c2:=2) (l2:=[(some (Rat.divInt (-((l1.getD i 0).tmod 80)) 4)),(some ((1:Int):Rat))]) (hn1:=by exact (List.length_map _).trans rfl) (hm1:=om) (hn2:=by rfl) (hm2:=by first|omega|rfl|assumption|decide) (hm12:=om) (hb1:=by rw [Po.vals_some];exact Po.bd_mono (Po.pqn_bd l1 om) dd) (hb2:=by exact Po.bd_mono hfc dd) (hs:=by rw [Po.vals_some];exact fun k lo n _=>Po.cv_hq_of (K:=1) (L:=3) (N:=10) (Po.bd_cl (Po.pqn_bd l1 om)) (Po.bd_cl hfc) (Nat.le_trans (Po.cl_le_len _) om) dd k lo n)) (.c (j:=1) rfl (.c (j:=0) rfl .n)) ?_)
   rintro ⟨p914,c915⟩ -
   dsimp only [aq,nq,cq]
   refine e_pv 5 rfl rfl (zb rfl)<|zT kr<|zd<|ze<|za<|e_p (zb rfl)<|zf<|zd<|ze<|zy<|zfa (X:=Nat) (fun x:Nat=>x≤(Po.rsn l1 i).length∧Po.ps ((l1.getD i 0).tmod 80) ((Po.rsn l1 i).drop x)+x=Po.ps ((l1.getD i 0).tmod 80) (Po.rsn l1 i)) (fun x=>[(10,ya yb ((x:Nat):Int)),(3,.slice p914 ((Po.mul (Po.vals ((Po.pqn l1 i).map some)) (Po.vals ([(some (Rat.divInt (-((l1.getD i 0).tmod 80)) 4)),(some ((1:Int):Rat))]))).length) c915),(7,ya yb ((l1.getD i 0).tmod 80)),(4,.slice pR ((Po.rsn l1 i).length) cR),(28,ya yb ((i:Nat):Int)),(27,ya yb ((n1:Nat):Int)),(26,.slice p1 n1 c1),(2,.bool false)]) (fun x=>[boxA b10 28 (cw [w38,w49])]) (fun x=>[slF rQ p914 c915 (Po.mul (Po.vals ((Po.pqn l1 i).map some)) (Po.vals ([(some (Rat.divInt (-((l1.getD i 0).tmod 80)) 4)),(some ((1:Int):Rat))]))),slF rE (some ⟨b13,0,none⟩) 2 ([(some (Rat.divInt (-((l1.getD i 0).tmod 80)) 4)),(some ((1:Int):Rat))]),slF rE pP cP ((Po.pqn l1 i).map some),qF true w311 w412 ((1:Int):Rat),qF true w38 w49 (Rat.divInt (-((l1.getD i 0).tmod 80)) 4),atF b5 o6 [.int .i8 (l1.getD i 0)],slF rQ pP cP (Po.pqn l1 i),slF (rI .i64) pR cR (Po.rsn l1 i),slF (rI .i64) none 0 ([]),slF rQ p92 c93 (Po.pqn l1 0),slF (rI .i64) (some ⟨b1,0,none⟩) 1 ([1]),slF (rI .i8) p1 c1 l1]) (fun x:Nat=>(Po.rsn l1 i).length - x) 0 (show 0≤(Po.rsn l1 i).length∧Po.ps ((l1.getD i 0).tmod 80) ((Po.rsn l1 i).drop 0)+0=Po.ps ((l1.getD i 0).tmod 80) (Po.rsn l1 i) from by exact ⟨Nat.zero_le _,rfl⟩) ((.e rfl (by first|rfl|(congr 1;omega)|simp_all) (.of rfl)):SubM _ _) (ho:=((.c (i:=1) rfl .n):PickO _ _ _)) ((.of [0,1,2,3,4,5,6,7,8,9,10,11] rfl):SelR _ _ _) ?_
   rintro a hA
   replace hA:a≤(Po.rsn l1 i).length∧Po.ps ((l1.getD i 0).tmod 80) ((Po.rsn l1 i).drop a)+a=Po.ps ((l1.getD i 0).tmod 80) (Po.rsn l1 i):=hA
   try dsimp only [cw]
   obtain ⟨ha,hps0⟩:=hA
   refine ze<|zWa (X:=Unit) (fun x=>True) (fun x=>[(57,.bool (decide ((((a:Nat):Int)<(((Po.rsn l1 i).length:Nat):Int))∧(((Po.rsn l1 i).getD a 0)<(l1.getD i 0).tmod 80)))),(10,ya yb ((a:Nat):Int)),(3,.slice p914 ((Po.mul (Po.vals ((Po.pqn l1 i).map some)) (Po.vals ([(some (Rat.divInt (-((l1.getD i 0).tmod 80)) 4)),(some ((1:Int):Rat))]))).length) c915),(7,ya yb ((l1.getD i 0).tmod 80)),(4,.slice pR ((Po.rsn l1 i).length) cR),(28,ya yb ((i:Nat):Int)),(27,ya yb ((n1:Nat):Int)),(26,.slice p1 n1 c1),(2,.bool false)]) (fun x=>[boxA b10 28 (cw [w38,w49])]) (fun x=>[slF rQ p914 c915 (Po.mul (Po.vals ((Po.pqn l1 i).map some)) (Po.vals ([(some (Rat.divInt (-((l1.getD i 0).tmod 80)) 4)),(some ((1:Int):Rat))]))),slF rE (some ⟨b13,0,none⟩) 2 ([(some (Rat.divInt (-((l1.getD i 0).tmod 80)) 4)),(some ((1:Int):Rat))]),slF rE pP cP ((Po.pqn l1 i).map some),qF true w311 w412 ((1:Int):Rat),qF true w38 w49 (Rat.divInt (-((l1.getD i 0).tmod 80)) 4),atF b5 o6 [.int .i8 (l1.getD i 0)],slF rQ pP cP (Po.pqn l1 i),slF (rI .i64) pR cR (Po.rsn l1 i),slF (rI .i64) none 0 ([]),slF rQ p92 c93 (Po.pqn l1 0),slF (rI .i64) (some ⟨b1,0,none⟩) 1 ([1]),slF (rI .i8) p1 c1 l1]) ?_ ?_
   ·
    refine za<|e_mv rfl<|e_mv rfl<|e_p (zD yd rfl)<|e_p (zba rfl rfl)<|zga rfl rfl (zha rfl) (fun h16=> ?_) (fun h16=> ?_)
    ·
     refine e_mv rfl<|e_mv rfl<|zR (x0:=((Po.rsn l1 i).getD a 0)) 7 a rfl yd sz3 rfl rfl rfl (by first|rfl|assumption|omega|(rw [List.length_drop,List.length_take];omega)|(simp;omega)) rfl rfl (gD (d:=0) (by first|omega)) (fun b17 o18 hok19=> ?_)
     replace hok19:=zua.1 hok19
     refine e_ru (zo (j:=0) 0 ty3 rfl rfl rfl rfl)<|e_mv rfl<|e_p (zba rfl rfl)<|e_p (zJ rfl rfl)<|zf ?_
     exact zna () (show True from by first|trivial|omega|simp_all) ((.e rfl (congrArg Value.bool cbu) (.of rfl)):SubM _ _) (ho:=((.c (i:=0) rfl .n):PickO _ _ _)) ((.of [1,2,3,4,5,6,7,8,9,10,11,12] rfl):SelR _ _ _)
    ·
     refine e_no<|e_no<|e_no<|e_no<|e_no<|e_no<|e_p (zJ rfl rfl)<|zf ?_
     exact zna () (show True from by first|trivial|omega|simp_all) ((.e rfl (congrArg Value.bool cbu) (.of rfl)):SubM _ _) (ho:=((.c (i:=0) rfl .n):PickO _ _ _)) ((.of [0,1,2,3,4,5,6,7,8,9,10,11] rfl):SelR _ _ _)
   ·
    rintro ⟨⟩ -
    try dsimp only [cw]
    refine zC rfl (fun h57=> ?_) (fun h57=> ?_)
    ·
     have hps1:=Po.ps_yes (n:=((l1.getD i 0).tmod 80)) (R:=(Po.rsn l1 i)) (a:=a) om h57.2
     refine zB<|zd<|zy<|za<|e_mv rfl<|e_p (zK (z:=(((a+1):Nat):Int)) rfl rfl (w64 om))<|e_p (zb rfl)<|zf<|zN<|zZ (a+1) (show (a+1)≤(Po.rsn l1 i).length∧Po.ps ((l1.getD i 0).tmod 80) ((Po.rsn l1 i).drop (a+1))+(a+1)=Po.ps ((l1.getD i 0).tmod 80) (Po.rsn l1 i) from by exact ⟨by omega,by omega⟩) (by show (Po.rsn l1 i).length - (a+1)<(Po.rsn l1 i).length - a;omega) ((.of rfl):SubM _ _) (ho:=((.c (i:=0) rfl .n):PickO _ _ _)) ((.of [0,1,2,3,4,5,6,7,8,9,10,11] rfl):SelR _ _ _)
    ·
     have hps2:=Po.ps_no (n:=((l1.getD i 0).tmod 80)) (R:=(Po.rsn l1 i)) (a:=a) (fun q=>h57 ⟨by omega,q.2⟩)
     have hps:Po.ps (Po.md (l1.getD i 0)) (Po.rsn l1 i)=a:=by show Po.ps ((l1.getD i 0).tmod 80) (Po.rsn l1 i)=a;omega
     refine zea<|zi<|zi<|zw<|zd<|zWa (X:=Unit) (fun x=>True) (fun x=>[(71,.bool (decide ((((a:Nat):Int)=(((Po.rsn l1 i).length:Nat):Int))∨(((Po.rsn l1 i).getD a 0)≠(l1.getD i 0).tmod 80)))),(10,ya yb ((a:Nat):Int)),(3,.slice p914 ((Po.mul (Po.vals ((Po.pqn l1 i).map some)) (Po.vals ([(some (Rat.divInt (-((l1.getD i 0).tmod 80)) 4)),(some ((1:Int):Rat))]))).length) c915),(7,ya yb ((l1.getD i 0).tmod 80)),(4,.slice pR ((Po.rsn l1 i).length) cR),(28,ya yb ((i:Nat):Int)),(27,ya yb ((n1:Nat):Int)),(26,.slice p1 n1 c1),(2,.bool false)]) (fun x=>[boxA b10 28 (cw [w38,w49])]) (fun x=>[slF rQ p914 c915 (Po.mul (Po.vals ((Po.pqn l1 i).map some)) (Po.vals ([(some (Rat.divInt (-((l1.getD i 0).tmod 80)) 4)),(some ((1:Int):Rat))]))),slF rE (some ⟨b13,0,none⟩) 2 ([(some (Rat.divInt (-((l1.getD i 0).tmod 80)) 4)),(some ((1:Int):Rat))]),slF rE pP cP ((Po.pqn l1 i).map some),qF true w311 w412 ((1:Int):Rat),qF true w38 w49 (Rat.divInt (-((l1.getD i 0).tmod 80)) 4),atF b5 o6 [.int .i8 (l1.getD i 0)],slF rQ pP cP (Po.pqn l1 i),slF (rI .i64) pR cR (Po.rsn l1 i),slF (rI .i64) none 0 ([]),slF rQ p92 c93 (Po.pqn l1 0),slF (rI .i64) (some ⟨b1,0,none⟩) 1 ([1]),slF (rI .i8) p1 c1 l1]) ?_ ?_
     ·
      refine za<|e_mv rfl<|e_mv rfl<|e_p (zD yd rfl)<|e_p (zia rfl rfl)<|zga rfl rfl (zha rfl) (fun h20=> ?_) (fun h20=> ?_)
      ·
       refine e_no<|e_no<|e_no<|e_no<|e_no<|e_no<|e_p (zJ rfl rfl)<|zf ?_
       exact zna () (show True from by first|trivial|omega|simp_all) ((.e rfl (congrArg Value.bool cbu) (.of rfl)):SubM _ _) (ho:=((.c (i:=0) rfl .n):PickO _ _ _)) ((.of [0,1,2,3,4,5,6,7,8,9,10,11] rfl):SelR _ _ _)
      ·
       refine e_mv rfl<|e_mv rfl<|zR (x0:=((Po.rsn l1 i).getD a 0)) 7 a rfl yd sz3 rfl rfl rfl (by first|rfl|assumption|omega|(rw [List.length_drop,List.length_take];omega)|(simp;omega)) rfl rfl (gD (d:=0) (by first|omega)) (fun b21 o22 hok23=> ?_)
       replace hok23:=zua.1 hok23
       refine e_ru (zo (j:=0) 0 ty3 rfl rfl rfl rfl)<|e_mv rfl<|e_p (zfb rfl rfl)<|e_p (zJ rfl rfl)<|zf ?_
       exact zna () (show True from by first|trivial|omega|simp_all) ((.e rfl (congrArg Value.bool cbu) (.of rfl)):SubM _ _) (ho:=((.c (i:=0) rfl .n):PickO _ _ _)) ((.of [1,2,3,4,5,6,7,8,9,10,11,12] rfl):SelR _ _ _)
     ·
      rintro ⟨⟩ -
      try dsimp only [cw]
      refine zC rfl (fun h71=> ?_) (fun h71=> ?_)
      ·
       refine zU (OW:=[]) (O:=[boxA b10 28 (cw [w38,w49])]) 9 mixed (.block (.then (.then (.block (.then .ret))))) kr<|e_dm 0 rfl rfl rfl<|e_dm 1 rfl rfl rfl<|e_dm 2 rfl rfl rfl<|e_pv 3 rfl rfl (zEd (hi:=a) yd sz3 rfl rfl rfl om)<|zVa (zFd 7 rfl a om)<|e_dm 4 rfl rfl rfl<|e_dm 6 rfl rfl rfl<|e_dm 7 rfl rfl rfl<|e_pv 8 rfl rfl (zbd (lo:=a) (hi:=(Po.rsn l1 i).length) yd sz3 rfl (.s rfl) .n (.inr ⟨_,rfl⟩) (.inl ⟨rfl,rfl⟩) om om)<|znb (zae 8 rfl a ((Po.rsn l1 i).length) om om) (fun _ _=> ?_)
       refine e_one 5 (zOa rfl rfl rfl rfl (zL (enc:=fun z:Int=>[ya yb z]) (ok:=InK .i64) (h1:=fun _=>rfl) (h2:=fun _=>rfl) (k:=1) yd inf3 rfl dd dd dd (.c (x:=(l1.getD i 0).tmod 80) rfl rfl (fun _ _=>by exact zua.2 om) .n)) (fun b24 _=> ?_))
       refine e_one 9 (zpe (A':=fun v:Option Addr×Nat=>rowA 3 (rI .i64) v.1 v.2 (([(l1.getD i 0).tmod 80])++(((Po.rsn l1 i).take ((Po.rsn l1 i).length)).drop a))) kr rfl rfl rfl (zma 0 rfl yd inf3 dd rfl rfl (by first|rfl|assumption|omega|(rw [List.length_drop,List.length_take];omega)|(simp;omega)) rfl (by first|rfl|assumption|omega|(rw [List.length_drop,List.length_take];omega)|(simp;omega)) om om) ?_)
       rintro ⟨p25,c26⟩ -
       dsimp only [aq,nq,cq]
       refine znf 0 rfl .z<|e_one 10 (zoe rfl rfl rfl rfl (zFe 2 0 rfl rfl yd inf3 dd rfl rfl (by first|rfl|assumption|omega|(rw [List.length_drop,List.length_take];omega)|(simp;omega)) rfl (by first|rfl|assumption|omega|(rw [List.length_drop,List.length_take];omega)|(simp;omega)) om om om) ?_)
       rintro ⟨p27,c28⟩ -
       dsimp only [aq,nq,cq]
       refine e_pv 11 rfl rfl (zb rfl)<|zT kr<|zN<|zd<|za<|e_p (zK (z:=(((i+1):Nat):Int)) rfl rfl (w64 om))<|e_mv rfl<|zf ?_
       have e29:(Po.mul (Po.vals ((Po.pqn l1 i).map some)) (Po.vals ([(some (Rat.divInt (-((l1.getD i 0).tmod 80)) 4)),(some ((1:Int):Rat))])):List Rat)=Po.pqn l1 (i+1):=by rw [Po.vals_some];rfl
       rw [e29]
       refine zYa 1 rfl (.s .z) ?_
       have hins:(((Po.rsn l1 i).take a)++(([(l1.getD i 0).tmod 80])++(((Po.rsn l1 i).take ((Po.rsn l1 i).length)).drop a)))=Po.rsn l1 (i+1):=by rw [show Po.rsn l1 (i+1)=Po.ins (Po.md (l1.getD i 0)) (Po.rsn l1 i) from rfl];unfold Po.ins;rw [hps,if_pos (by rcases h71 with q|q;exact .inl om;exact .inr q),List.take_length];rfl
       refine zZ ((i+1),p914,c915,p27,c28) (show (i+1)≤n1 from by omega) (by show n1 - (i+1)<n1 - i;omega) ((.e rfl (by rw [← hins];simp;omega) (.of rfl)):SubM _ _) (ho:=(.n:PickO _ _ _)) ((.c (j:=4) rfl (.e (j:=0) rfl (by rw [← hins];rfl) (.of [12,13,14,15] rfl))):SelR _ _ _)
      ·
       refine zB<|zN<|zd<|za<|e_p (zK (z:=(((i+1):Nat):Int)) rfl rfl (w64 om))<|e_mv rfl<|zf ?_
       have e30:(Po.mul (Po.vals ((Po.pqn l1 i).map some)) (Po.vals ([(some (Rat.divInt (-((l1.getD i 0).tmod 80)) 4)),(some ((1:Int):Rat))])):List Rat)=Po.pqn l1 (i+1):=by rw [Po.vals_some];rfl
       rw [e30]
       have hins:(Po.rsn l1 i)=Po.rsn l1 (i+1):=by rw [show Po.rsn l1 (i+1)=Po.ins (Po.md (l1.getD i 0)) (Po.rsn l1 i) from rfl];unfold Po.ins;rw [hps,if_neg (fun q=>h71 (by rcases q with q|q;exact .inl om;exact .inr q))]
       refine zZ ((i+1),p914,c915,pR,cR) (show (i+1)≤n1 from by omega) (by show n1 - (i+1)<n1 - i;omega) ((.e rfl (by rw [← hins]) (.of rfl)):SubM _ _) (ho:=(.n:PickO _ _ _)) ((.c (j:=0) rfl (.e (j:=7) rfl (by rw [← hins]) (.of [8,9,10,11] rfl))):SelR _ _ _)
  ·
   have hi4:i≤4:=by omega
   obtain ⟨β,hβ1,hβ2,hT,hF,hd1,hd2,hbt,hrt⟩:=Po.roots_law l1 hi4
   have hcb:=Po.pqn_cb l1 hi4
   have hbd:=Po.pqn_bd l1 hi4
   have hpl:=Po.pqn_len l1 i
   obtain ⟨hS1,hS2⟩:=Po.sok_of (p:=(Po.pqn l1 i)) om (Po.cb_mono hcb dd)
   have hrs:=Po.rsok_of (p:=(Po.pqn l1 i)) om (Po.cb_mono hcb dd)
   have hrl:=Po.rsn_len l1 i
   have hFl:=Po.fit_len hF
   rw [List.length_map] at hFl
   have hcl:=(Po.pqI_of l1 i).1
   have hne:(Po.cl (Po.pqn l1 i)).length≠0:=by rw [hcl];omega
   have hneS:(Po.sturm (Po.pqn l1 i)).length≠0:=fun e=>hne ((Po.sturm_nil _).1 e)
   have hSl:=Po.sturm_len (Po.pqn l1 i)
   have hasc:=Po.asc_q4 (Po.rsn_asc l1 i)
   have hrr:=Po.rsn_rng l1 i
   refine zea<|zi<|zi<|zw<|zd<|ze<|za<|e_mv rfl<|zra (addQE 0 rfl)<|zk rfl rfl (.c rfl .n) ce43 (zqc (p1:=pP) (n1:=(Po.pqn l1 i).length) (c1:=cP) (l1:=((Po.pqn l1 i).map some)) (n:=30) (hn1:=by exact List.length_map _) (hm1:=om) (hok:=by rw [Po.vals_some];exact hS1) (hb:=by rw [Po.vals_some];exact Po.bd_mono hbd dd) (hne:=by rw [Po.vals_some];exact hneS) (hne2:=by rw [Po.vals_some];exact hne) (hlS:=by rw [Po.vals_some];omega) (hA:=by rw [Po.vals_some,hβ1,hFl];omega) (hk:=by rw [Po.vals_some,hβ1];exact Po.isk_dy hS2 hβ2 30 0 _ _ hd1 hd2 dd hT)) (.c (j:=0) rfl .n) ?_
   rintro ⟨p931,c932⟩ -
   dsimp only [aq,nq,cq]
   refine e_mv rfl<|e_p (zm rfl rfl)<|e_p (zm rfl rfl)<|e_p (zb rfl)<|e_p (zb rfl)<|zf<|zd<|ze ?_
   have e33:(Po.iso (Po.sturm (Po.vals ((Po.pqn l1 i).map some))) 30 (-(Po.bound (Po.cl (Po.vals ((Po.pqn l1 i).map some))))) (Po.bound (Po.cl (Po.vals ((Po.pqn l1 i).map some)))):List (Rat×Rat))=Po.iso (Po.sturm (Po.pqn l1 i)) 30 (-β) β:=by rw [Po.vals_some,hβ1]
   rw [e33]
   obtain ⟨I9,hI9⟩:∃z,z=(Po.iso (Po.sturm (Po.pqn l1 i)) 30 (-β) β):=⟨_,rfl⟩
   have e34:(Po.iso (Po.sturm (Po.pqn l1 i)) 30 (-β) β:List (Rat×Rat))=I9:=by exact hI9.symm
   rw [e34]
   rw [← hI9] at hF hFl
   refine zWa (X:=Unit) (fun x=>True) (fun x=>[(97,.bool false),(11,.slice p931 ((I9).length) c932),(4,.slice pR ((Po.rsn l1 i).length) cR),(3,.slice pP ((Po.pqn l1 i).length) cP),(2,.bool false)]) (fun x=>[]) (fun x=>[slF rR p931 c932 I9,slF rE pP cP ((Po.pqn l1 i).map some),slF rQ pP cP (Po.pqn l1 i),slF (rI .i64) pR cR (Po.rsn l1 i),slF (rI .i64) none 0 ([]),slF rQ p92 c93 (Po.pqn l1 0),slF (rI .i64) (some ⟨b1,0,none⟩) 1 ([1]),slF (rI .i8) p1 c1 l1]) ?_ ?_
   ·
    refine za<|e_mv rfl<|e_p (zfb rfl rfl)<|e_mv rfl<|e_mv rfl<|e_p (zD yg rfl)<|e_mv rfl<|e_p (zD yd rfl)<|e_p (zfb rfl rfl) ?_
    rw [show (decide ((((I9).length:Nat):Int)≠(((Po.rsn l1 i).length:Nat):Int)))=false from by exact decide_eq_false (fun h=>h om)]
    refine e_p (zJ rfl rfl)<|zf ?_
    exact zna () (show True from by first|trivial|omega|simp_all) ((.of rfl):SubM _ _) (ho:=(.n:PickO _ _ _)) ((.of [0,1,2,3,4,5,6,7] rfl):SelR _ _ _)
   ·
    rintro ⟨⟩ -
    try dsimp only
    refine zSa rfl rfl<|zB<|zd<|ze<|ze<|za<|e_mv rfl<|e_p (zD yd rfl)<|e_mv rfl<|zf<|zd<|zy<|zfa (X:=Nat) (fun x:Nat=>x≤(Po.rsn l1 i).length) (fun x=>[(100,ya yb ((x:Nat):Int)),(99,ya yb (((Po.rsn l1 i).length:Nat):Int)),(98,.slice pR ((Po.rsn l1 i).length) cR),(11,.slice p931 ((I9).length) c932),(3,.slice pP ((Po.pqn l1 i).length) cP)]) (fun x=>[]) (fun x=>[slF rR p931 c932 I9,slF rE pP cP ((Po.pqn l1 i).map some),slF rQ pP cP (Po.pqn l1 i),slF (rI .i64) pR cR (Po.rsn l1 i),slF (rI .i64) none 0 ([]),slF rQ p92 c93 (Po.pqn l1 0),slF (rI .i64) (some ⟨b1,0,none⟩) 1 ([1]),slF (rI .i8) p1 c1 l1]) (fun x:Nat=>(Po.rsn l1 i).length - x) 0 (show 0≤(Po.rsn l1 i).length from by exact Nat.zero_le _) ((.e rfl (by first|rfl|(congr 1;omega)|simp_all) (.of rfl)):SubM _ _) (ho:=(.n:PickO _ _ _)) ((.of [0,1,2,3,4,5,6,7] rfl):SelR _ _ _) ?_
    rintro ii hJ
    replace hJ:ii≤(Po.rsn l1 i).length:=hJ
    try dsimp only
    refine ze<|za<|e_p (zba rfl rfl)<|zf<|zd<|ze<|zC rfl (fun h101=> ?_) (fun h101=> ?_)
    ·
     have hfit:=Po.fit_get hF ii (by rw [List.length_map];omega)
     obtain ⟨hq4,hq4m⟩:=Po.map_q4_get (R:=(Po.rsn l1 i)) (i:=ii) om
     rw [hq4] at hfit
     obtain ⟨hf1,hf2,hf3,jj,hjj,hda,hdb⟩:=hfit
     have hrr2:=hrr _ (Po.getD_mem' (R:=(Po.rsn l1 i)) (i:=ii) om)
     have hqa:=Po.dy_hq hda om
     have hqb:=Po.dy_hq hdb om
     have hqr:=Po.q4_hq hrr2
     have hrf:=Po.rfe_root (k:=10) hneS hasc hbt hrt hq4m hf1 hf2 hf3 dd
     refine zB<|zd<|ze<|zy<|ze<|za<|e_mv rfl<|zR (x0:=((Po.rsn l1 i).getD ii 0)) 3 ii rfl yd sz3 rfl rfl rfl (by first|rfl|assumption|omega|(rw [List.length_drop,List.length_take];omega)|(simp;omega)) rfl rfl (gD (d:=0) om) (fun b35 o36 hok37=> ?_)
     replace hok37:=zua.1 hok37
     refine e_ru (zo (j:=0) 0 ty3 rfl rfl rfl rfl)<|e_p (zb rfl)<|e_p (zb rfl)<|zf<|zd<|ze<|za<|e_mv rfl<|zk rfl rfl (.c rfl (.c rfl .n)) ce41 (zYc (z1:=((Po.rsn l1 i).getD ii 0)) (z2:=4) (hz1:=om) (hz2:=dd) (hy:=dd)) (.n) ?_
     rintro ⟨w338,w439⟩ -
     dsimp only [aq,nq,cq]
     refine e_mv rfl<|e_p (zm rfl rfl)<|e_p (zm rfl rfl)<|zH rfl rfl (zr zr28 rfl) (fun b40=> ?_)
     refine zj 0 rfl rfl rfl rfl rfl sz28 rfl (.t4 .nil) .z<|e_p (zb rfl)<|zf<|zd<|ze<|zWa (X:=Unit) (fun x=>True) (fun x=>[(127,.bool false),(15,.pointer (some ⟨b40,0,none⟩)),(13,ya yb ((ii:Nat):Int)),(100,ya yb ((ii:Nat):Int)),(99,ya yb (((Po.rsn l1 i).length:Nat):Int)),(98,.slice pR ((Po.rsn l1 i).length) cR),(11,.slice p931 ((I9).length) c932),(3,.slice pP ((Po.pqn l1 i).length) cP)]) (fun x=>[boxA b40 28 (cw [w338,w439])]) (fun x=>[qF true w338 w439 (Rat.divInt ((Po.rsn l1 i).getD ii 0) 4),atF b35 o36 [ya yb ((Po.rsn l1 i).getD ii 0)],slF rR p931 c932 I9,slF rE pP cP ((Po.pqn l1 i).map some),slF rQ pP cP (Po.pqn l1 i),slF (rI .i64) pR cR (Po.rsn l1 i),slF (rI .i64) none 0 ([]),slF rQ p92 c93 (Po.pqn l1 0),slF (rI .i64) (some ⟨b1,0,none⟩) 1 ([1]),slF (rI .i8) p1 c1 l1]) ?_ ?_
     ·
      refine zU (OW:=[]) (O:=[boxA b40 28 (cw [w338,w439])]) 100000 mixed (.then (.then (.block (.then (.then (.block (.then .ret))))))) kr<|e_dm 0 rfl rfl rfl<|e_dm 1 rfl rfl rfl<|d_vl 2 rfl rfl kr kr rfl rfl (zla (x0:=((I9).getD ii ((0:Rat),(0:Rat)))) 2 ii rfl yg sz48 rfl (by first|rfl|assumption|omega|(rw [List.length_drop,List.length_take];omega)|(simp;omega)) rfl rfl (gD (d:=((0:Rat),(0:Rat))) om)) ?_
      rintro ⟨b41,o42,w43,w44,w45,w46⟩ -
      dsimp only [aq,nq,cq]
      refine zVa open_rR<|e_pv 3 rfl rfl (zg yc rfl sz28 rfl rfl)<|e_u 4 rfl rfl (zS (j:=0) 0 ty28 rfl rfl rfl (.t4 .nil))<|e_u 5 rfl rfl (zc 0 ty28 rfl rfl (.t4 .nil))<|e_one 6 (zNa rfl rfl rfl rfl (.c rfl (.c rfl .n)) ce44 (zMa (k1:=true) (u1:=w43) (v1:=w44) (q1:=((I9).getD ii ((0:Rat),(0:Rat))).1) (k2:=true) (u2:=w338) (v2:=w439) (q2:=Rat.divInt ((Po.rsn l1 i).getD ii 0) 4) (hl:=om)) (.c (j:=1) rfl (.c (j:=3) rfl .n)) ?_)
      refine e_pv 7 rfl rfl (zUa rfl rfl) ?_
      rw [show (decide (0≤yh ((((I9).getD ii ((0:Rat),(0:Rat))).1) - (Rat.divInt ((Po.rsn l1 i).getD ii 0) 4))))=false from by exact decide_eq_false (fun h=>by have h9:=Po.sgqn.2 hf1;omega)]
      refine e_dm 8 rfl rfl rfl<|e_u 9 rfl rfl (zc 0 ty28 rfl rfl (.t4 .nil))<|e_dm 10 rfl rfl rfl<|e_dm 11 rfl rfl rfl<|d_vl 12 rfl rfl kr kr rfl rfl (zla (x0:=((I9).getD ii ((0:Rat),(0:Rat)))) 5 ii rfl yg sz48 rfl (by first|rfl|assumption|omega|(rw [List.length_drop,List.length_take];omega)|(simp;omega)) rfl rfl (gD (d:=((0:Rat),(0:Rat))) om)) ?_
      rintro ⟨b47,o48,w49,w50,w51,w52⟩ -
      dsimp only [aq,nq,cq]
      refine zVa open_rR<|e_pv 13 rfl rfl (zg yc rfl sz28 rfl rfl)<|e_u 14 rfl rfl (zS (j:=4) 0 ty28 rfl rfl rfl (.s4 (.t4 .nil)))<|e_one 15 (zNa rfl rfl rfl rfl (.c rfl (.c rfl .n)) ce44 (zMa (k1:=true) (u1:=w338) (v1:=w439) (q1:=Rat.divInt ((Po.rsn l1 i).getD ii 0) 4) (k2:=true) (u2:=w51) (v2:=w52) (q2:=((I9).getD ii ((0:Rat),(0:Rat))).2) (hl:=om)) (.c (j:=6) rfl (.c (j:=2) rfl .n)) ?_)
      refine e_pv 16 rfl rfl (zwa rfl rfl) ?_
      rw [show (decide (0<yh ((Rat.divInt ((Po.rsn l1 i).getD ii 0) 4) - (((I9).getD ii ((0:Rat),(0:Rat))).2))))=false from by exact decide_eq_false (fun h=>by have h9:=Po.lt_sgq.1 h;grind)]
      refine e_pv 17 rfl rfl (zJ rfl rfl)<|zT kr ?_
      exact zna () (show True from by first|trivial|omega|simp_all) ((.of rfl):SubM _ _) (ho:=((.c (i:=0) rfl .n):PickO _ _ _)) ((.of [6,7,8,9,10,11,12,13,14,15] rfl):SelR _ _ _)
     ·
      rintro ⟨⟩ -
      try dsimp only [cw]
      refine zSa rfl rfl<|zB<|zd<|ze<|za<|e_mv rfl<|e_mv rfl<|e_mv rfl<|r_vl rfl rfl (zla (x0:=((I9).getD ii ((0:Rat),(0:Rat)))) 2 ii rfl yg sz48 rfl (by first|rfl|assumption|omega|(rw [List.length_drop,List.length_take];omega)|(simp;omega)) rfl rfl (gD (d:=((0:Rat),(0:Rat))) om)) ?_
      rintro ⟨b53,o54,w55,w56,w57,w58⟩ -
      dsimp only [aq,nq,cq]
      refine zra open_rR<|e_ru (zS (j:=0) 0 ty48 rfl rfl rfl (.t8 .nil))<|zra (addQe 1 rfl)<|zra (addQe 3 rfl)<|zk rfl rfl (.c rfl (.c rfl (.c rfl .n))) ce37 (zWd (p1:=pP) (n1:=(Po.pqn l1 i).length) (c1:=cP) (l1:=((Po.pqn l1 i).map some)) (u1:=w55) (v1:=w56) (x1:=(some (((I9).getD ii ((0:Rat),(0:Rat))).1))) (u2:=w57) (v2:=w58) (x2:=(some (((I9).getD ii ((0:Rat),(0:Rat))).2))) (k:=10) (hn1:=by exact List.length_map _) (hm1:=om) (hok:=by rw [Po.vals_some];exact hrs) (hlS:=by rw [Po.vals_some];omega) (hvk:=by rw [Po.vals_some];exact fun z hz=>Po.vok_sturm hS2 (Nat.le_trans hz dd)) (hev:=by rw [Po.vals_some];exact fun z hz i=>Nat.le_trans (Po.ev_drop_hq (N:=5) hz hbd om i) dd) (hx1:=by simp only [Option.getD_some];omega) (hx2:=by simp only [Option.getD_some];omega) (hrq:=by rw [Po.vals_some];exact fun _ _ _=>Po.rq_dy hβ2 10 jj _ _ hda hdb om)) (.c (j:=8) rfl (.c (j:=1) rfl (.c (j:=0) rfl .n))) ?_
      rintro ⟨w359,w460,w561,w662⟩ -
      dsimp only [aq,nq,cq]
      refine e_mv rfl<|e_p (zm rfl rfl)<|e_p (zm rfl rfl)<|zH rfl rfl (zr zr48 rfl) (fun b63=> ?_)
      refine zj 0 rfl rfl rfl rfl rfl sz48 rfl (.t8 .nil) .z<|e_p (zb rfl)<|zf<|zd<|zWa (X:=Unit) (fun x=>True) (fun x=>[(166,.bool false),(100,ya yb ((ii:Nat):Int)),(99,ya yb (((Po.rsn l1 i).length:Nat):Int)),(98,.slice pR ((Po.rsn l1 i).length) cR),(11,.slice p931 ((I9).length) c932),(3,.slice pP ((Po.pqn l1 i).length) cP)]) (fun x=>[boxA b63 48 (cw [w359,w460,w561,w662]),boxA b40 28 (cw [w338,w439])]) (fun x=>[qF (decide ((Po.rfe (Po.sturm (Po.vals ((Po.pqn l1 i).map some))) (Po.rtp ((Po.sturm (Po.vals ((Po.pqn l1 i).map some))).getD 0 [])) ((some (((I9).getD ii ((0:Rat),(0:Rat))).1)).getD 0) ((some (((I9).getD ii ((0:Rat),(0:Rat))).2)).getD 0) 10).1=0)) w359 w460 ((Po.rfe (Po.sturm (Po.vals ((Po.pqn l1 i).map some))) (Po.rtp ((Po.sturm (Po.vals ((Po.pqn l1 i).map some))).getD 0 [])) ((some (((I9).getD ii ((0:Rat),(0:Rat))).1)).getD 0) ((some (((I9).getD ii ((0:Rat),(0:Rat))).2)).getD 0) 10).2.1),qF (decide ((Po.rfe (Po.sturm (Po.vals ((Po.pqn l1 i).map some))) (Po.rtp ((Po.sturm (Po.vals ((Po.pqn l1 i).map some))).getD 0 [])) ((some (((I9).getD ii ((0:Rat),(0:Rat))).1)).getD 0) ((some (((I9).getD ii ((0:Rat),(0:Rat))).2)).getD 0) 10).1=0)) w561 w662 ((Po.rfe (Po.sturm (Po.vals ((Po.pqn l1 i).map some))) (Po.rtp ((Po.sturm (Po.vals ((Po.pqn l1 i).map some))).getD 0 [])) ((some (((I9).getD ii ((0:Rat),(0:Rat))).1)).getD 0) ((some (((I9).getD ii ((0:Rat),(0:Rat))).2)).getD 0) 10).2.2),eF w57 w58 (some (((I9).getD ii ((0:Rat),(0:Rat))).2)),eF w55 w56 (some (((I9).getD ii ((0:Rat),(0:Rat))).1)),atF b53 o54 [w55.b,w55.l,w56.b,w56.l,w57.b,w57.l,w58.b,w58.l],qF true w55 w56 (((I9).getD ii ((0:Rat),(0:Rat))).1),qF true w57 w58 (((I9).getD ii ((0:Rat),(0:Rat))).2),qF true w338 w439 (Rat.divInt ((Po.rsn l1 i).getD ii 0) 4),atF b35 o36 [ya yb ((Po.rsn l1 i).getD ii 0)],slF rR p931 c932 I9,slF rE pP cP ((Po.pqn l1 i).map some),slF rQ pP cP (Po.pqn l1 i),slF (rI .i64) pR cR (Po.rsn l1 i),slF (rI .i64) none 0 ([]),slF rQ p92 c93 (Po.pqn l1 0),slF (rI .i64) (some ⟨b1,0,none⟩) 1 ([1]),slF (rI .i8) p1 c1 l1]) ?_ ?_
      ·
       obtain ⟨RX,hRX⟩:∃z,z=(Po.rfe (Po.sturm (Po.vals ((Po.pqn l1 i).map some))) (Po.rtp ((Po.sturm (Po.vals ((Po.pqn l1 i).map some))).getD 0 [])) ((some (((I9).getD ii ((0:Rat),(0:Rat))).1)).getD 0) ((some (((I9).getD ii ((0:Rat),(0:Rat))).2)).getD 0) 10):=⟨_,rfl⟩
       have e64:(Po.rfe (Po.sturm (Po.vals ((Po.pqn l1 i).map some))) (Po.rtp ((Po.sturm (Po.vals ((Po.pqn l1 i).map some))).getD 0 [])) ((some (((I9).getD ii ((0:Rat),(0:Rat))).1)).getD 0) ((some (((I9).getD ii ((0:Rat),(0:Rat))).2)).getD 0) 10:Int×Rat×Rat)=RX:=by exact hRX.symm
       rw [e64]
       rw [Po.vals_some] at hRX
       have hrf2:RX.1=0∧RX.2.1≤(Rat.divInt ((Po.rsn l1 i).getD ii 0) 4)∧(Rat.divInt ((Po.rsn l1 i).getD ii 0) 4)≤RX.2.2∧¬(RX.2.1<RX.2.2∧RX.2.1=(Rat.divInt ((Po.rsn l1 i).getD ii 0) 4)):=by rw [hRX];exact hrf
       obtain ⟨hrx1,hrx2⟩:yf RX.2.1≤100000∧yf RX.2.2≤100000:=by rw [hRX];exact Po.rfe_rq (fun _ _ _=>Po.rq_dy hβ2 10 jj _ _ hda hdb om) (by show yf (I9.getD ii ((0:Rat),(0:Rat))).1≤_;omega) (by show yf (I9.getD ii ((0:Rat),(0:Rat))).2≤_;omega)
       have e65:(decide ((RX).1=0))=true:=by exact decide_eq_true hrf2.1
       rw [e65]
       refine za<|e_mv rfl<|e_p (zfb rfl rfl) ?_
       rw [show (decide ((RX).1≠0))=false from by exact decide_eq_false (fun h=>h hrf2.1)]
       refine e_mv rfl<|e_p (zg yc rfl sz28 rfl rfl)<|e_ru (zc 0 ty28 rfl rfl (.t4 .nil))<|e_ru (zc 1 ty28 rfl rfl (.t4 .nil))<|zM rfl rfl (.c rfl (.c rfl .n)) ce44 (zMa (k1:=true) (u1:=w359) (v1:=w460) (q1:=(RX).2.1) (k2:=true) (u2:=w338) (v2:=w439) (q2:=Rat.divInt ((Po.rsn l1 i).getD ii 0) 4) (hl:=om)) (.c (j:=0) rfl (.c (j:=7) rfl .n))<|e_p (zwa rfl rfl) ?_
       rw [show (decide (0<yh (((RX).2.1) - (Rat.divInt ((Po.rsn l1 i).getD ii 0) 4))))=false from by exact decide_eq_false (fun h=>by have h9:=Po.lt_sgq.1 h;have h8:=hrf2.2.1;grind)]
       refine e_p (zJ rfl rfl)<|e_mv rfl<|e_ru (zc 1 ty28 rfl rfl (.t4 .nil))<|e_p (zg yc rfl sz28 rfl rfl)<|e_ru (zc 0 ty28 rfl rfl (.s4 (.t4 .nil)))<|zM rfl rfl (.c rfl (.c rfl .n)) ce44 (zMa (k1:=true) (u1:=w338) (v1:=w439) (q1:=Rat.divInt ((Po.rsn l1 i).getD ii 0) 4) (k2:=true) (u2:=w561) (v2:=w662) (q2:=(RX).2.2) (hl:=om)) (.c (j:=7) rfl (.c (j:=1) rfl .n))<|e_p (zwa rfl rfl) ?_
       rw [show (decide (0<yh ((Rat.divInt ((Po.rsn l1 i).getD ii 0) 4) - ((RX).2.2))))=false from by exact decide_eq_false (fun h=>by have h9:=Po.lt_sgq.1 h;have h8:=hrf2.2.2.1;grind)]
       refine e_p (zJ rfl rfl)<|e_mv rfl<|e_p (zg yc rfl sz28 rfl rfl)<|e_ru (zc 0 ty28 rfl rfl (.t4 .nil))<|e_p (zg yc rfl sz28 rfl rfl)<|e_ru (zc 0 ty28 rfl rfl (.s4 (.t4 .nil)))<|zM rfl rfl (.c rfl (.c rfl .n)) ce44 (zMa (k1:=true) (u1:=w359) (v1:=w460) (q1:=(RX).2.1) (k2:=true) (u2:=w561) (v2:=w662) (q2:=(RX).2.2) (hl:=om)) (.c (j:=0) rfl (.c (j:=1) rfl .n))<|e_p (zba rfl rfl)<|zga rfl rfl (zha rfl) (fun h160=> ?_) (fun h160=> ?_)
       ·
        refine e_p (zg yc rfl sz28 rfl rfl)<|e_ru (zc 0 ty28 rfl rfl (.t4 .nil))<|e_ru (zc 1 ty28 rfl rfl (.t4 .nil))<|zM rfl rfl (.c rfl (.c rfl .n)) ce22 (zdb (u1:=w359) (v1:=w460) (q1:=(RX).2.1) (u2:=w338) (v2:=w439) (q2:=Rat.divInt ((Po.rsn l1 i).getD ii 0) 4) (hl:=om)) (.c (j:=0) rfl (.c (j:=7) rfl .n)) ?_
        rw [show (decide (((RX).2.1)=(Rat.divInt ((Po.rsn l1 i).getD ii 0) 4)))=false from by exact decide_eq_false (fun e=>hrf2.2.2.2 ⟨Po.sgqn.1 h160,e⟩)]
        refine e_p (zJ rfl rfl)<|e_p (zJ rfl rfl)<|zf ?_
        exact zna () (show True from by first|trivial|omega|simp_all) ((.of rfl):SubM _ _) (ho:=((.of [0,0] rfl):PickO _ _ _)) ((.e (j:=0) rfl (by first|rfl|simp_all) (.e (j:=1) rfl (by first|rfl|simp_all) (.of [2,3,4,5,6,7,8,9,10,11,12,13,14,15,16] rfl))):SelR _ _ _)
       ·
        refine e_no<|e_no<|e_no<|e_no<|e_p (zJ rfl rfl)<|e_p (zJ rfl rfl)<|zf ?_
        exact zna () (show True from by first|trivial|omega|simp_all) ((.of rfl):SubM _ _) (ho:=((.of [0,0] rfl):PickO _ _ _)) ((.e (j:=0) rfl (by first|rfl|simp_all) (.e (j:=1) rfl (by first|rfl|simp_all) (.of [2,3,4,5,6,7,8,9,10,11,12,13,14,15,16] rfl))):SelR _ _ _)
      ·
       rintro ⟨⟩ -
       try dsimp only [cw]
       refine zSa rfl rfl<|zB<|zN<|zd<|za<|e_p (zK (z:=(((ii+1):Nat):Int)) rfl rfl (w64 om))<|e_mv rfl<|zf<|zZ (ii+1) (show (ii+1)≤(Po.rsn l1 i).length from by omega) (by show (Po.rsn l1 i).length - (ii+1)<(Po.rsn l1 i).length - ii;omega) ((.of rfl):SubM _ _) (ho:=(.n:PickO _ _ _)) ((.of [9,10,11,12,13,14,15,16] rfl):SelR _ _ _)
    ·
     refine zea<|zi<|zi<|zw<|zd<|ze<|za<|e_p (zb rfl)<|zf<|zd<|zE ?_
     exact zA Tryz.results8 () trivial (zp rfl) rfl (ho:=(.n:PickO _ _ _)) (.n:SelR _ _ _)
end Go.Proofs.YtbiaimgafknkmaaGreat.Sp
