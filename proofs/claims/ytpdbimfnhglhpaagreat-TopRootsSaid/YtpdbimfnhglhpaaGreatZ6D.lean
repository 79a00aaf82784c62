/- Lemmas that the claim of this folder uses; each states its own conditions. Lines were printed by a program of ours. -/
import Derived.Test.YtpdbimfnhglhpaaGreatZ6C
set_option linter.unusedVariables false
set_option linter.unusedSimpArgs false
set_option linter.unusedSectionVars false
open Go.Value renaming int → yaz, pointer → ybb
open Go.IntKind renaming i64 → yba
open Rat renaming mul_nonneg → yw, intCast_mul → yC, divInt → yD, div_mul_cancel → yE, le_refl → yF, mul_eq_zero → yG, intCast_inj → yP, divInt_eq_div → yS, intCast_add → yV, intCast_neg → yab, mul_assoc → yad, mul_inv_cancel → yag, num_divInt_den → yam, intCast_sub → yan, div_def → yap, mul_one → yat, mul_pos → yau, not_lt → yay
open List renaming getD_eq_getElem?_getD → yx, getElem?_eq_none → yz, getElem?_eq_getElem → yA, length_eq_zero_iff → yB, map_congr_left → yH, length_take → yK, length_append → yO, mem_cons_of_mem → yQ, length_drop → yR, replicate → yT, getElem?_eq_some_iff → yU, getElem?_take → yW, getElem?_drop → yX, mem_cons → yY, range → yZ, take_succ_eq_append_getElem → yaa, getElem?_map → yac, mem_range → yaf, getD_cons_zero → yak, getD_cons_succ → yal, map_append → yao, ext_getElem? → yaq, getElem?_range → yar, range_succ → yas, eraseIdx → yav, map_toArray → yaw
open Nat renaming mul_le_mul_right → yI, le_refl → yJ, zero_le → yN, gcd → yae, le_trans → yah, add_mul → yaj
open Decidable renaming byContradiction → yL
open Classical renaming byContradiction → yM
open Int renaming mul_ne_zero → yai
open Option renaming map_some → yax
open Go.Proofs.Tryz renaming underlying202 → ya, underlying141 → yb, underlying60 → yc, underlying62 → yd, underlying84 → ye, underlying78 → yf, underlying3 → yg, underlying80 → yh, underlying199 → yj, underlying46 → yk, underlying144 → yo, underlying85 → yq, underlying32 → yr, prog → yv
namespace Go.Proofs.YtpdbimfnhglhpaaGreat
open Big renaming ln → yi, qI → ym, pw → yu
open Mx renaming mk → yl, bd → yn
open Ro renaming s5 → yp, s0 → yt
namespace Po
open Big
theorem WW (x a:Rat) (l:List Rat):ev x (scl l a)=ev x l*a:=by
  rw [zb0,qK]
  show ev x l*(0*x+a)=_
  grind
theorem Z1 (x:Rat) (p q:List Rat):ev x (sub p q)=ev x p - ev x q:=by
  rw [← zp0,Zq,WW,show (((-1:Int):Int):Rat)= -1 by decide +kernel]
  grind
def syn (x:Rat):List Rat→List Rat
  |[]=>[]
  |[_]=>[]
  |_ :: b :: l=>ev x (b :: l) :: syn x (b :: l)
theorem zc7 (x t:Rat):∀l:List Rat,ev t l=(t - x)*ev t (syn x l)+ev x l
  |[]=>by show (0:Rat)=(t - x)*0+0;grind
  |[a]=>by show 0*t+a=(t - x)*0+(0*x+a);grind
  |a :: b :: l=>by
    have ih:=zc7 x t (b :: l)
    show ev t (b :: l)*t+a=(t - x)*(ev t (syn x (b :: l))*t+ev x (b :: l))+(ev x (b :: l)*x+a)
    rw [ih];grind
theorem ze6 (x:Rat):∀l:List Rat,(syn x l).length=l.length - 1
  |[]=>rfl
  |[_]=>rfl
  |a :: b :: l=>by
    show (syn x (b :: l)).length+1=l.length+1+1 - 1
    rw [ze6 x (b :: l)];rfl
theorem fresh:∀E:List Rat,∃t,∀e,e∈E→e<t
  |[]=>⟨0,fun e h=>by cases h⟩
  |a :: E=>by
    obtain ⟨t,ht⟩:=fresh E
    by_cases h:a<t
    · exact ⟨t,fun e he=>by rcases yY.1 he with rfl|he;exact h;exact ht e he⟩
    · refine ⟨a + 1, fun e he => ?_⟩
      rcases yY.1 he with rfl|he
      · grind
      · have:=ht e he;grind
theorem zbe:∀(n:Nat) (l:List Rat),l.length≤n→∀E:List Rat,(∀t,t ∉ E→ev t l=0)→∀t,ev t l=0
  |0,l,hl,_,_,t=>by rw [yB.1 (show l.length=0 by omega)];rfl
  |n+1,l,hl,E,h,t=>by
    obtain ⟨s,hs⟩:=fresh E
    have hsE:s ∉ E:=fun k=>by have:=hs s k;grind
    have h0:=h s hsE
    have ih:=zbe n (syn s l) (by rw [ze6];omega) (s :: E) fun t ht=>by
      have h1:=h t fun k=>ht (yQ _ k)
      have h2:=zc7 s t l
      rw [h0,h1] at h2
      have h3:(t - s)*ev t (syn s l)=0:=Og
      rcases yG.1 h3 with k|k
      · exact absurd (yY.2 (.inl Og)) ht
      · exact k
    rw [zc7 s t l,ih t,h0];grind
theorem ze7:∀l:List Rat,(∀t,ev t l=0)→∀i,l.getD i 0=0
  |[],_,i=>W4 (yN _)
  |a :: l,h,i=>by
    have ha:a=0:=by
      have:=h 0
      have e:ev 0 (a :: l)=ev 0 l*0+a:=rfl
      rw [e] at this;grind
    have hl:=zbe l.length l (yJ _) [0] fun t ht=>by
      have:=h t
      have e:ev t (a :: l)=ev t l*t+a:=rfl
      rw [e,ha,Rat.add_zero] at this
      rcases yG.1 this with k|k
      · exact k
      · exact absurd (yY.2 (.inl k)) ht
    cases i with
    |zero=>exact ha
    |succ i=>exact ze7 l hl i
theorem zrG {p q:List Rat} (h:∀t,ev t p=ev t q) (i:Nat):p.getD i 0=q.getD i 0:=by
  have:=ze7 (sub p q) (fun t=>by rw [Z1,h];grind) i
  rw [Wm] at this;grind
theorem zaI {p q:List Rat} (hp:cl p=p) (hq:cl q=q) (h:∀t,ev t p=ev t q):p=q:=ZK hp hq (zrG h)
theorem zb2 {p q:List Rat} (h:∀t,ev t p=ev t q):vw p=vw q:=ZK (Qt _) (Qt _) fun i=>by rw [Z4,Z4,zrG h]
theorem zj4 {l:List Rat} (hl:cl l=l) (t:Rat):ev t (mo l)*lead l=ev t l:=by
  rw [zp9]
  split
  · rename_i h
    rw [yB.1 h]
    show (0:Rat)*_=0
    grind
  · rename_i h
    have h0:lead l≠0:=VX hl h
    rw [WW,yad,yE h0,show ((1:Int):Rat)=1 by decide +kernel,yat]
theorem K2 {p q:List Rat} (hp:cl p=p) (hq:cl q=q) (h:q.length≠0) (t:Rat):ev t p=ev t (dq p q)*ev t q+ev t (dr p q):=by
  have:=(zny (p:=p) (q:=q) (by rw [hq];exact h)).2
  rw [hp] at this
  rw [← this,Zq,qK]
  rw [this]
def dvd (g p:List Rat):Prop:=∃u:List Rat,∀t,ev t p=ev t g*ev t u
theorem znz:∀(n:Nat) (p q:List Rat),cl p=p→cl q=q→q.length≤n→dvd (ge n p q) p∧dvd (ge n p q) q
  |0,p,q,_,_,hn=>by
    refine ⟨⟨[1],fun t=> ?_⟩,⟨[],fun t=> ?_⟩⟩
    · show ev t p=ev t p*(0*t+1);grind
    · rw [yB.1 (show q.length = 0 by omega)]
      show (0:Rat)=_*0;grind
  |n+1,p,q,hp,hq,hn=>by
    by_cases h:q.length=0
    · rw [zc2 h]
      refine ⟨⟨[1],fun t=> ?_⟩,⟨[],fun t=> ?_⟩⟩
      · show ev t p=ev t p*(0*t+1);grind
      · rw [yB.1 h]
        show (0:Rat)=_*0;grind
    · have e : ge (n + 1) p q = ge n q (mo (dr p q)) := if_neg h
      have hlt:=JB (p:=p) hq h
      have hml:=Vu (dr p q)
      obtain ⟨⟨u,hu⟩,⟨v,hv⟩⟩:=znz n q (mo (dr p q)) hq (Vd _) Oo
      rw [e]
      refine ⟨⟨add (mul (dq p q) u) (mul v [lead (dr p q)]),fun t=> ?_⟩,u,hu⟩
      rw [K2 hp hq h,Zq,qK,qK,←zj4 (zgu p q),hu,hv]
      show _=_*(_+_*(0*t+lead (dr p q)))
      grind
theorem ze8 (p q:List Rat) (hp:cl p=p) (hq:cl q=q):dvd (gcd p q) p∧dvd (gcd p q) q:=by
  have h:=znz (cl q).length (mo (cl p)) (mo (cl q)) (Vd _) (Vd _) (Vu _)
  obtain ⟨⟨u,hu⟩,⟨v,hv⟩⟩:=h
  unfold gcd
  refine ⟨⟨mul u [lead p],fun t=> ?_⟩,⟨mul v [lead q],fun t=> ?_⟩⟩
  · rw [qK, ← yad, ← hu, hp, ← zj4 hp]
    show _=_*(0*t+lead p);grind
  · rw [qK, ← yad, ← hv, hq, ← zj4 hq]
    show _=_*(0*t+lead q);grind
theorem znA {f g:Nat→Rat} {a b:Nat} (hf:∀i,a<i→f i=0) (hg:∀i,b<i→g i=0):∀n,n≤a+b+1→co f g (a+b) n=if a<n then f a*g b else 0
  |0,_=>by rw [if_neg Oo];rfl
  |n+1,hn=>by
    show co f g (a+b) n+f n*g (a+b - n)=_
    rw [znA hf hg n Oo]
    by_cases h1:n<a
    · rw [if_neg Oo,if_neg Oo,hg (a+b - n) Oo];grind
    · by_cases h2 : n = a
      · subst h2
        rw [if_neg Oo,if_pos Oo,show n+b - n=b by omega];grind
      · rw [if_pos Oo,if_pos Oo,hf n Oo];grind
theorem Kl {p q:List Rat} (hp:cl p=p) (hq:cl q=q) (h1:p.length≠0) (h2:q.length≠0):(mul p q).length=p.length+q.length - 1:=by
  refine Nat.le_antisymm (Kj p q) (yL fun k=> ?_)
  have e:=Zx p q (p.length - 1+(q.length - 1))
  rw [W4 Oo] at e
  unfold C at e
  rw [znA (fun i hi=>W4 Oo) (fun i hi=>W4 Oo) _ (yJ _),if_pos Oo] at e
  rcases yG.1 e.symm with k|k
  · exact VX hp h1 k
  · exact VX hq h2 k
theorem zsU {p g:List Rat} (hp:cl p=p) (hg:cl g=g) (h:g.length≠0) (k:dvd g p):dr p g=[]:=by
  obtain ⟨u,hu⟩:=k
  have hlt:=JB (p:=p) hg h
  have e:dr p g=mul g (sub u (dq p g)):=zaI (zgu _ _) (Q5 _ _) fun t=>by
    have h1:=K2 hp hg h t
    rw [qK,Z1]
    rw [hu t] at h1
    grind
  by_cases h0:(sub u (dq p g)).length=0
  · rw [e,yB.1 h0,zd0,zaB]
  · have := Kl hg (zeU u (dq p g)) h h0
    rw [← e] at this
    omega
theorem zbf {p g:List Rat} (hp:cl p=p) (hg:cl g=g) (h:g.length≠0) (k:dvd g p):mul (dq p g) g=p:=zaI (Q5 _ _) hp fun t=>by
  have:=K2 hp hg h t
  rw [zsU hp hg h k] at this
  rw [qK,this]
  show _=_+(0:Rat);grind
theorem ze9 (t x:Rat):ev t [-x,1]=t - x:=by show (0*t+1)*t+ -x=t - x;grind
theorem zqa {x:Rat} {h:List Rat} (h0:ev x h=0) (t:Rat):ev t (vw h)=ev t (syn x h)+(t - x)*ev t (vw (syn x h)):=by
  have e:vw h=vw (mul [-x,1] (syn x h)):=zb2 fun t=>by rw [qK,ze9,zc7 x t h,h0];grind
  rw [e,Ki,Zq,qK,qK,ze9]
  have:ev t (vw [-x,1])=1:=by
    have:vw [-x,1]=[1]:=ZK (Qt _) Oz fun i=>by
      rw [Z4]
      match i with
      |0=>show ((1:Int):Rat)*1=1;decide +kernel
      |i+1=>show _*(0:Rat)=0;rw [Rat.mul_zero]
    rw [this];show 0*t+1=1;grind
  rw [this];grind
theorem zgA (x:Rat) (q w:List Rat):∀(n:Nat) (h:List Rat) (k:Rat),h.length≤n→0≤k→(k≠0∨ev x h=0)→(∃t,ev t h≠0)→
    (∀t,k*ev t q*ev t h+(t - x)*ev t q*ev t (vw h)=(t - x)*ev t h*ev t w)→ev x q=0
  |0,h,k,hn,_,_,⟨t,ht⟩,_=>absurd (by rw [yB.1 (show h.length=0 by omega)];rfl) ht
  |n+1,h,k,hn,hk,hc,⟨t0,ht0⟩,e=>by
    by_cases hx:ev x h=0
    · have hd := zqa hx
      have hs:∀t,ev t h=(t - x)*ev t (syn x h):=fun t=>by rw [zc7 x t h,hx];grind
      refine zgA x q w n (syn x h) (k+1) (by rw [ze6];omega) Og (.inl Og) ⟨t0,fun z=>ht0 (by rw [hs,z];grind)⟩ fun t=> ?_
      have hv:=zbe _ (sub (add (mul [k+1] (mul q (syn x h))) (mul [-x,1] (mul q (vw (syn x h))))) (mul [-x,1] (mul (syn x h) w))) (yJ _) [x] (fun s hs2=>by
        have hsx:s - x≠0:=fun z=>hs2 (yY.2 (.inl Og))
        rw [Z1,Zq,qK,qK,qK,qK,qK,qK,ze9,show ev s [k+1]=k+1 by show 0*s+(k+1)=k+1;grind]
        have e1:=e s
        rw [hd s,hs s] at e1
        have e2:(s - x)*((k+1)*(ev s q*ev s (syn x h))+(s - x)*(ev s q*ev s (vw (syn x h))) - (s - x)*(ev s (syn x h)*ev s w))=0:=Og
        rcases yG.1 e2 with z|z
        · exact absurd z hsx
        · exact z) t
      rw [Z1,Zq,qK,qK,qK,qK,qK,qK,ze9,show ev t [k+1]=k+1 by show 0*t+(k+1)=k+1;grind] at hv
      grind
    · have hk0 : k ≠ 0 := hc.resolve_right hx
      have e1:=e x
      have e2:k*ev x q*ev x h=0:=Og
      rcases yG.1 e2 with z|z
      · rcases yG.1 z with z | z
        · exact absurd z hk0
        · exact z
      · exact absurd z hx
theorem zfa {l:List Rat} (hl:cl l=l) (h:l.length≠0):∃t,ev t l≠0:=yM fun k=>VX hl h (ze7 l (fun t=>yL fun z=>k ⟨t,z⟩) _)
theorem znB {p:List Rat} (hp:(cl p).length≠0) (x:Rat):ev x (ZL p)=0↔ev x p=0:=by
  have hc:=vW p
  have hg:=zc4 (cl p) (vw (cl p))
  have hn:(gcd (cl p) (vw (cl p))).length≠0:=gcd_ne (by rw [hc];exact hp)
  obtain ⟨d1,v,hv⟩:=ze8 (cl p) (vw (cl p)) hc (Qt _)
  have hm:=zbf hc hg hn d1
  have he:ZL p=mo (dq (cl p) (gcd (cl p) (vw (cl p)))):=if_neg hp
  generalize hG:gcd (cl p) (vw (cl p))=g at*
  generalize hQ:dq (cl p) g=q at*
  have hqc:cl q=q:=by rw [← hQ];exact zgv _ _
  have hpx:ev x p=ev x q*ev x g:=by rw [← KZ,←hm,qK]
  have hqn:q.length≠0:=fun z=>by
    rw [yB.1 z,zaB] at hm
    exact hp (by rw [← hm];rfl)
  have hq0:ev x (ZL p)=0↔ev x q=0:=by
    have:=zj4 hqc x
    rw [he]
    constructor
    · intro z;rw [z] at this;grind
    · intro z
      rw [z] at this
      rcases yG.1 this with k|k
      · exact k
      · exact absurd k (VX hqc hqn)
  rw [hq0,hpx]
  constructor
  · intro z;rw [z];grind
  · intro z
    rcases yG.1 z with z|z
    · exact z
    · refine zgA x q (sub v (vw q)) g.length g 0 (yJ _) Og (.inr z) (zfa hg hn) fun t => ?_
      have e1:ev t (vw (cl p))=ev t (vw q)*ev t g+ev t q*ev t (vw g):=by
        have:vw (cl p)=vw (mul q g):=by rw [hm]
        rw [this,Ki,Zq,qK,qK]
      rw [hv t] at e1
      rw [Z1]
      grind
theorem zb3 (p:List Rat):(ZL p).length=0↔(cl p).length=0:=by
  constructor
  · intro h
    refine yL fun k=> ?_
    have he:ZL p=mo (dq (cl p) (gcd (cl p) (vw (cl p)))):=if_neg k
    have hn:(gcd (cl p) (vw (cl p))).length≠0:=gcd_ne (by rw [vW];exact k)
    have hm:=zbf (vW p) (zc4 (cl p) (vw (cl p))) hn (ze8 (cl p) (vw (cl p)) (vW p) (Qt _)).1
    rw [he,zle (zgv _ _)] at h
    rw [yB.1 h,zaB] at hm
    exact k (by rw [← hm];rfl)
  · intro h
    unfold ZL
    rw [if_pos h];rfl
theorem znC:∀(n:Nat) (p q:List Rat),cl p=p→cl q=q→∃u v:List Rat,∀t,ev t (ge n p q)=ev t u*ev t p+ev t v*ev t q
  |0,p,q,_,_=>⟨[1],[],fun t=>by show ev t p=(0*t+1)*ev t p+0*_;grind⟩
  |n+1,p,q,hp,hq=>by
    by_cases h:q.length=0
    · rw [zc2 h]
      exact ⟨[1],[],fun t=>by show ev t p=(0*t+1)*ev t p+0*_;grind⟩
    · have e : ge (n + 1) p q = ge n q (mo (dr p q)) := if_neg h
      obtain ⟨u,v,k⟩:=znC n q (mo (dr p q)) hq (Vd _)
      obtain ⟨a,-,ea⟩:=zc6 (zgu p q)
      rw [e]
      refine ⟨mul v [a],sub u (mul (mul v [a]) (dq p q)),fun t=> ?_⟩
      rw [k,ea,WW,Z1,qK,qK,qK,K2 hp hq h t]
      show _=ev t v*(0*t+a)*_+(_ - ev t v*(0*t+a)*_)*_
      grind
theorem zqb (p q:List Rat) (hp:cl p=p) (hq:cl q=q):∃u v:List Rat,∀t,ev t (gcd p q)=ev t u*ev t p+ev t v*ev t q:=by
  obtain ⟨u,v,k⟩:=znC (cl q).length (mo (cl p)) (mo (cl q)) (Vd _) (Vd _)
  obtain ⟨a,-,ea⟩:=zc6 (vW p)
  obtain ⟨b,-,eb⟩:=zc6 (vW q)
  refine ⟨mul u [a],mul v [b],fun t=> ?_⟩
  unfold gcd
  rw [k,ea,eb,WW,WW,qK,qK,hp,hq]
  show _=ev t u*(0*t+a)*_+ev t v*(0*t+b)*_
  grind
theorem znD {l:List Rat} (h:∃t,ev t l≠0):(cl l).length≠0:=fun e=>by
  obtain ⟨t,ht⟩:=h
  rw [← KZ,yB.1 e] at ht
  exact ht rfl
theorem zfb {c D:List Rat} (hc:∃t,ev t c≠0) (h:∀t,ev t c*ev t D=0) (t:Rat):ev t D=0:=by
  refine yM fun k=> ?_
  have h1:=znD hc
  have h2:=znD ⟨t,k⟩
  have h3:=Kl (vW c) (vW D) h1 h2
  have h4:mul (cl c) (cl D)=[]:=zaI (Q5 _ _) rfl fun s=>by
    rw [qK,KZ,KZ,h s];rfl
  rw [h4] at h3
  simp at h3
  omega
def pw (h:List Rat):Nat→List Rat
  |0=>[1]
  |k+1=>mul h (pw h k)
theorem znE (h:List Rat) (t:Rat):∀k,ev t (pw h (k+1))=ev t h*ev t (pw h k):=fun k=>qK _ _ _
theorem VA (h:List Rat) (t:Rat):ev t (pw h 0)=1:=by show 0*t+1=(1:Rat);grind
theorem znF {h:List Rat} (hn:(cl h).length≠0):∀k,∃t,ev t (pw h k)≠0
  |0=>⟨0,by rw [VA];decide +kernel⟩
  |k+1=>by
    have h1:=znF hn k
    refine yM fun z=> ?_
    obtain ⟨t,ht⟩:=zfa (vW h) hn
    have:ev t h=0:=zfb h1 (fun s=>by
      have:ev s (pw h (k+1))=0:=yM fun q=>z ⟨s,q⟩
      rw [znE] at this;grind) t
    rw [KZ] at ht
    exact ht this
theorem znG {h:List Rat} (hc:cl h=h) (hl:2≤h.length):∀k,k+1≤(cl (pw h k)).length
  |0=>by
    have:=znD (znF (h:=h) (by rw [hc];omega) 0)
    omega
  |k+1=>by
    have h1:=znG hc hl k
    have e:cl (pw h (k+1))=mul h (cl (pw h k)):=by
      show cl (mul h (pw h k))=_
      rw [Q5,zj3]
    rw [e,Kl hc (vW _) Oo Oo]
    omega
theorem znH {G q w h q1 z α β:List Rat} (hn:(cl h).length≠0) (e1:∀t,ev t G*ev t w=ev t (vw G)*ev t q) (e2:∀t,ev t q=ev t h*ev t q1) (e3:∀t,ev t (vw q)=ev t h*ev t z) (e4:∀t,ev t α*ev t h+ev t β*ev t w=1):
    ∀k,∃A:List Rat,∀t,ev t G=ev t (pw h k)*ev t A
  |0=>⟨G,fun t=>by rw [VA];grind⟩
  |k+1=>by
    obtain ⟨A,hA⟩:=znH hn e1 e2 e3 e4 k
    -- the derivative of G
    have hd:∀t,ev t (vw G)*ev t h=ev t (pw h k)*((k:Nat)*ev t (vw h)*ev t A+ev t h*ev t (vw A)):=by
      intro t
      have hG:vw G=vw (mul (pw h k) A):=zb2 fun t=>by rw [qK];exact hA t
      have hp:∀j,ev t (vw (pw h j))*ev t h=(j:Nat)*ev t (vw h)*ev t (pw h j):=by
        intro j
        induction j with
        |zero=>
          have:vw (pw h 0)=[]:=(by decide +kernel:vw [(1:Rat)]=[])
          rw [this]
          show (0:Rat)*_=((0:Nat):Rat)*_*_
          have:((0:Nat):Rat)=0:=Oz
          rw [this];grind
        |succ j ih=>
          have:vw (pw h (j+1))=add (mul (vw h) (pw h j)) (mul h (vw (pw h j))):=Ki _ _
          rw [this,Zq,qK,qK,znE]
          have hj:((j+1:Nat):Rat)=(j:Nat)+1:=by exact_mod_cast zc1 j
          rw [hj]
          grind
      rw [hG,Ki,Zq,qK,qK]
      have:=hp k
      grind
    -- h' q1 is a multiple of h
    have hq:∀t,ev t (vw h)*ev t q1=ev t h*(ev t z - ev t (vw q1)):=by
      intro t
      have h1:vw q=vw (mul h q1):=zb2 fun t=>by rw [qK];exact e2 t
      have h2:=e3 t
      rw [h1,Ki,Zq,qK,qK] at h2
      grind
    -- zfb the power
    have hc:∀t,ev t A*ev t w=ev t h*((k:Nat)*ev t A*(ev t z - ev t (vw q1))+ev t (vw A)*ev t q1):=by
      intro t
      have:=zfb (c:=pw h k) (D:=sub (mul A w) (mul h (add (mul [((k:Nat):Rat)] (mul A (sub z (vw q1)))) (mul (vw A) q1)))) (znF hn k) (fun s=>by
        have h1:=e1 s
        have h2:=hd s
        have h3:=hq s
        rw [hA s,e2 s] at h1
        rw [Z1,qK,qK,Zq,qK,qK,qK,Z1]
        show _*(_ - _*((0*s+((k:Nat):Rat))*_+_))=0
        grind) t
      rw [Z1,qK,qK,Zq,qK,qK,qK,Z1] at this
      have e:ev t [((k:Nat):Rat)]=((k:Nat):Rat):=by show 0*t+_=_;grind
      rw [e] at this
      grind
    refine ⟨add (mul α A) (mul β (add (mul [((k:Nat):Rat)] (mul A (sub z (vw q1)))) (mul (vw A) q1))),fun t=> ?_⟩
    rw [znE,hA t,Zq,qK,qK,Zq,qK,qK,qK,Z1]
    have e:ev t [((k:Nat):Rat)]=((k:Nat):Rat):=by show 0*t+_=_;grind
    have h1:=e4 t
    have h2:=hc t
    rw [e]
    have h3:ev t A=ev t α*ev t h*ev t A+ev t β*(ev t A*ev t w):=Og
    rw [h2] at h3
    grind
theorem zqc {p h:List Rat} (hp:(cl p).length≠0) (hc:cl h=h) (d1:dvd h (ZL p)) (d2:dvd h (vw (ZL p))):h.length≤1:=by
  refine yL fun hl=> ?_
  have hc0:=vW p
  have hg:=zc4 (cl p) (vw (cl p))
  have hn:(gcd (cl p) (vw (cl p))).length≠0:=gcd_ne (by rw [hc0];exact hp)
  obtain ⟨k1,v,hv⟩:=ze8 (cl p) (vw (cl p)) hc0 (Qt _)
  obtain ⟨a,b,hab⟩:=zqb (cl p) (vw (cl p)) hc0 (Qt _)
  have hm:=zbf hc0 hg hn k1
  have he:ZL p=mo (dq (cl p) (gcd (cl p) (vw (cl p)))):=if_neg hp
  generalize hG:gcd (cl p) (vw (cl p))=G at*
  generalize hQ:dq (cl p) G=q at*
  have hqc:cl q=q:=by rw [← hQ];exact zgv _ _
  obtain ⟨c,hc0',ec⟩:=zc6 hqc
  rw [he,ec] at d1 d2
  obtain ⟨q0,hq0⟩:=d1
  obtain ⟨z0,hz0⟩:=d2
  -- back from the multiple
  have hinv:∃c',c*c'=1:=⟨1 / c,by
    have:=yE (a:=1) hc0'
    rw [Rat.mul_comm];exact this⟩
  obtain ⟨c',hcc⟩:=hinv
  have e2:∀t,ev t q=ev t h*ev t (mul q0 [c']):=fun t=>by
    have h1:=hq0 t
    rw [WW] at h1
    rw [qK]
    show _=_*(_*(0*t+c'))
    grind
  have hds:∀t,ev t (vw (scl q c))=ev t (vw q)*c:=fun t=>by
    have:vw (scl q c)=scl (vw q) c:=ZK (Qt _) (zsS _ _) fun i=>by rw [Z4,Wo,Wo,Z4];grind
    rw [this,WW]
  have e3:∀t,ev t (vw q)=ev t h*ev t (mul z0 [c']):=fun t=>by
    have h1:=hz0 t
    rw [hds] at h1
    rw [qK]
    show _=_*(_*(0*t+c'))
    grind
  have hpd:∀t,ev t (vw (cl p))=ev t (vw q)*ev t G+ev t q*ev t (vw G):=fun t=>by
    have:vw (cl p)=vw (mul q G):=by rw [hm]
    rw [this,Ki,Zq,qK,qK]
  have hpq:∀t,ev t (cl p)=ev t q*ev t G:=fun t=>by rw [← hm,qK]
  have e1:∀t,ev t G*ev t (sub v (vw q))=ev t (vw G)*ev t q:=fun t=>by
    have h1:=hpd t
    rw [hv t] at h1
    rw [Z1];grind
  -- q and v have no common divisor, so h and w have none
  have hGs:=zfa hg hn
  have hbz:∀t,ev t a*ev t q+ev t b*ev t v=1:=fun t=>by
    have:=zfb (c:=G) (D:=sub (add (mul a q) (mul b v)) [1]) hGs (fun s=>by
      have h1:=hab s
      rw [hpq s,hv s] at h1
      rw [Z1,Zq,qK,qK]
      show _*(_ - (0*s+1))=0
      grind) t
    rw [Z1,Zq,qK,qK] at this
    have e:ev t [1]=1:=by show 0*t+1=(1:Rat);grind
    rw [e] at this
    grind
  have e4:∀t,ev t (add (mul a (mul q0 [c'])) (mul b (mul z0 [c'])))*ev t h+ev t b*ev t (sub v (vw q))=1:=fun t=>by
    have h1:=hbz t
    have h2:=e2 t
    have h3:=e3 t
    rw [Zq,qK t a,qK t b,Z1]
    rw [h2] at h1
    grind
  obtain ⟨A,hA⟩:=znH (G:=G) (q:=q) (w:=sub v (vw q)) (h:=h) (by rw [hc];omega) e1 e2 e3 e4 G.length
  have h5:G=mul (cl (pw h G.length)) (cl A):=zaI hg (Q5 _ _) fun t=>by rw [qK,KZ,KZ];exact hA t
  have h6:=znG hc Oo G.length
  by_cases h7:(cl A).length=0
  · rw [yB.1 h7, zd0, zaB] at h5
    exact hn (by rw [h5];rfl)
  · have h8 := Kl (vW (pw h G.length)) (vW A) Oo h7
    rw [← h5] at h8
    omega
def jb (z L:Rat):Prop:= -L≤z∧z≤L
theorem Wr {x y A B:Rat} (h:jb x A) (k:jb y B):jb (x+y) (A+B):=by
  unfold jb at *;constructor <;> grind
theorem ZV {x A B:Rat} (h:jb x A) (k:A≤B):jb x B:=by
  unfold jb at *;constructor <;> grind
theorem Vv {x A:Rat} (h:jb x A):0≤A:=by unfold jb at h;grind
theorem Z5 {x y A B:Rat} (h:jb x A) (k:jb y B):jb (x*y) (A*B):=by
  unfold jb at*
  have a1:=yw (show 0≤A - x by grind) (show 0≤B+y by grind)
  have a2:=yw (show 0≤A+x by grind) (show 0≤B - y by grind)
  have a3:=yw (show 0≤A - x by grind) (show 0≤B - y by grind)
  have a4:=yw (show 0≤A+x by grind) (show 0≤B+y by grind)
  constructor <;> grind
theorem Ws (a:Rat):jb a (jd a):=by
  unfold jb jd;split <;> constructor <;> grind
theorem zc8 {R:Rat} (hR:0≤R):∀l:List Rat,∃M,0≤M∧∀t,jb t R→jb (ev t l) M
  |[]=>⟨0,Og,fun t _=>by show jb 0 0;unfold jb;constructor <;> grind⟩
  |a :: l=>by
    obtain ⟨M,h0,h⟩:=zc8 hR l
    have:=yw h0 hR
    have ha:=Vv (Ws a)
    refine ⟨M*R+jd a,Og,fun t ht=> ?_⟩
    exact Wr (Z5 (h t ht) ht) (Ws a)
theorem zij {R:Rat} (hR:0≤R):∀l:List Rat,∃L,0≤L∧∀s t,jb s R→jb t R→s≤t→jb (ev t l - ev s l) (L*(t - s))
  |[]=>⟨0,Og,fun s t _ _ _=>by show jb (0 - 0) _;unfold jb;constructor <;> grind⟩
  |a :: l=>by
    obtain ⟨L,h0,h⟩:=zij hR l
    obtain ⟨M,m0,hm⟩:=zc8 hR l
    have:=yw hR h0
    refine ⟨M+R*L,Og,fun s t hs ht hst=> ?_⟩
    have e:ev t (a :: l) - ev s (a :: l)=ev t l*(t - s)+s*(ev t l - ev s l):=by
      show ev t l*t+a - (ev s l*s+a)=_;grind
    have h1:=Z5 (hm t ht) (show jb (t - s) (t - s) by unfold jb;constructor <;> grind)
    have h2:=Z5 hs (h s t hs ht hst)
    rw [e]
    refine ZV (Wr h1 h2) ?_
    grind
theorem zgB (a:Rat) (l:List Rat) (t:Rat):ev t (vw (a :: l))=ev t l+t*ev t (vw l):=by
  have e:vw (a :: l)=vw (add (mul [0,1] l) [a]):=zb2 fun t=>by
    rw [Zq,qK]
    show ev t l*t+a=((0*t+1)*t+0)*ev t l+(0*t+a);grind
  have e2:vw (add (mul [0,1] l) [a])=add (vw (mul [0,1] l)) (vw [a]):=ZK (Qt _) (Kh _ _) fun i=>by
    rw [Z4,VE,VE,Z4,Z4];grind
  have e3:vw [a]=[]:=by
    have:(vw [a]).length≤0:=Wp [a]
    exact yB.1 Oo
  have e4:ev t (vw [(0:Rat),1])=1:=by
    have:vw [(0:Rat),1]=[1]:=Oz
    rw [this];show 0*t+1=(1:Rat);grind
  rw [e,e2,Zq,Ki,Zq,qK,qK,e3,e4]
  show _+((0*t+1)*t+0)*_+0=_
  grind
theorem znI {R:Rat} (hR:0≤R):∀l:List Rat,∃K,0≤K∧∀s t,jb s R→jb t R→s≤t→jb (ev t l - ev s l - (t - s)*ev s (vw l)) (K*((t - s)*(t - s)))
  |[]=>⟨0,Og,fun s t _ _ _=>by
      have:ev s (vw [])=0:=by
        have:vw ([]:List Rat)=[]:=Oz
        rw [this];rfl
      rw [this]
      show jb (0 - 0 - _) _;unfold jb;constructor <;> grind⟩
  |a :: l=>by
    obtain ⟨K,h0,h⟩:=znI hR l
    obtain ⟨L,l0,hl⟩:=zij hR l
    have:=yw hR h0
    refine ⟨L+R*K,Og,fun s t hs ht hst=> ?_⟩
    have e:ev t (a :: l) - ev s (a :: l) - (t - s)*ev s (vw (a :: l))=(ev t l - ev s l)*(t - s)+s*(ev t l - ev s l - (t - s)*ev s (vw l)):=by
      rw [zgB]
      show ev t l*t+a - (ev s l*s+a) - _=_;grind
    have h1:=Z5 (hl s t hs ht hst) (show jb (t - s) (t - s) by unfold jb;constructor <;> grind)
    have h2:=Z5 hs (h s t hs ht hst)
    rw [e]
    refine ZV (Wr h1 h2) ?_
    grind
theorem zj5 {R:Rat} (hR:0≤R):∀S:List (List Rat),∃L,0≤L∧∀l,l∈S→∀s t,jb s R→jb t R→s≤t→jb (ev t l - ev s l) (L*(t - s))
  |[]=>⟨0,Og,fun l h=>by cases h⟩
  |l :: S=>by
    obtain ⟨L,l0,hL⟩:=zij hR l
    obtain ⟨M,m0,hM⟩:=zj5 hR S
    refine ⟨L+M,Og,fun k hk s t hs ht hst=> ?_⟩
    have h0:0≤t - s:=Og
    have h1:=yw l0 h0
    have h2:=yw m0 h0
    rcases yY.1 hk with rfl|hk
    · exact ZV (hL s t hs ht hst) Og
    · exact ZV (hM k hk s t hs ht hst) Og
def chn:List (List Rat)→Prop
  |[]=>True
  |[a]=>∃c:Rat,c≠0∧∀t,ev t a=c
  |[_,b]=>∃c:Rat,c≠0∧∀t,ev t b=c
  |a :: b :: c :: l=>(∃q,∀t,ev t a=ev t q*ev t b - ev t c)∧chn (b :: c :: l)
def sm (δ z:Rat):Prop:= -δ<z∧z<δ
def prs (δ x:Rat):List (List Rat)→Prop
  |[]=>True
  |[a]=>¬sm δ (ev x a)
  |a :: b :: l=>¬(sm δ (ev x a)∧sm δ (ev x b))∧prs δ x (b :: l)
theorem Q7 {δ ε z:Rat} (h:sm δ z) (k:δ≤ε):sm ε z:=by unfold sm at *;constructor <;> grind
theorem zc9 {δ ε x:Rat} (k:δ≤ε):∀S:List (List Rat),prs ε x S→prs δ x S
  |[],_=>trivial
  |[_],h=>fun z=>h (Q7 z k)
  |_ :: b :: l,h=>⟨fun z=>h.1 ⟨Q7 z.1 k,Q7 z.2 k⟩,zc9 k (b :: l) h.2⟩
def chq (R Q:Rat):List (List Rat)→Prop
  |[]=>True
  |[a]=>∃c:Rat,c≠0∧∀t,ev t a=c
  |[_,b]=>∃c:Rat,c≠0∧∀t,ev t b=c
  |a :: b :: c :: l=>(∃q,(∀t,jb t R→jb (ev t q) Q)∧∀t,ev t a=ev t q*ev t b - ev t c)∧chq R Q (b :: c :: l)
theorem zgC {R Q Q':Rat} (k:Q≤Q'):∀S:List (List Rat),chq R Q S→chq R Q' S
  |[],_=>trivial
  |[_],h=>h
  |[_,_],h=>h
  |_ :: b :: c :: l,⟨⟨q,h1,h2⟩,h3⟩=>⟨⟨q,fun t ht=>ZV (h1 t ht) k,h2⟩,zgC k (b :: c :: l) h3⟩
theorem zrH {R:Rat} (hR:0≤R):∀S:List (List Rat),chn S→∃Q,0≤Q∧chq R Q S
  |[],_=>⟨0,Og,trivial⟩
  |[_],h=>⟨0,Og,h⟩
  |[_,_],h=>⟨0,Og,h⟩
  |a :: b :: c :: l,⟨⟨q,h2⟩,h3⟩=>by
    obtain ⟨M,m0,hM⟩:=zc8 hR q
    obtain ⟨Q,q0,hQ⟩:=zrH hR (b :: c :: l) h3
    exact ⟨M+Q,Og,⟨q,fun t ht=>ZV (hM t ht) Og,h2⟩,zgC Og _ hQ⟩
theorem zd3 {a:List Rat} {c:Rat} (hc:c≠0) (h:∀t,ev t a=c):∃δ,0<δ∧∀x,¬sm δ (ev x a):=by
  refine ⟨jd c,?_,fun x z=> ?_⟩
  · unfold jd;split <;> grind
  · rw [h] at z
    unfold sm jd at z
    split at z <;> grind
theorem zj6 {R Q:Rat} (hQ:0≤Q):∀S:List (List Rat),chq R Q S→∃δ,0<δ∧∀x,jb x R→prs δ x S
  |[],_=>⟨1,Oz,fun _ _=>trivial⟩
  |[a],⟨c,hc,h⟩=>by
    obtain ⟨δ,h0,h1⟩:=zd3 hc h
    exact ⟨δ,h0,fun x _=>h1 x⟩
  |[a,b],⟨c,hc,h⟩=>by
    obtain ⟨δ,h0,h1⟩:=zd3 hc h
    exact ⟨δ,h0,fun x _=>⟨fun z=>h1 x z.2,h1 x⟩⟩
  |a :: b :: c :: l,⟨⟨q,h1,h2⟩,h3⟩=>by
    obtain ⟨δ,h0,hδ⟩:=zj6 hQ (b :: c :: l) h3
    have hq2:0<Q+2:=Og
    have e:δ / (Q+2)*(Q+2)=δ:=yE Og
    have hp:0<δ / (Q+2):=by
      refine Rat.not_le.1 fun z=> ?_
      have:=yw (show 0≤ -(δ / (Q+2)) by grind) (show 0≤Q+2 by grind)
      grind
    generalize δ / (Q+2)=ε at*
    have hQε:=yw hQ (show 0≤ε by grind)
    have hle:ε≤δ:=Og
    refine ⟨ε,hp,fun x hx=>⟨fun z=> ?_,zc9 hle _ (hδ x hx)⟩⟩
    have h4:=Z5 (h1 x hx) (show jb (ev x b) ε by unfold sm at z;unfold jb;constructor <;> grind)
    have h5:=h2 x
    refine (hδ x hx).1 ⟨Q7 z.2 hle,?_⟩
    unfold sm jb at*
    constructor <;> grind
theorem zbA {z:Rat} (h:0<z):Zv z=1:=by
  have:=QY.2 h;have:=Wh z;omega
theorem zbB {z:Rat} (h:z<0):Zv z= -1:=by
  have:=zeF.2 h;have:=Wh z;omega
theorem WX {δ z:Rat} (h:¬sm δ z):z≤ -δ∨δ≤z:=by
  unfold sm at h
  by_cases k: -δ<z
  · exact .inr Og
  · exact .inl Og
theorem JW {δ η z w:Rat} (hd:0<δ) (h:¬sm δ z) (k:jb (w - z) η) (l:η<δ):Zv w=Zv z∧Zv z≠0:=by
  unfold jb at k
  rcases WX h with q|q
  · rw [zbB (show w<0 by grind),zbB (show z<0 by grind)];decide
  · rw [zbA (show 0<w by grind),zbA (show 0<z by grind)];decide
theorem zbg (x:Rat):∀(l:List (List Rat)) (n s:Int),va x l n s=n+va x l 0 s
  |[],n,s=>by show n=n+0;omega
  |p :: l,n,s=>by
    unfold va
    split
    · exact zbg x l n s
    · split
      · rw [zbg x l (n+1),zbg x l (0+1)];omega
      · exact zbg x l n _
theorem Km (x:Rat) (p:List Rat) (l:List (List Rat)) (n s:Int):va x (p :: l) n s=if Zv (ev x p)=0 then va x l n s else va x l (if s*Zv (ev x p)<0 then n+1 else n) (Zv (ev x p)):=rfl
theorem znK {z:Rat} {g k:List Rat} {T:List (List Rat)} {n s:Int} (hs:s=1∨s= -1) (hk:Zv (ev z k)= -s):va z (g :: k :: T) n s=va z T (n+1) (-s):=by
  have hr:=Wh (ev z g)
  rw [Km,Km,Km]
  rcases (show Zv (ev z g)= -1∨Zv (ev z g)=0∨Zv (ev z g)=1 by omega) with e|e|e <;> rcases hs with rfl|rfl <;> simp [e,hk]
theorem zaJ {R Q:Rat} {f:List Rat} {T:List (List Rat)} (h:chq R Q (f :: T)):chq R Q T:=by
  match T,h with
  |[],_=>trivial
  |[_],h=>exact h
  |_ :: _ :: _,h=>exact h.2
theorem zaK {δ x:Rat} {f:List Rat} {T:List (List Rat)} (h:prs δ x (f :: T)):prs δ x T:=by
  match T,h with
  |[],_=>trivial
  |_ :: _,h=>exact h.2
theorem V0 {R Q δ1 δ x y:Rat} (hQ:0≤Q) (hd:0<δ) (hδ:(Q+2)*δ≤δ1) (hx:jb x R):∀(m:Nat) (f:List Rat) (T:List (List Rat)),T.length≤m→chq R Q (f :: T)→prs δ1 x (f :: T)→(∀g,g∈f :: T→∃η,η<δ∧jb (ev y g - ev x g) η)→¬sm δ (ev x f)→∀n,va x T n (Zv (ev x f))=va y T n (Zv (ev x f))
  |_,f,[],_,_,_,_,_,n=>rfl
  |0,f,g :: T,hm,_,_,_,_,_=>by simp at hm
  |m+1,f,g :: T,hm,hc,hp,hl,hf,n=>by
    have hQδ:=yw hQ (show 0≤δ by grind)
    have hle:δ≤δ1:=Og
    have hm':T.length≤m:=by simp at hm;omega
    obtain ⟨ηg,lg,bg⟩:=hl g (by simp)
    have hlt:∀k,k∈g :: T→∃η,η<δ∧jb (ev y k - ev x k) η:=fun k hk=>hl k (yQ _ hk)
    by_cases hg:sm δ (ev x g)
    · match T, hc, hp, hm', hlt with
      |[],hc,hp,_,_=>exact absurd (Q7 hg hle) hp.2
      |k :: T,⟨⟨q,h1,h2⟩,h3⟩,hp,hm',hlt=>
        have hf1:¬sm δ1 (ev x f):=fun z=>hp.1 ⟨z,Q7 hg hle⟩
        have h4:=Z5 (h1 x hx) (show jb (ev x g) δ by unfold sm at hg;unfold jb;constructor <;> grind)
        have h5:=h2 x
        obtain ⟨ηk,lk,bk⟩:=hlt k (by simp)
        have hs:Zv (ev x f)=1∨Zv (ev x f)= -1:=by
          rcases WX hf1 with z|z
          · exact .inr (zbB Og)
          · exact .inl (zbA Og)
        have hkx:¬sm δ (ev x k)∧Zv (ev x k)= - Zv (ev x f):=by
          unfold jb at h4
          rcases WX hf1 with z|z
          · have : 2 * δ ≤ ev x k := by grind
            rw [zbA (show 0<ev x k by grind),zbB (show ev x f<0 by grind)]
            refine ⟨fun w=> ?_,Od⟩
            unfold sm at w;grind
          · have : ev x k ≤ -(2 * δ) := by grind
            rw [zbB (show ev x k<0 by grind),zbA (show 0<ev x f by grind)]
            refine ⟨fun w=> ?_,Od⟩
            unfold sm at w;grind
        have hky:=(JW hd hkx.1 bk lk).1
        rw [znK hs hkx.2,znK hs (hky.trans hkx.2),←hkx.2]
        exact V0 hQ hd hδ hx m k T (by simp at hm';omega) (zaJ h3) (zaK hp.2) (fun j hj=>hlt j (yQ _ hj)) hkx.1 (n+1)
    · obtain ⟨e1, e2⟩ := JW hd hg bg lg
      unfold va
      rw [e1,if_neg e2,if_neg e2]
      exact V0 hQ hd hδ hx m g T hm' (zaJ hc) (zaK hp) hlt hg _
def b2 (p:Prop) [Decidable p]:Int:=if p then 1 else 0
def Stp (S:List (List Rat)) (f:List Rat) (x y:Rat):Prop:=
  (Zv (ev x f)=Zv (ev y f)∧(∀z,x≤z→z≤y→ev z f≠0)∧vr S x=vr S y)
  ∨((∀u v,x≤u→u<v→v≤y→ev u f<ev v f)∧vr S x - vr S y=b2 (ev x f<0) - b2 (ev y f<0))
  ∨((∀u v,x≤u→u<v→v≤y→ev v f<ev u f)∧vr S x - vr S y=b2 (0<ev x f) - b2 (0<ev y f))
theorem zb4 {S:List (List Rat)} {f0 f1:List Rat} {T:List (List Rat)} {z:Rat} {τ:Int} (hS:S=f0 :: f1 :: T) (h1:Zv (ev z f1)=τ) (hτ:τ≠0):vr S z=(if Zv (ev z f0)*τ<0 then 1 else 0)+va z T 0 τ:=by
  rw [hS]
  unfold vr
  rw [Km,Km,Km,h1,if_neg hτ,if_neg hτ]
  split
  · rename_i h0
    rw [zbg,h0]
    simp
  · rename_i h0
    rw [zbg]
    simp
theorem zb5 {a b:Rat} (ha:0<a) (hb:0<b):0<a*b:=yau ha hb
theorem step {f0:List Rat} {T:List (List Rat)} (hc:chn (f0 :: vw f0 :: T)) {R:Rat} (hR:0≤R):∃h,0<h∧∀x y,jb x R→jb y R→x<y→y - x≤h→Stp (f0 :: vw f0 :: T) f0 x y:=by
  obtain ⟨Q,hQ,hq⟩:=zrH hR _ hc
  obtain ⟨δ1,hδ1,hp⟩:=zj6 hQ _ hq
  obtain ⟨L,hL,hl⟩:=zj5 hR (f0 :: vw f0 :: T)
  obtain ⟨K,hK,hk⟩:=znI hR f0
  have dpos:∀{a b:Rat},0<a→0<b→0<a / b:=fun {a b} ha hb=>by
    have e:a / b*b=a:=yE Og
    refine Rat.not_le.1 fun z=> ?_
    have:=yw (show 0≤ -(a / b) by grind) (show 0≤b by grind)
    grind
  have hd:0<δ1 / (Q+2):=dpos hδ1 Og
  have ed:δ1 / (Q+2)*(Q+2)=δ1:=yE Og
  generalize δ1 / (Q+2)=δ at*
  have hh:0<δ / (L+K+1):=dpos hd Og
  have eh:δ / (L+K+1)*(L+K+1)=δ:=yE Og
  generalize δ / (L+K+1)=h at*
  have hQδ:=yw hQ (show 0≤δ by grind)
  have hLh:=yw hL (show 0≤h by grind)
  have hKh:=yw hK (show 0≤h by grind)
  refine ⟨h,hh,fun x y hx hy hxy hyx=> ?_⟩
  have hlip:∀g,g∈f0 :: vw f0 :: T→∀u v,x≤u→u≤v→v≤y→jb (ev v g - ev u g) (L*h):=fun g hg u v h1 h2 h3=>by
    have:=yw hL (show 0≤h - (v - u) by grind)
    exact ZV (hl g hg u v (by unfold jb at *;constructor <;> grind) (by unfold jb at *;constructor <;> grind) h2) Og
  have hLδ:L*h<δ:=Og
  have hxy':x≤y:=Og
  have hlx:∀g,g∈f0 :: vw f0 :: T→∃η,η<δ∧jb (ev y g - ev x g) η:=fun g hg=>⟨L*h,hLδ,hlip g hg x y Og hxy' Og⟩
  by_cases h0:sm δ (ev x f0)
  · have hle : δ ≤ δ1 := by grind
    have h1:¬sm δ1 (ev x (vw f0)):=fun z=>(hp x hx).1 ⟨Q7 h0 hle,z⟩
    have h1':¬sm δ (ev x (vw f0)):=fun z=>h1 (Q7 z hle)
    obtain ⟨e1,e2⟩:=JW hd h1' (hlip (vw f0) (by simp) x y Og hxy' Og) hLδ
    have ht:=V0 hQ hd (show (Q+2)*δ≤δ1 by grind) hx T.length (vw f0) T (yJ _) (zaJ hq) (zaK (hp x hx)) (fun g hg=>hlx g (yQ _ hg)) h1' 0
    have vx:=zb4 (f0:=f0) (T:=T) rfl rfl e2 (z:=x) (f1:=vw f0)
    have vy:=zb4 (f0:=f0) (T:=T) rfl e1 e2 (z:=y) (f1:=vw f0)
    have hmono:∀u v,x≤u→u<v→v≤y→jb (ev v f0 - ev u f0 - (v - u)*ev u (vw f0)) (K*((v - u)*(v - u)))∧jb (ev u (vw f0) - ev x (vw f0)) (L*h):=fun u v a b c=>
      ⟨hk u v (by unfold jb at *;constructor <;> grind) (by unfold jb at *;constructor <;> grind) Og,hlip (vw f0) (by simp) x u Og a Og⟩
    refine .inr ?_
    rcases WX h1 with z|z
    · refine .inr ⟨fun u v a b c => ?_, ?_⟩
      · obtain ⟨m1, m2⟩ := hmono u v a b c
        have hneg:ev u (vw f0)< -δ:=by unfold jb at m2;grind
        have hKw:K*(v - u)≤δ:=by
          have:=yw hK (show 0≤h - (v - u) by grind)
          grind
        have:=zb5 (show 0<v - u by grind) (show 0< -(ev u (vw f0)) - K*(v - u) by grind)
        unfold jb at m1
        grind
      · have s1 : Zv (ev x (vw f0)) = -1 := zbB Og
        rw [vx,vy,ht,s1]
        unfold b2
        have p1:∀w:Rat,(Zv w* -1<0)↔0<w:=fun w=>by have:=QY (x:=w);constructor <;> intro q <;> (first|(apply QY.1;omega)|(have:=QY.2 q;omega))
        simp only [p1]
        omega
    · refine .inl ⟨fun u v a b c => ?_, ?_⟩
      · obtain ⟨m1, m2⟩ := hmono u v a b c
        have hpos:δ<ev u (vw f0):=by unfold jb at m2;grind
        have hKw:K*(v - u)≤δ:=by
          have:=yw hK (show 0≤h - (v - u) by grind)
          grind
        have:=zb5 (show 0<v - u by grind) (show 0<ev u (vw f0) - K*(v - u) by grind)
        unfold jb at m1
        grind
      · have s1 : Zv (ev x (vw f0)) = 1 := zbA Og
        rw [vx,vy,ht,s1]
        unfold b2
        have p1:∀w:Rat,(Zv w*1<0)↔w<0:=fun w=>by rw [Int.mul_one];exact zeF
        simp only [p1]
        omega
  · obtain ⟨e1, e2⟩ := JW hd h0 (hlip f0 (by simp) x y Og hxy' Og) hLδ
    refine .inl ⟨e1.symm,fun z a b c=> ?_,?_⟩
    · have := hlip f0 (by simp) x z Og a b
      unfold jb at this
      rcases WX h0 with w|w <;> grind
    · have ht := V0 hQ hd (show (Q + 2) * δ ≤ δ1 by grind) hx (vw f0 :: T).length f0 (vw f0 :: T) (yJ _) hq (hp x hx) hlx h0 0
      have hv:∀w,Zv (ev w f0)=Zv (ev x f0)→vr (f0 :: vw f0 :: T) w=va w (vw f0 :: T) 0 (Zv (ev x f0)):=fun w hw=>by
        unfold vr
        conv=>lhs;unfold va
        rw [hw,if_neg e2,Int.zero_mul,if_neg Od]
      rw [hv x rfl,hv y e1]
      exact ht
theorem zlf (r:Rat):r≤((r.num.natAbs:Nat):Rat):=by
  have h1:(r.num:Rat) / ((r.den:Int):Rat)=r:=by rw [← yS,yam]
  have h2:=yE (a:=(r.num:Rat)) (Kk (ZJ r))
  rw [h1] at h2
  have h3:(1:Rat)≤((r.den:Int):Rat):=by
    have:=r.den_pos
    have:(1:Int)≤(r.den:Int):=Oo
    exact_mod_cast this
  have h4:(r.num:Rat)≤((r.num.natAbs:Nat):Rat):=by
    have:r.num≤((r.num.natAbs:Nat):Int):=Oo
    exact_mod_cast this
  have h5:(0:Rat)≤((r.num.natAbs:Nat):Rat):=by exact_mod_cast yN _
  by_cases h:0≤r
  · have := yw h (show 0 ≤ ((r.den : Int) : Rat) - 1 by grind)
    grind
  · grind
theorem walk {P:Rat→Rat→Prop} {R h:Rat} (hh:0<h) (hs:∀x y,jb x R→jb y R→x<y→y - x≤h→P x y) (ht:∀x z y,x<z→z<y→P x z→P z y→P x y) (x y:Rat) (hx:jb x R) (hy:jb y R) (hxy:x<y):P x y:=by
  have key:∀(n:Nat) (x:Rat),jb x R→x<y→y - x≤((n:Nat):Rat)*h→P x y:=by
    intro n
    induction n with
    |zero=>
      intro x _ h1 h2
      have:((0:Nat):Rat)=0:=Oz
      rw [this] at h2;grind
    |succ n ih=>
      intro x hx h1 h2
      by_cases k:y - x≤h
      · exact hs x y hx hy h1 k
      · have e : ((n + 1 : Nat) : Rat) = (n : Nat) + 1 := by exact_mod_cast zc1 n
        rw [e] at h2
        have hz:jb (x+h) R:=by unfold jb at *;constructor <;> grind
        exact ht x (x+h) y Og Og (hs x (x+h) hx hz Og Og) (ih (x+h) hz Og Og)
  have e:(y - x) / h*h=y - x:=yE Og
  refine key ((y - x) / h).num.natAbs x hx hxy ?_
  have:=yw (show 0≤((((y - x) / h).num.natAbs:Nat):Rat) - (y - x) / h by have:=zlf ((y - x) / h);grind) (show 0≤h by grind)
  grind
theorem neg1:(((-1:Int)):Rat)= -1:=Oz
theorem zik (t:Rat) (l:List Rat):ev t (mul l [(((-1:Int)):Rat)])= - ev t l:=by
  rw [qK,neg1];show _*(0*t+ -1)=_;grind
theorem zd4 {b:List Rat} (hb:cl b=b) (h:b.length=1):∃c:Rat,c≠0∧∀t,ev t b=c:=by
  match b,h with
  |[c],_=>exact ⟨c,VX (l:=[c]) hb (by simp),fun t=>by show 0*t+c=c;grind⟩
theorem znL (b:List Rat):dvd b b:=⟨[1],fun t=>by show _=_*(0*t+1);grind⟩
theorem znM:∀(n:Nat) (a b:List Rat),cl a=a→cl b=b→b.length≠0→(mul (dr a b) [(((-1:Int)):Rat)]).length≤n→(∀h,cl h=h→dvd h a→dvd h b→h.length≤1)→chn (a :: b :: st n b (mul (dr a b) [(((-1:Int)):Rat)]))
  |n,a,b,ha,hb,h0,hn,hd=>by
    by_cases hc:(mul (dr a b) [(((-1:Int)):Rat)]).length=0
    · rw [zc3 hc]
      have hda:dvd b a:=⟨dq a b,fun t=>by
        have h1:=K2 ha hb h0 t
        have h2:=zik t (dr a b)
        rw [yB.1 hc] at h2
        have h3:(0:Rat)= - ev t (dr a b):=h2
        grind⟩
      have:=hd b hb hda (znL b)
      exact zd4 hb Oo
    · obtain ⟨m, rfl⟩ : ∃ m, n = m + 1 := ⟨n - 1, by omega⟩
      rw [zie hc hn]
      have hcc:=Q5 (dr a b) [(((-1:Int)):Rat)]
      refine ⟨⟨dq a b,fun t=> ?_⟩,?_⟩
      · rw [zik,K2 ha hb h0 t];grind
      · refine znM m b _ hb hcc hc (zaF hcc hc hn) fun h hh h1 h2 => ?_
        refine hd h hh ?_ h1
        obtain ⟨u,hu⟩:=h1
        obtain ⟨v,hv⟩:=h2
        refine ⟨sub (mul (dq a b) u) v,fun t=> ?_⟩
        have h3:=hv t
        rw [zik] at h3
        rw [K2 ha hb h0 t,Z1,qK,hu t]
        grind
theorem zbh {p:List Rat} (hp:(cl p).length≠0):(∃c:Rat,c≠0∧(∀t,ev t (ZL p)=c)∧vH p=[ZL p])∨∃T,vH p=ZL p :: vw (ZL p) :: T∧chn (ZL p :: vw (ZL p) :: T):=by
  have h0:(ZL p).length≠0:=fun e=>hp ((zb3 p).1 e)
  have hs:vH p=ZL p :: st (ZL p).length (ZL p) (vw (ZL p)):=if_neg h0
  have hc:=ze2 p
  by_cases hd:(vw (ZL p)).length=0
  · refine .inl ?_
    have h1:(ZL p).length=1:=by
      refine yL fun k=> ?_
      have h2:=VX hc h0
      have h3:=Z4 (ZL p) ((ZL p).length - 2)
      rw [W4 Oo,show (ZL p).length - 2+1=(ZL p).length - 1 by omega] at h3
      rcases yG.1 h3.symm with z|z
      · have : (((ZL p).length - 1 : Nat) : Int) = 0 := by exact_mod_cast z
        omega
      · exact h2 z
    obtain ⟨c,c0,hcc⟩:=zd4 hc h1
    exact ⟨c,c0,hcc,by rw [hs,zc3 hd]⟩
  · refine .inr ?_
    have hl:=Wp (ZL p)
    have hy:=zie (a:=ZL p) hd (show (vw (ZL p)).length≤(ZL p).length by omega)
    refine ⟨_,by rw [hs,hy],?_⟩
    exact znM _ _ _ hc (Qt _) hd (zaF (Qt _) hd Oo) fun h hh h1 h2=>zqc hp hh h1 h2
def pe:List Rat→Rat→Rat
  |[],_=>1
  |b :: B,t=>(t - b)*pe B t
theorem znN {a b:Rat} (ha:0<a) (hb:0<b):0<a / b:=by
  have e:a / b*b=a:=yE Og
  refine Rat.not_le.1 fun z=> ?_
  have:=yw (show 0≤ -(a / b) by grind) (show 0≤b by grind)
  grind
def Kp (S:List (List Rat)) (f:List Rat) (x y:Rat):Prop:=vr S y≤vr S x∧(vr S x=vr S y→(0<ev x f→0<ev y f)∧(ev x f<0→ev y f<0))
theorem zsW {S:List (List Rat)} {f:List Rat} {x y:Rat} (hxy:x<y) (h:Stp S f x y):Kp S f x y:=by
  rcases h with ⟨h1,h2,h3⟩|⟨h1,h2⟩|⟨h1,h2⟩
  · refine ⟨Oo, fun _ => ⟨fun k => ?_, fun k => ?_⟩⟩
    · have:=zbA k;rw [h1] at this;exact QY.1 Oo
    · have:=zbB k;rw [h1] at this;exact zeF.1 Oo
  · have hm := h1 x y yF hxy yF
    unfold b2 at h2
    by_cases k1:ev x f<0
    · by_cases k2 : ev y f < 0
      · rw [if_pos k1, if_pos k2] at h2
        exact ⟨Oo,fun _=>⟨fun k=>by grind,fun _=>k2⟩⟩
      · rw [if_pos k1, if_neg k2] at h2
        exact ⟨Oo,fun e=>by omega⟩
    · have k2 : ¬ ev y f < 0 := fun k => k1 Og
      rw [if_neg k1,if_neg k2] at h2
      exact ⟨Oo,fun _=>⟨fun k=>by grind,fun k=>absurd k k1⟩⟩
  · have hm := h1 x y yF hxy yF
    unfold b2 at h2
    by_cases k1:0<ev x f
    · by_cases k2 : 0 < ev y f
      · rw [if_pos k1, if_pos k2] at h2
        exact ⟨Oo,fun _=>⟨fun _=>k2,fun k=>by grind⟩⟩
      · rw [if_pos k1, if_neg k2] at h2
        exact ⟨Oo,fun e=>by omega⟩
    · have k2 : ¬ 0 < ev y f := fun k => k1 Og
      rw [if_neg k1,if_neg k2] at h2
      exact ⟨Oo,fun _=>⟨fun k=>absurd k k1,fun k=>by grind⟩⟩
theorem znO {S:List (List Rat)} {f:List Rat} {x z y:Rat} (h1:Kp S f x z) (h2:Kp S f z y):Kp S f x y:=by
  obtain ⟨a1,a2⟩:=h1
  obtain ⟨b1,b2⟩:=h2
  refine ⟨Oo,fun e=> ?_⟩
  obtain ⟨c1,c2⟩:=a2 Oo
  obtain ⟨d1,d2⟩:=b2 Oo
  exact ⟨fun k=>d1 (c1 k),fun k=>d2 (c2 k)⟩
theorem zlg {a b z:Rat} (h1:a≤z) (h2:z≤b):jb z (jd a+jd b):=by
  have:=Ws a
  have:=Ws b
  unfold jb at*
  constructor <;> grind
theorem zfc {f:List Rat} {T:List (List Rat)} (hc:chn (f :: vw f :: T)) {x y:Rat} (hxy:x<y):Kp (f :: vw f :: T) f x y:=by
  have hR:0≤jd x+jd y:=Vv (zlg (a:=x) (b:=y) (z:=x) yF Og)
  obtain ⟨h,hh,hs⟩:=step hc hR
  exact walk hh (fun u v hu hv huv hle=>zsW huv (hs u v hu hv huv hle)) (fun u z v _ _ h1 h2=>znO h1 h2) x y (zlg yF Og) (zlg Og yF) hxy
theorem zd5 {p:List Rat} (hp:(cl p).length≠0) {a b:Rat} (hab:a<b) (h:bt (vH p) a b=0) {z:Rat} (h1:a≤z) (h2:z≤b):(0<ev a (ZL p)→0<ev z (ZL p))∧(ev a (ZL p)<0→ev z (ZL p)<0):=by
  rcases zbh hp with ⟨c,hc,hcc,-⟩|⟨T,hT,hch⟩
  · rw [hcc,hcc];exact ⟨id,id⟩
  · rw [hT] at h
    unfold bt at h
    have e1 : a = z ∨ a < z := by rcases Rat.le_total (a := z) (b := a) with k | k
                                  · exact .inl (Rat.le_antisymm h1 k)
                                  · by_cases e : a = z
                                    · exact .inl e
                                    · exact .inr Og
    rcases e1 with e1|e1
    · rw [e1];exact ⟨id,id⟩
    · have k1 := zfc hch e1
      by_cases e2:z=b
      · rw [e2] at k1 ⊢
        exact k1.2 Oo
      · have k2 := zfc hch (show z < b by grind)
        exact k1.2 (by have:=k1.1;have:=k2.1;omega)
theorem zgD {x L:Rat}:jb x L↔jd x≤L:=by
  unfold jb jd
  constructor
  · intro h;split <;> grind
  · intro h;split at h <;> constructor <;> grind
def tp:Nat→Rat
  |0=>1
  |n+1=>2*tp n
theorem zbi:∀n,1≤tp n
  |0=>yF
  |n+1=>by have:=zbi n;show 1≤2*tp n;grind
theorem zda (n:Nat):0<tp n:=by have:=zbi n;grind
theorem VP (a:Nat):∀b,tp (a+b)=tp a*tp b
  |0=>by show tp a=tp a*1;grind
  |b+1=>by show 2*tp (a+b)=tp a*(2*tp b);rw [VP a b];grind
def tq (n:Nat):Rat:=1 / tp n
theorem zdb (n:Nat):tq n*tp n=1:=yE (by have:=zda n;grind)
theorem K3 (n:Nat):0<tq n:=znN Oz (zda n)
theorem zqe {n:Nat} {x:Rat} (h:x*tp n=1):x=tq n:=by
  have h1:=zdb n
  have:x=x*(tq n*tp n):=by rw [h1];grind
  have e:x*(tq n*tp n)=(x*tp n)*tq n:=Og
  rw [this,e,h];grind
theorem zsX (a b:Nat):tq (a+b)=tq a*tq b:=by
  refine (zqe ?_).symm
  have h1:=zdb a
  have h2:=zdb b
  rw [VP]
  have:tq a*tq b*(tp a*tp b)=(tq a*tp a)*(tq b*tp b):=Og
  rw [this,h1,h2];decide +kernel
theorem zfd (a b:Nat):tq (a+b)*tp b=tq a:=by
  have h2:=zdb b
  rw [zsX]
  have:tq a*tq b*tp b=tq a*(tq b*tp b):=Og
  rw [this,h2];grind
theorem zrI:∀k,((yu k:Int):Rat)≤tp (30*k)
  |0=>by show ((1:Int):Rat)≤1;decide +kernel
  |k+1=>by
    have h:=zrI k
    have h1:=zda (30*k)
    rw [Big.jy,yC,show 30*(k+1)=30*k+30 by omega,VP]
    have e:tp 30=1073741824:=Oz
    have e2:((1000000000:Int):Rat)=1000000000:=Oz
    rw [e,e2]
    grind
theorem znP {z:Int} {K:Nat} (h:ln z≤K):jb (z:Rat) (tp (30*K)):=by
  have h1:=zct z
  have h2:=Big.VB h
  have h3:=zrI K
  have a1:(z:Rat)≤((yu K:Int):Rat):=by exact_mod_cast (show z≤yu K by omega)
  have a2: -((yu K:Int):Rat)≤(z:Rat):=by
    have:((-(yu K):Int):Rat)≤(z:Rat):=by exact_mod_cast (show -(yu K)≤z by omega)
    rw [yab] at this;exact this
  unfold jb
  constructor <;> grind
theorem zgE {x:Rat} {n d:Int} (hd:d≠0) (h:x*(d:Rat)=(n:Rat)) {T:Rat} (hn:jb (n:Rat) T):jb x T:=by
  have hT:=Vv hn
  rcases (show (1:Int)≤d∨d≤ -1 by omega) with k|k
  · have k1:(1:Rat)≤(d:Rat):=by
      have:((1:Int):Rat)≤(d:Rat):=by exact_mod_cast k
      rw [show ((1:Int):Rat)=1 by decide +kernel] at this;exact this
    unfold jb at*
    refine ⟨yay.1 fun q=> ?_,yay.1 fun q=> ?_⟩
    · have:=yw (show 0≤ -x by grind) (show 0≤(d:Rat) - 1 by grind);grind
    · have:=yw (show 0≤x by grind) (show 0≤(d:Rat) - 1 by grind);grind
  · have k1:(d:Rat)≤ -1:=by
      have:(d:Rat)≤((-1:Int):Rat):=by exact_mod_cast k
      rw [show ((-1:Int):Rat)= -1 by decide +kernel] at this;exact this
    unfold jb at*
    refine ⟨yay.1 fun q=> ?_,yay.1 fun q=> ?_⟩
    · have:=yw (show 0≤ -x by grind) (show 0≤ -(d:Rat) - 1 by grind);grind
    · have:=yw (show 0≤x by grind) (show 0≤ -(d:Rat) - 1 by grind);grind
theorem zil {n:Int} (h:n≠0):1≤jd (n:Rat):=by
  have e:((1:Int):Rat)=1:=Oz
  have e':((-1:Int):Rat)= -1:=Oz
  rcases (show (1:Int)≤n∨n≤ -1 by omega) with k|k
  · have : ((1 : Int) : Rat) ≤ (n : Rat) := by exact_mod_cast k
    unfold jd;split <;> grind
  · have : (n : Rat) ≤ ((-1 : Int) : Rat) := by exact_mod_cast k
    unfold jd;split <;> grind
theorem znQ {x:Rat} {n d:Int} {k:Nat} (hd:jb (d:Rat) (tp k)) (h:x*(d:Rat)=(n:Rat)) (hn:n≠0):tq k≤jd x:=by
  refine yay.1 fun q=> ?_
  have h1:=zil hn
  have h2:=Z5 (zgD.2 (show jd x≤jd x from yF)) hd
  rw [h,zgD] at h2
  have h3:=zdb k
  have h4:=yau (show 0<tq k - jd x by grind) (zda k)
  grind
def cf (T:Rat) (l:List Rat):Prop:=∀i,jb (l.getD i 0) T
theorem znR {K:Nat} {l:List Rat} (h:cb K l):cf (tp (30*K)) l:=fun i=>by
  obtain ⟨d,h0,h1,h2⟩:=h
  obtain ⟨n,h3,h4⟩:=h2 i
  exact zgE h0 h4 (znP h3)
theorem zsY {K:Nat} {l:List Rat} (h:cb K l) {i:Nat} (hi:l.getD i 0≠0):tq (30*K)≤jd (l.getD i 0):=by
  obtain ⟨d,h0,h1,h2⟩:=h
  obtain ⟨n,h3,h4⟩:=h2 i
  refine znQ (znP h1) h4 fun e=> ?_
  rw [e] at h4
  rcases yG.1 (h4.trans (by rfl)) with q|q
  · exact hi q
  · exact Kk h0 q
theorem zun {x:Rat} {K:Nat} (h:hq x≤K):jb x (tp (30*K)):=by
  have h1:(x.num:Rat) / ((x.den:Int):Rat)=x:=by rw [← yS,yam]
  have h2:=yE (a:=(x.num:Rat)) (Kk (ZJ x))
  rw [h1] at h2
  exact zgE (ZJ x) h2 (znP (yah (v9 x) h))
theorem znS {a:List Rat} {c:Rat} (h:∀t,ev t a=c):c=a.getD 0 0:=by
  rw [← h 0]
  cases a with
  |nil=>rfl
  |cons x l=>show ev 0 l*0+x=x;grind
def mB (R C:Rat):Nat→Rat
  |0=>0
  |n+1=>mB R C n*R+C
def lB (R C:Rat):Nat→Rat
  |0=>0
  |n+1=>mB R C n+R*lB R C n
def kB (R C:Rat):Nat→Rat
  |0=>0
  |n+1=>lB R C n+R*kB R C n
theorem zj7 {R C:Rat} (hR:0≤R) (hC:0≤C):∀n,0≤mB R C n
  |0=>yF
  |n+1=>by have:=yw (zj7 hR hC n) hR;show 0≤mB R C n*R+C;grind
theorem zj8 {R C:Rat} (hR:0≤R) (hC:0≤C):∀n,0≤lB R C n
  |0=>yF
  |n+1=>by have:=yw hR (zj8 hR hC n);have:=zj7 hR hC n;show 0≤mB R C n+R*lB R C n;grind
theorem znT {R C:Rat} (hR:0≤R) (hC:0≤C):∀n,0≤kB R C n
  |0=>yF
  |n+1=>by have:=yw hR (znT hR hC n);have:=zj8 hR hC n;show 0≤lB R C n+R*kB R C n;grind
theorem evB {R C:Rat} (hR:0≤R) (hC:0≤C) {t:Rat} (ht:jb t R):∀(n:Nat) (l:List Rat),l.length≤n→cf C l→jb (ev t l) (mB R C n)
  |n,[],_,_=>by have:=zj7 hR hC n;show jb 0 _;unfold jb;constructor <;> grind
  |0,_ :: _,h,_=>by simp at h
  |n+1,a :: l,h,hc=>Wr (Z5 (evB hR hC ht n l (by simp at h;omega) fun i=>hc (i+1)) ht) (hc 0)
theorem zsZ {R C:Rat} (hR:0≤R) (hC:0≤C) {s t:Rat} (hs:jb s R) (ht:jb t R) (hst:s≤t):∀(n:Nat) (l:List Rat),l.length≤n→cf C l→jb (ev t l - ev s l) (lB R C n*(t - s))
  |n,[],_,_=>by
    have:=yw (zj8 hR hC n) (show 0≤t - s by grind)
    show jb (0 - 0) _;unfold jb;constructor <;> grind
  |0,_ :: _,h,_=>by simp at h
  |n+1,a :: l,h,hc=>by
    have hl:l.length≤n:=by simp at h;omega
    have e:ev t (a :: l) - ev s (a :: l)=ev t l*(t - s)+s*(ev t l - ev s l):=by
      show ev t l*t+a - (ev s l*s+a)=_;grind
    have h1:=Z5 (evB hR hC ht n l hl fun i=>hc (i+1)) (show jb (t - s) (t - s) by unfold jb;constructor <;> grind)
    have h2:=Z5 hs (zsZ hR hC hs ht hst n l hl fun i=>hc (i+1))
    rw [e]
    refine ZV (Wr h1 h2) ?_
    show _≤(mB R C n+R*lB R C n)*(t - s)
    grind
theorem zuo {R C:Rat} (hR:0≤R) (hC:0≤C) {s t:Rat} (hs:jb s R) (ht:jb t R) (hst:s≤t):∀(n:Nat) (l:List Rat),l.length≤n→cf C l→jb (ev t l - ev s l - (t - s)*ev s (vw l)) (kB R C n*((t - s)*(t - s)))
  |n,[],_,_=>by
    have h0:0≤t - s:=Og
    have:=yw (znT hR hC n) (yw h0 h0)
    have:ev s (vw [])=0:=by
      have:vw ([]:List Rat)=[]:=Oz
      rw [this];rfl
    rw [this]
    show jb (0 - 0 - _) _;unfold jb;constructor <;> grind
  |0,_ :: _,h,_=>by simp at h
  |n+1,a :: l,h,hc=>by
    have hl:l.length≤n:=by simp at h;omega
    have e:ev t (a :: l) - ev s (a :: l) - (t - s)*ev s (vw (a :: l))=(ev t l - ev s l)*(t - s)+s*(ev t l - ev s l - (t - s)*ev s (vw l)):=by
      rw [zgB]
      show ev t l*t+a - (ev s l*s+a) - _=_;grind
    have h1:=Z5 (zsZ hR hC hs ht hst n l hl fun i=>hc (i+1)) (show jb (t - s) (t - s) by unfold jb;constructor <;> grind)
    have h2:=Z5 hs (zuo hR hC hs ht hst n l hl fun i=>hc (i+1))
    rw [e]
    refine ZV (Wr h1 h2) ?_
    show _≤(lB R C n+R*kB R C n)*((t - s)*(t - s))
    grind
theorem B4 {R C:Rat} (hR:1≤R) (hC:1≤C):mB R C 4+2≤8*(C*(R*(R*R)))∧lB R C 4+kB R C 4+1≤16*(C*(R*R)):=by
  have h1:=yw (show 0≤R by grind) (show 0≤R - 1 by grind)
  have h2:=yw (show 0≤R by grind) h1
  have a0:0≤C:=Og
  have b1:=yw a0 h1
  have b2:=yw a0 h2
  have b3:=yw a0 (show 0≤R - 1 by grind)
  simp only [mB,lB,kB]
  constructor <;> grind
def pq (y:Rat):Nat→Rat
  |0=>1
  |n+1=>pq y n*y
theorem zfe {y:Rat} (h:1≤y):∀n,1≤pq y n
  |0=>yF
  |n+1=>by
    have:=zfe h n
    have:=yw (show 0≤pq y n by grind) (show 0≤y - 1 by grind)
    show 1≤pq y n*y;grind
theorem zrJ {y:Rat} {e:Nat} (h1:1≤y) (h:y≤tp e):∀n m,n≤m→pq y n≤tp (m*e)
  |0,m,_=>zbi _
  |n+1,m,hm=>by
    obtain ⟨k,rfl⟩:∃k,m=k+1:=⟨m - 1,Oo⟩
    have:=zrJ h1 h n k Oo
    have a:=zfe h1 n
    have:=yw (show 0≤tp (k*e) - pq y n by grind) (show 0≤y by grind)
    have:=yw (show 0≤tp (k*e) by have:=zda (k*e);grind) (show 0≤tp e - y by grind)
    rw [Nat.succ_mul,VP]
    show pq y n*y≤_;grind
theorem zgF {ε δ c:Rat} {a:List Rat} {x:Rat} (h:∀t,ev t a=c) (hc:ε≤jd c) (hδ:δ≤ε):¬sm δ (ev x a):=fun z=>by
  rw [h] at z
  unfold sm at z
  unfold jd at hc
  split at hc <;> grind
theorem zgG {R Q ε:Rat} (hQ:0≤Q):∀S:List (List Rat),chq R Q S→(∀a,a∈S→∀c,c≠0→(∀t,ev t a=c)→ε≤jd c)→∀δ,0<δ→δ*pq (Q+2) S.length≤ε→∀x,jb x R→prs δ x S
  |[],_,_,_,_,_,_,_=>trivial
  |[a],⟨c,hc,h⟩,hs,δ,h0,hδ,x,hx=>zgF h (hs a (by simp) c hc h) (by
      have:=zfe (y:=Q+2) Og [a].length
      have:=yw (show 0≤δ by grind) (show 0≤pq (Q+2) [a].length - 1 by grind);grind)
  |[a,b],⟨c,hc,h⟩,hs,δ,h0,hδ,x,hx=>by
      have k:=zgF (x:=x) h (hs b (by simp) c hc h) (show δ≤ε by
        have:=zfe (y:=Q+2) Og [a,b].length
        have:=yw (show 0≤δ by grind) (show 0≤pq (Q+2) [a,b].length - 1 by grind);grind)
      exact ⟨fun z=>k z.2,k⟩
  |a :: b :: c :: l,⟨⟨q,h1,h2⟩,h3⟩,hs,δ,h0,hδ,x,hx=>by
    have hq2:0<Q+2:=Og
    have hd':=yau h0 hq2
    have hp:=zgG hQ (b :: c :: l) h3 (fun a' ha'=>hs a' (yQ _ ha')) (δ*(Q+2)) hd' (by
      have e:δ*(Q+2)*pq (Q+2) (b :: c :: l).length=δ*pq (Q+2) (a :: b :: c :: l).length:=by
        show _=δ*(pq (Q+2) (b :: c :: l).length*(Q+2));grind
      rw [e];exact hδ) x hx
    have hQε:=yw hQ (show 0≤δ by grind)
    have hle:δ≤δ*(Q+2):=Og
    refine ⟨fun z=> ?_,zc9 hle _ hp⟩
    have h4:=Z5 (h1 x hx) (show jb (ev x b) δ by unfold sm at z;unfold jb;constructor <;> grind)
    have h5:=h2 x
    refine hp.1 ⟨Q7 z.2 hle,?_⟩
    unfold sm jb at*
    constructor <;> grind
theorem zup {f0:List Rat} {T:List (List Rat)} {R Q δ1 δ L K h:Rat} (hQ:0≤Q) (hq:chq R Q (f0 :: vw f0 :: T)) (hp:∀x,jb x R→prs δ1 x (f0 :: vw f0 :: T)) (hL:0≤L)
    (hl:∀g,g∈f0 :: vw f0 :: T→∀s t,jb s R→jb t R→s≤t→jb (ev t g - ev s g) (L*(t - s))) (hK:0≤K)
    (hk:∀s t,jb s R→jb t R→s≤t→jb (ev t f0 - ev s f0 - (t - s)*ev s (vw f0)) (K*((t - s)*(t - s))))
    (hd:0<δ) (ed:δ*(Q+2)≤δ1) (hh:0<h) (eh:h*(L+K+1)≤δ):∀x y,jb x R→jb y R→x<y→y - x≤h→Stp (f0 :: vw f0 :: T) f0 x y:=by
  have hQδ:=yw hQ (show 0≤δ by grind)
  have hLh:=yw hL (show 0≤h by grind)
  have hKh:=yw hK (show 0≤h by grind)
  intro x y hx hy hxy hyx
  have hlip:∀g,g∈f0 :: vw f0 :: T→∀u v,x≤u→u≤v→v≤y→jb (ev v g - ev u g) (L*h):=fun g hg u v h1 h2 h3=>by
    have:=yw hL (show 0≤h - (v - u) by grind)
    exact ZV (hl g hg u v (by unfold jb at *;constructor <;> grind) (by unfold jb at *;constructor <;> grind) h2) Og
  have hLδ:L*h<δ:=Og
  have hxy':x≤y:=Og
  have hlx:∀g,g∈f0 :: vw f0 :: T→∃η,η<δ∧jb (ev y g - ev x g) η:=fun g hg=>⟨L*h,hLδ,hlip g hg x y Og hxy' Og⟩
  by_cases h0:sm δ (ev x f0)
  · have hle : δ ≤ δ1 := by grind
    have h1:¬sm δ1 (ev x (vw f0)):=fun z=>(hp x hx).1 ⟨Q7 h0 hle,z⟩
    have h1':¬sm δ (ev x (vw f0)):=fun z=>h1 (Q7 z hle)
    obtain ⟨e1,e2⟩:=JW hd h1' (hlip (vw f0) (by simp) x y Og hxy' Og) hLδ
    have ht:=V0 hQ hd (show (Q+2)*δ≤δ1 by grind) hx T.length (vw f0) T (yJ _) (zaJ hq) (zaK (hp x hx)) (fun g hg=>hlx g (yQ _ hg)) h1' 0
    have vx:=zb4 (f0:=f0) (T:=T) rfl rfl e2 (z:=x) (f1:=vw f0)
    have vy:=zb4 (f0:=f0) (T:=T) rfl e1 e2 (z:=y) (f1:=vw f0)
    have hmono:∀u v,x≤u→u<v→v≤y→jb (ev v f0 - ev u f0 - (v - u)*ev u (vw f0)) (K*((v - u)*(v - u)))∧jb (ev u (vw f0) - ev x (vw f0)) (L*h):=fun u v a b c=>
      ⟨hk u v (by unfold jb at *;constructor <;> grind) (by unfold jb at *;constructor <;> grind) Og,hlip (vw f0) (by simp) x u Og a Og⟩
    refine .inr ?_
    have hδ1:δ+δ≤δ1:=Og
    rcases WX h1 with z|z
    · refine .inr ⟨fun u v a b c => ?_, ?_⟩
      · obtain ⟨m1, m2⟩ := hmono u v a b c
        have hneg:ev u (vw f0)< -δ:=by unfold jb at m2;grind
        have hKw:K*(v - u)≤δ:=by
          have:=yw hK (show 0≤h - (v - u) by grind)
          grind
        have:=zb5 (show 0<v - u by grind) (show 0< -(ev u (vw f0)) - K*(v - u) by grind)
        unfold jb at m1
        grind
      · have s1 : Zv (ev x (vw f0)) = -1 := zbB Og
        rw [vx,vy,ht,s1]
        unfold b2
        have p1:∀w:Rat,(Zv w* -1<0)↔0<w:=fun w=>by have:=QY (x:=w);constructor <;> intro q <;> (first|(apply QY.1;omega)|(have:=QY.2 q;omega))
        simp only [p1]
        omega
    · refine .inl ⟨fun u v a b c => ?_, ?_⟩
      · obtain ⟨m1, m2⟩ := hmono u v a b c
        have hpos:δ<ev u (vw f0):=by unfold jb at m2;grind
        have hKw:K*(v - u)≤δ:=by
          have:=yw hK (show 0≤h - (v - u) by grind)
          grind
        have:=zb5 (show 0<v - u by grind) (show 0<ev u (vw f0) - K*(v - u) by grind)
        unfold jb at m1
        grind
      · have s1 : Zv (ev x (vw f0)) = 1 := zbA Og
        rw [vx,vy,ht,s1]
        unfold b2
        have p1:∀w:Rat,(Zv w*1<0)↔w<0:=fun w=>by rw [Int.mul_one];exact zeF
        simp only [p1]
        omega
  · obtain ⟨e1, e2⟩ := JW hd h0 (hlip f0 (by simp) x y Og hxy' Og) hLδ
    refine .inl ⟨e1.symm,fun z a b c=> ?_,?_⟩
    · have := hlip f0 (by simp) x z Og a b
      unfold jb at this
      rcases WX h0 with w|w <;> grind
    · have ht := V0 hQ hd (show (Q + 2) * δ ≤ δ1 by grind) hx (vw f0 :: T).length f0 (vw f0 :: T) (yJ _) hq (hp x hx) hlx h0 0
      have hv:∀w,Zv (ev w f0)=Zv (ev x f0)→vr (f0 :: vw f0 :: T) w=va w (vw f0 :: T) 0 (Zv (ev x f0)):=fun w hw=>by
        unfold vr
        conv=>lhs;unfold va
        rw [hw,if_neg e2,Int.zero_mul,if_neg Od]
      rw [hv x rfl,hv y e1]
      exact ht
theorem zs0 {S:List (List Rat)} {f:List Rat} {x y:Rat} (hxy:x<y) (h:Stp S f x y):bt S x y=0∨bt S x y=1:=by
  unfold bt
  rcases h with ⟨h1,h2,h3⟩|⟨h1,h2⟩|⟨h1,h2⟩
  · left;omega
  · have hm := h1 x y yF hxy yF
    rw [h2];unfold b2
    by_cases k:ev y f<0
    · rw [if_pos k,if_pos Og];left;rfl
    · rw [if_neg k]; split
      · right;rfl
      · left;rfl
  · have hm := h1 x y yF hxy yF
    rw [h2];unfold b2
    by_cases k:0<ev y f
    · rw [if_pos k,if_pos Og];left;rfl
    · rw [if_neg k]; split
      · right;rfl
      · left;rfl
theorem znU {R Q:Rat} {K:Nat} (hQ:∀q:List Rat,q.length≤4→cb (K+6*(K+1)) q→∀t,jb t R→jb (ev t q) Q):∀(n:Nat) (a b:List Rat),(∀l,l∈a :: st n a b→cl l=l∧l.length≤4∧cb K l)→chn (a :: st n a b)→chq R Q (a :: st n a b)
  |0,a,b,_,h=>h
  |n+1,a,b,hm,h=>by
    by_cases hb:b.length=0
    · rw [zc3 hb] at h ⊢;exact h
    · have e : st (n + 1) a b = b :: st n b (mul (dr a b) [(((-1 : Int)) : Rat)]) := if_neg hb
      rw [e] at hm h ⊢
      have ih:=znU hQ n b (mul (dr a b) [(((-1:Int)):Rat)]) (fun l hl=>hm l (yQ _ hl))
      cases hst:st n b (mul (dr a b) [(((-1:Int)):Rat)]) with
      |nil=>rw [hst] at h;exact h
      |cons d T=>
        have hd:d=mul (dr a b) [(((-1:Int)):Rat)]:=by
          cases n with
          |zero=>cases hst
          |succ n=>
            unfold st at hst
            split at hst
            · cases hst
            · exact (List.cons.inj hst).1.symm
        rw [hst] at h ih
        obtain ⟨a1,a2,a3⟩:=hm a (by simp)
        obtain ⟨b1,b2,b3⟩:=hm b (by simp)
        refine ⟨⟨dq a b,hQ _ (yah (zaG a b).1 a2) (ze1 a1 b1 hb a3 b3 Oo).1,fun t=> ?_⟩,ih h.2⟩
        rw [hd,qK,K2 a1 b1 hb t]
        have:ev t [((-1:Int):Rat)]= -1:=by show 0*t+((-1:Int):Rat)= -1;rw [show ((-1:Int):Rat)= -1 by decide +kernel];grind
        rw [this];grind
def eE (K r:Nat):Nat:=30*(K+6*(K+1))+3*r+3
def eH (K r:Nat):Nat:=30*K+5*eE K r+eE K r+(30*K+2*r+4)
theorem tp3 (a r:Nat):tp a*(tp r*(tp r*tp r))*8=tp (a+3*r+3):=by
  rw [VP,VP,show 3*r=r+(r+r) by omega,VP,VP]
  have:tp 3=8:=Oz
  rw [this]
theorem tp2 (a r:Nat):tp a*(tp r*tp r)*16=tp (a+2*r+4):=by
  rw [VP,VP,show 2*r=r+r by omega,VP]
  have:tp 4=16:=Oz
  rw [this]
theorem zgH {p:List Rat} {K r:Nat} (hp:(cl p).length≠0) (hn:(vH p).length≤5) (hS:∀l,l∈vH p→cl l=l∧l.length≤4∧cb K l) {x y:Rat} (hx:jb x (tp r)) (hy:jb y (tp r)) (hxy:x<y) (hle:y - x≤tq (eH K r)):bt (vH p) x y=0∨bt (vH p) x y=1:=by
  rcases zbh hp with ⟨d,hd,hdd,hs⟩|⟨T,hs,hch⟩
  · left
    have hv:∀z,vr (vH p) z=0:=fun z=>by
      rw [hs]
      unfold vr
      rw [Km]
      split
      · rfl
      · show (if (0 : Int) * _ < 0 then _ else (0 : Int)) = 0
        rw [Int.zero_mul,if_neg Od]
    unfold bt
    rw [hv,hv];rfl
  · have h0 : (ZL p).length ≠ 0 := fun e => hp ((zb3 p).1 e)
    have hs':vH p=ZL p :: st (ZL p).length (ZL p) (vw (ZL p)):=if_neg h0
    have hR:=zbi r
    have hR0:0≤tp r:=Og
    have hC:=zbi (30*K)
    have hC':=zbi (30*(K+6*(K+1)))
    have q4:=(B4 hR hC').1
    have l4:=(B4 hR hC).2
    have hch':=hch
    rw [← hs,hs'] at hch'
    have hq:=znU (R:=tp r) (Q:=mB (tp r) (tp (30*(K+6*(K+1)))) 4) (K:=K) (fun q hq hc t ht=>evB hR0 Og ht 4 q hq (znR hc)) _ _ _ (by rw [← hs'];exact hS) hch'
    rw [← hs'] at hq
    have hQ0:=zj7 hR0 (show 0≤tp (30*(K+6*(K+1))) by grind) 4
    have hQe:mB (tp r) (tp (30*(K+6*(K+1)))) 4+2≤tp (eE K r):=by
      have:=tp3 (30*(K+6*(K+1))) r
      unfold eE
      rw [← this];grind
    have hLe:lB (tp r) (tp (30*K)) 4+kB (tp r) (tp (30*K)) 4+1≤tp (30*K+2*r+4):=by
      rw [← tp2];grind
    generalize mB (tp r) (tp (30*(K+6*(K+1)))) 4=Q at*
    have hpr:=zgG (ε:=tq (30*K)) hQ0 (vH p) hq (fun a ha c hc h=>by
      have h1:=znS h
      rw [h1]
      exact zsY (hS a ha).2.2 (by rw [← h1];exact hc)) (tq (30*K+5*eE K r)) (K3 _) (by
        have h1:=zrJ (y:=Q+2) Og hQe (vH p).length 5 hn
        have h2:=zfd (30*K) (5*eE K r)
        have:=yw (show 0≤tq (30*K+5*eE K r) by have:=K3 (30*K+5*eE K r);grind) (show 0≤tp (5*eE K r) - pq (Q+2) (vH p).length by grind)
        grind)
    rw [hs] at hq hpr hS ⊢
    refine zs0 hxy (zup (R:=tp r) (Q:=Q) (δ1:=tq (30*K+5*eE K r)) (δ:=tq (30*K+5*eE K r+eE K r)) (L:=lB (tp r) (tp (30*K)) 4) (K:=kB (tp r) (tp (30*K)) 4) (h:=tq (eH K r)) hQ0 hq hpr (zj8 hR0 Og 4)
      (fun g hg s t h1 h2 h3=>zsZ hR0 Og h1 h2 h3 4 g (hS g hg).2.1 (znR (hS g hg).2.2)) (znT hR0 Og 4)
      (fun s t h1 h2 h3=>zuo hR0 Og h1 h2 h3 4 _ (hS (ZL p) (by simp)).2.1 (znR (hS (ZL p) (by simp)).2.2)) (K3 _) ?_ (K3 _) ?_ x y hx hy hxy hle)
    · have h1 := zfd (30 * K + 5 * eE K r) (eE K r)
      have:=yw (show 0≤tq (30*K+5*eE K r+eE K r) by have:=K3 (30*K+5*eE K r+eE K r);grind) (show 0≤tp (eE K r) - (Q+2) by grind)
      grind
    · have h1 := zfd (30 * K + 5 * eE K r + eE K r) (30 * K + 2 * r + 4)
      have:=yw (show 0≤tq (eH K r) by have:=K3 (eH K r);grind) (show 0≤tp (30*K+2*r+4) - (lB (tp r) (tp (30*K)) 4+kB (tp r) (tp (30*K)) 4+1) by grind)
      unfold eH at*
      grind
theorem zrK:∀(n:Nat) (a b:List Rat),cl b=b→∀l,l∈st n a b→cl l=l
  |0,_,_,_,l,h=>by cases h
  |n+1,a,b,hb,l,h=>by
    unfold st at h
    split at h
    · cases h
    · rcases yY.1 h with rfl | h
      · exact hb
      · exact zrK n b _ (Q5 _ _) l h
theorem zuq {p:List Rat} (hl:p.length≤4) (h:cb 100 p):sok p∧∀q,q∈vH p→cl q=q∧q.length≤4∧cb 150000000 q:=by
  have hP:cb 100 (cl p):=zno h
  have hPl:=vI p
  have hD:cb 103 (vw (cl p)):=znq hP Oo
  have hDl:=Wp (cl p)
  have hDc:=Qt (cl p)
  have hsq:zsM p∧cb 112425 (ZL p):=by
    by_cases h0:(cl p).length=0
    · have e : ZL p = [] := if_pos h0
      refine ⟨⟨jM (Q6 h) Od,jM (Q6 hD) Od,fun k=>absurd h0 k⟩,?_⟩
      rw [e];exact ZT (zgx (l:=[]) (k:=1) (fun i=>by rw [W4 (yN _),vN];decide)) Od
    · have hn : (vw (cl p)).length ≤ 3 := by omega
      have hpw:=znw (N:=5) hn 103
      have h6:(103+1)*(5+1)^3=22464:=Od
      have hg:=zns (N:=5) Od (vw (cl p)).length 103 (mo (cl p)) (mo (vw (cl p))) (Vd _) (Vd _) (zjZ (vW p) (ZT hP Od)) (zjZ hDc hD) (by have:=Vu (cl p);omega) (by have:=Vu (vw (cl p));omega) Oo
      have hG:cb 22464 (gcd (cl p) (vw (cl p))):=by
        unfold gcd
        rw [vW,hDc]
        exact ZT hg.2 Oo
      have hGn:(gcd (cl p) (vw (cl p))).length≠0:=gcd_ne (by rw [vW];exact h0)
      have hdiv:=(ze1 (N:=5) (vW p) (zc4 _ _) hGn hP hG Oo).1
      refine ⟨⟨jM (Q6 h) Od,jM (Q6 hD) Od,fun _=>⟨⟨jM (Q6 hP) Od,jM (Q6 hD) Od,?_⟩,zif (N:=5) (vW p) (zc4 _ _) hGn hP hG Oo Od Od,jM (Q6 hdiv) Od⟩⟩,?_⟩
      · rw [vW,hDc];exact hg.1
      · unfold ZL
        rw [if_neg h0]
        exact zjZ (zgv _ _) (ZT hdiv Od)
  obtain ⟨hs1,hs2⟩:=hsq
  have hsl:=ze3 p
  have hsd:cb 112428 (vw (ZL p)):=znq hs2 Oo
  have hsdl:=Wp (ZL p)
  have h5:(ZL p).length≤4:=Oo
  have hpw:=znw (N:=5) h5 112428
  have h6:(112428+1)*(5+1)^4=145707984:=Od
  have hst:=zj1 (N:=5) Od (ZL p).length 112428 (ZL p) (vw (ZL p)) (ze2 p) (Qt _) (ZT hs2 Od) hsd Oo Oo Oo
  refine ⟨⟨hs1,jM (Q6 hs2) Od,jM (Q6 hsd) Od,hst.1⟩,fun q hq=> ?_⟩
  unfold vH at hq
  split at hq
  · cases hq
  · rcases yY.1 hq with rfl | hq
    · exact ⟨ze2 _,Oo,ZT hs2 Od⟩
    · obtain ⟨k1, k2⟩ := hst.2 q hq
      exact ⟨zrK _ _ _ (Qt _) q hq,Oo,ZT k2 Oo⟩
theorem zff {l:List (List Rat)}:∀(n:Nat) (a b:Rat),isk l n a b→((K0 l n a b).length:Int)=bt l a b
  |0,_,_,h=>h.elim
  |n+1,a,b,h=>by
    by_cases h0:bt l a b=0
    · rw [zc5 h0,h0];rfl
    · by_cases h1 : bt l a b = 1
      · rw [zb1 h1,h1];rfl
      · have k1 := zff n a (mid a b) (h.2 h0 h1).1
        have k2:=zff n (mid a b) b (h.2 h0 h1).2
        rw [zaH h0 h1,yO]
        unfold bt at*
        omega
def P2 (k:Nat):Int:=((2^k:Nat):Int)
theorem znV (k:Nat):0<P2 k:=by have:0<2^k:=Nat.pow_pos Od;unfold P2;omega
theorem zj9 (k:Nat):P2 (k+1)=2*P2 k:=by unfold P2;rw [Nat.pow_succ];omega
theorem zka:∀k,tp k=((P2 k:Int):Rat)
  |0=>by decide +kernel
  |k+1=>by
    show 2*tp k=_
    rw [zj9,yC,←zka k]
    have:((2:Int):Rat)=2:=Oz
    rw [this]
theorem zrL:∀m,P2 (29*m)≤yu m
  |0=>by decide
  |m+1=>by
    have h:=zrL m
    have h1:=znV (29*m)
    have e:P2 (29*(m+1))=P2 (29*m)*536870912:=by
      unfold P2
      rw [show 29*(m+1)=29*m+29 by omega,Nat.pow_add]
      have:2^29=536870912:=Od
      rw [this];omega
    rw [e,Big.jy]
    omega
theorem zrM {z:Int} {k:Nat} (h1: - P2 k≤z) (h2:z≤P2 k):ln z≤k / 29+1:=by
  have h3:=zrL (k / 29+1)
  have h4:P2 k<P2 (29*(k / 29+1)):=by
    unfold P2
    have:=Nat.pow_lt_pow_right (show 1<2 by decide) (show k<29*(k / 29+1) by omega)
    exact_mod_cast this
  exact Kv Oo Oo
theorem zqf {i:Int} {k:Nat} (h1: - P2 k≤i) (h2:i≤P2 k):hq ((i:Rat)*tq k)≤k / 29+1:=by
  have hp:=znV k
  have e:(i:Rat)*tq k=yD i (P2 k):=by
    rw [yS,tq,zka,yap,yap];grind
  rw [e]
  have:=Zr (n:=i) (d:=P2 k) Oo
  have:=zrM h1 h2
  have:=zrM (z:=P2 k) (k:=k) Oo Oo
  omega
theorem zkb {b:Rat} (hb:0<b) {i:Int} {k:Nat} (h1: - P2 k≤i) (h2:i≤P2 k):jb (b*((i:Rat)*tq k)) b:=by
  have a1:((i:Int):Rat)≤tp k:=by rw [zka];exact_mod_cast h2
  have a2: -tp k≤((i:Int):Rat):=by
    have:((-(P2 k):Int):Rat)≤(i:Rat):=by exact_mod_cast h1
    rw [yab] at this;rw [zka];exact this
  have h0:=K3 k
  have h3:=zdb k
  have c1:=yw (show 0≤tp k - i by grind) (show 0≤tq k by grind)
  have c2:=yw (show 0≤tp k+i by grind) (show 0≤tq k by grind)
  have d1:=yw (show 0≤b by grind) (show 0≤1 - i*tq k by grind)
  have d2:=yw (show 0≤b by grind) (show 0≤1+i*tq k by grind)
  unfold jb
  constructor <;> grind
theorem zb6 (k:Nat):tq k=2*tq (k+1):=by
  have h:=zfd k 1
  have e:tp 1=2:=Oz
  rw [e] at h
  rw [← h];grind
theorem znW (i:Int):((2*i:Int):Rat)=2*(i:Rat):=by
  rw [yC];have:((2:Int):Rat)=2:=Oz
  rw [this]
theorem WY (i:Int):((i+2:Int):Rat)=(i:Rat)+2:=by
  rw [yV];have:((2:Int):Rat)=2:=Oz
  rw [this]
theorem znX {S:List (List Rat)} {b h:Rat} {M K D:Nat} (hb0:0<b) (hb:hq b≤M) (hS:∀q,q∈S→q.length≤10∧bd K q) (hK:K≤60000000000) (hD:M+(D / 29+1)≤100000000000) (hD2:1+10*(K+(M+(D / 29+1))+1)≤200000000000)
    (hstep:∀x y,jb x b→jb y b→x<y→y - x≤h→bt S x y=0∨bt S x y=1):
    ∀(n k:Nat) (i:Int),2*b*tq k≤h*tp n→ - P2 k≤i→i+2≤P2 k→n+k≤D→isk S (n+1) (b*((i:Rat)*tq k)) (b*(((i+2:Int):Rat)*tq k)):=by
  have size:∀(k:Nat) (i:Int),- P2 k≤i→i≤P2 k→k≤D→hq (b*((i:Rat)*tq k))≤M+(D / 29+1):=fun k i h1 h2 hk=>by
    have a1:=jB b ((i:Rat)*tq k)
    have a2:=zqf h1 h2
    have:k / 29≤D / 29:=Nat.div_le_div_right hk
    omega
  intro n
  induction n with
  |zero=>
    intro k i hh h1 h2 hk
    have s1:=size k i h1 Oo Oo
    have s2:=size k (i+2) Oo h2 Oo
    refine ⟨⟨Oo,Oo,ze0 s1 hS hK hD2,ze0 s2 hS hK hD2⟩,fun h0 h1'=> ?_⟩
    have hq0:=yau hb0 (K3 k)
    have e:tp 0=1:=rfl
    rw [e] at hh
    rcases hstep _ _ (zkb hb0 h1 Oo) (zkb hb0 Oo h2) (by rw [WY];grind) (by rw [WY];grind) with z|z
    · exact absurd z h0
    · exact absurd z h1'
  |succ n ih=>
    intro k i hh h1 h2 hk
    have s1:=size k i h1 Oo Oo
    have s2:=size k (i+2) Oo h2 Oo
    have hP:=zj9 k
    have hh':2*b*tq (k+1)≤h*tp n:=by
      have e:tp (n+1)=2*tp n:=rfl
      rw [e,zb6 k] at hh
      grind
    have e1:b*((i:Rat)*tq k)=b*(((2*i:Int):Rat)*tq (k+1)):=by rw [znW,zb6 k];grind
    have e2:mid (b*((i:Rat)*tq k)) (b*(((i+2:Int):Rat)*tq k))=b*(((2*i+2:Int):Rat)*tq (k+1)):=by
      have e:yD 1 2=1 / 2:=Oz
      unfold mid
      rw [WY,WY,znW,e,zb6 k];grind
    have e3:b*(((i+2:Int):Rat)*tq k)=b*(((2*i+2+2:Int):Rat)*tq (k+1)):=by
      rw [WY,WY,WY,znW,zb6 k];grind
    refine ⟨⟨Oo,Oo,ze0 s1 hS hK hD2,ze0 s2 hS hK hD2⟩,fun _ _=> ?_⟩
    rw [e2,e1,e3]
    exact ⟨ih (k+1) (2*i) hh' Oo Oo Oo,ih (k+1) (2*i+2) hh' Oo Oo Oo⟩
theorem zrN (P:List Rat):∀i,0≤bm P i
  |0=>by show 0≤((0:Int):Rat);decide +kernel
  |i+1=>by
    have h:=zrN P i
    unfold bm
    split
    · exact Vv (Ws _)
    · exact h
theorem zur:((1:Int):Rat)=1:=Oz
theorem zd6 (P:List Rat):1≤bound P:=by
  have:=zrN P (P.length - 1)
  unfold bound
  rw [zur];grind
theorem zlh {p:List Rat} (hl:p.length≤4) (h:cb 100 p) (hp:(cl p).length≠0):∃n,isk (vH p) n (-bound (cl p)) (bound (cl p)):=by
  have hS:=(zuq hl h).2
  have hb1:=zd6 (cl p)
  have hbq:=zgz (Q6 (zno h)) (QH (vW p) (fun e=>hp (by rw [e];rfl)))
  have hbr:=zun hbq
  have hlen:=zbd p
  generalize hB:bound (cl p)=b at*
  have k:=znX (S:=vH p) (b:=b) (h:=tq (eH 150000000 6060)) (M:=202) (K:=150000000) (D:=eH 150000000 6060+6061) Og hbq (fun q hq=>⟨by have:=(hS q hq).2.1;omega,Q6 (hS q hq).2.2⟩) Od Od Od
    (fun x y hx hy hxy hle=>zgH (r:=6060) hp Oo hS (ZV hx (by unfold jb at hbr;exact hbr.2)) (ZV hy (by unfold jb at hbr;exact hbr.2)) hxy hle)
    (eH 150000000 6060+6061) 0 (-1) (by
      have e1:tq 0=1:=Oz
      have e2:=zdb (eH 150000000 6060)
      have e3:tp 6061=2*tp 6060:=rfl
      have h2:=hbr.2
      rw [e1,VP]
      have e4:tq (eH 150000000 6060)*(tp (eH 150000000 6060)*tp 6061)=(tq (eH 150000000 6060)*tp (eH 150000000 6060))*tp 6061:=Og
      rw [e4,e2,e3]
      grind) Od Od (yJ _)
  have e1:tq 0=1:=Oz
  have c1:((-1:Int):Rat)= -1:=Oz
  have c2:((-1+2:Int):Rat)=1:=Oz
  rw [e1,c1,c2,show b*(-1*1)= -b by grind,show b*(1*1)=b by grind] at k
  exact ⟨_,k⟩
theorem zrO (P:List Rat):∀n i,i<n→jd (P.getD i 0 / lead P)≤bm P n
  |0,i,h=>by omega
  |n+1,i,h=>by
    unfold bm
    by_cases e:i=n
    · subst e;split <;> grind
    · have := zrO P n i Oo
      split <;> grind
theorem zli {p:List Rat} {n:Nat} {b:Rat} (hk:isk (vH p) n (-b) b):(K0 (vH p) n (-b) b).length≤p.length+1:=by
  have h:=zff n (-b) b hk
  have a1:=ze5 (vH p) (-b)
  have a2:=ze5 (vH p) b
  have a3:=zbd p
  unfold bt at h
  omega
theorem znY {p:List Rat} (hp:(cl p).length≠0) {a b r:Rat} (hab:a<b) (h:bt (vH p) a b=0) (h1:a<r) (h2:r≤b):ev r p≠0:=fun h0=>by
  have hr:=(znB hp r).2 h0
  by_cases hfa:ev a (ZL p)=0
  · rcases zbh hp with ⟨c, hc, hcc, -⟩ | ⟨T, hT, hch⟩
    · exact hc ((hcc r).symm.trans hr)
    · rw [hT] at h
      have hR:0≤jd a+jd b:=Vv (zlg (a:=a) (b:=b) (z:=a) yF Og)
      obtain ⟨d,hd,hs⟩:=step hch hR
      obtain ⟨y,y1,y2,y3⟩:∃y,a<y∧y<r∧y - a≤d:=by
        by_cases k:d≤(r - a) / 2
        · have e : (r - a) / 2 * 2 = r - a := yE Oz
          exact ⟨a+d,Og,Og,Og⟩
        · have e : (r - a) / 2 * 2 = r - a := yE Oz
          exact ⟨a+(r - a) / 2,Og,Og,Og⟩
      have hfy:ev y (ZL p)≠0:=by
        rcases hs a y (zlg yF Og) (zlg Og Og) y1 y3 with ⟨-,k,-⟩|⟨k,-⟩|⟨k,-⟩
        · exact absurd hfa (k a yF Og)
        · have:=k a y yF y1 yF;grind
        · have:=k a y yF y1 yF;grind
      have k1:=(zfc hch (x:=a) (y:=y) y1).1
      have k2:=(zfc hch (x:=y) (y:=b) Og).1
      have h':bt (vH p) y b=0:=by rw [hT];unfold bt at *;omega
      have k3:=zd5 hp (a:=y) (b:=b) Og h' (z:=r) Og h2
      by_cases k:0<ev y (ZL p)
      · have:=k3.1 k;grind
      · have:=k3.2 Og;grind
  · have k3 := zd5 hp hab h (z := r) Og h2
    by_cases k:0<ev a (ZL p)
    · have:=k3.1 k;grind
    · have:=k3.2 Og;grind
theorem zqg {a b:Rat} (h:a<b):a<mid a b∧mid a b<b:=by
  have e:yD 1 2=1 / 2:=Oz
  unfold mid
  rw [e]
  constructor <;> grind
theorem zim {p:List Rat} (hp:(cl p).length≠0) {r:Rat} (h0:ev r p=0):∀(n:Nat) (a b:Rat),isk (vH p) n a b→a<r→r≤b→∃q,q∈K0 (vH p) n a b∧q.1≤r∧r≤q.2
  |0,_,_,h,_,_=>h.elim
  |n+1,a,b,h,h1,h2=>by
    have hab:a<b:=Og
    by_cases k0:bt (vH p) a b=0
    · exact absurd h0 (znY hp hab k0 h1 h2)
    · by_cases k1 : bt (vH p) a b = 1
      · rw [zb1 k1]
        exact ⟨(a,b),by simp,by show a≤r;grind,h2⟩
      · rw [zaH k0 k1]
        have hm:=zqg hab
        by_cases k:r≤mid a b
        · obtain ⟨q, q1, q2⟩ := zim hp h0 n a (mid a b) (h.2 k0 k1).1 h1 k
          exact ⟨q,List.mem_append_left _ q1,q2⟩
        · obtain ⟨q, q1, q2⟩ := zim hp h0 n (mid a b) b (h.2 k0 k1).2 Og h2
          exact ⟨q,List.mem_append_right _ q1,q2⟩
theorem zgI (x y:Rat):jd (x*y)=jd x*jd y:=by
  by_cases h1:x<0
  · by_cases h2 : y < 0
    · have := yau (show 0 < -x by grind) (show 0 < -y by grind)
      unfold jd;rw [if_pos h1,if_pos h2,if_neg Og];grind
    · have := yw (show 0 ≤ -x by grind) (show 0 ≤ y by grind)
      unfold jd;rw [if_pos h1,if_neg h2];split <;> grind
  · by_cases h2 : y < 0
    · have := yw (show 0 ≤ x by grind) (show 0 ≤ -y by grind)
      unfold jd;rw [if_neg h1,if_pos h2];split <;> grind
    · have := yw (show 0 ≤ x by grind) (show 0 ≤ y by grind)
      unfold jd;rw [if_neg h1,if_neg h2,if_neg Og]
theorem znZ (x y:Rat):jd x≤jd (x+y)+jd y:=by
  unfold jd;split <;> split <;> split <;> grind
theorem zfg (x:Rat):0≤jd x:=Vv (Ws x)
theorem zn0 {L b x:Rat} (hb:1≤b) (hx:b≤jd x):∀l:List Rat,l≠[]→l.getD (l.length - 1) 0=L→(∀i,i<l.length - 1→jd (l.getD i 0)≤jd L*(b - 1))→jd L≤jd (ev x l)
  |[],h,_,_=>absurd rfl h
  |[a],_,h,_=>by
    have h':a=L:=h
    show _≤jd (0*x+a)
    rw [h',show 0*x+L=L by grind];exact yF
  |a :: c :: l,_,h,hc=>by
    have ih:=zn0 hb hx (c :: l) (by simp) h (fun i hi=>hc (i+1) (by simp at hi ⊢;omega))
    have h0:jd a≤jd L*(b - 1):=hc 0 (by simp)
    have h1:=znZ (ev x (c :: l)*x) a
    rw [zgI] at h1
    have h2:=yw (zfg L) (show 0≤jd x - b by grind)
    have h3:=yw (show 0≤jd (ev x (c :: l)) - jd L by grind) (zfg x)
    show _≤jd (ev x (c :: l)*x+a)
    grind
theorem zqh {p:List Rat} (hp:(cl p).length≠0) {r:Rat} (h0:ev r p=0): -bound (cl p)<r∧r<bound (cl p):=by
  have hl:=QH (vW p) (fun e=>hp (by rw [e];rfl))
  have hb:=zd6 (cl p)
  have key:¬bound (cl p)≤jd r:=fun k=>by
    have:=zn0 (L:=lead (cl p)) hb k (cl p) (fun e=>hp (by rw [e];rfl)) rfl (fun i hi=>by
      have h1:=zrO (cl p) ((cl p).length - 1) i hi
      have h2:jd ((cl p).getD i 0 / lead (cl p))≤bound (cl p) - 1:=by unfold bound;rw [zur];grind
      have h3:(cl p).getD i 0 / lead (cl p)*lead (cl p)=(cl p).getD i 0:=yE hl
      rw [← h3,zgI]
      have:=yw (zfg (lead (cl p))) (show 0≤bound (cl p) - 1 - jd ((cl p).getD i 0 / lead (cl p)) by grind)
      grind)
    rw [KZ,h0] at this
    have h4:jd (0:Rat)=0:=Oz
    rw [h4] at this
    unfold jd at this
    split at this <;> grind
  unfold jd at key
  split at key <;> constructor <;> grind
theorem zn1 {p:List Rat} (hp:(cl p).length≠0) {r:Rat} (h0:ev r p=0) {n:Nat} (hk:isk (vH p) n (-bound (cl p)) (bound (cl p))):∃q,q∈K0 (vH p) n (-bound (cl p)) (bound (cl p))∧q.1≤r∧r≤q.2:=by
  have h:=zqh hp h0
  exact zim hp h0 n _ _ hk h.1 Og
end Po
namespace Ro
open Mx Big Po
def T3 (a b c:Nat→Rat):Rat:=a 0*(b 4*c 8 - b 5*c 7) - a 1*(b 3*c 8 - b 5*c 6)+a 2*(b 3*c 7 - b 4*c 6)
def W5 (a b c:Nat→Int):Int:=a 0*(b 4*c 8 - b 5*c 7) - a 1*(b 3*c 8 - b 5*c 6)+a 2*(b 3*c 7 - b 4*c 6)
theorem zs1 {a b c:Nat→Int} {k:Nat} (ha:∀i,ln (a i)≤k) (hb:∀i,ln (b i)≤k) (hc:∀i,ln (c i)≤k):ln (W5 a b c)≤3*k+3:=by
  have m:∀i j,ln (b i*c j)≤2*k:=fun i j=>by have:=qI (b i) (c j);have:=hb i;have:=hc j;omega
  have s:∀i j p q,ln (b i*c j - b p*c q)≤2*k+1:=fun i j p q=>by have:=WM (b i*c j) (b p*c q);have:=m i j;have:=m p q;omega
  have t:∀u i j p q,ln (a u*(b i*c j - b p*c q))≤3*k+1:=fun u i j p q=>by have:=qI (a u) (b i*c j - b p*c q);have:=ha u;have:=s i j p q;omega
  have h1:=WM (a 0*(b 4*c 8 - b 5*c 7)) (a 1*(b 3*c 8 - b 5*c 6))
  have h2:=QJ (a 0*(b 4*c 8 - b 5*c 7) - a 1*(b 3*c 8 - b 5*c 6)) (a 2*(b 3*c 7 - b 4*c 6))
  have:=t 0 4 8 5 7;have:=t 1 3 8 5 6;have:=t 2 3 7 4 6
  unfold W5;omega
def ch (a b:Nat→Rat):List Rat:=[T3 b b b,T3 a b b+T3 b a b+T3 b b a,T3 a a b+T3 a b a+T3 b a a,T3 a a a]
theorem zrP (a b:Nat→Rat) (s:Rat):ev s (ch a b)=T3 (fun i=>s*a i+b i) (fun i=>s*a i+b i) (fun i=>s*a i+b i):=by
  simp only [ch,ev,T3];grind
def at2 (a b:Nat→Rat) (k:Nat):List Rat:=cl [b k,a k]
def Qg (a b:Nat→Rat) (p q r s:Nat):List Rat:=sub (mul (at2 a b p) (at2 a b q)) (mul (at2 a b r) (at2 a b s))
def chP (a b:Nat→Rat):List Rat:=add (sub (mul (at2 a b 0) (Qg a b 4 8 5 7)) (mul (at2 a b 1) (Qg a b 3 8 5 6))) (mul (at2 a b 2) (Qg a b 3 7 4 6))
theorem WZ (a b:Nat→Rat) (k:Nat) (s:Rat):ev s (at2 a b k)=s*a k+b k:=by
  unfold at2;rw [KZ];simp only [ev];grind
theorem zfh (a b:Nat→Rat) (p q r u:Nat) (s:Rat):ev s (Qg a b p q r u)=(s*a p+b p)*(s*a q+b q) - (s*a r+b r)*(s*a u+b u):=by
  unfold Qg;rw [Z1,qK,qK,WZ,WZ,WZ,WZ]
theorem zfi (a b:Nat→Rat):chP a b=cl (ch a b):=zaI (Kh _ _) (vW _) fun s=>by
  rw [KZ,zrP]
  unfold chP
  rw [Zq,Z1,qK,qK,qK,zfh,zfh,zfh,WZ,WZ,WZ];rfl
theorem zfj (a b:Nat→Rat):(chP a b).length≤4:=by rw [zfi];exact vI _
theorem zn2 (a b:Nat→Rat):cl (chP a b)=chP a b:=Kh _ _
theorem zqi {a b:Nat→Rat} (h:T3 a a a=0):(chP a b).length≤3:=by
  rw [zfi]
  refine zrz fun i hi=> ?_
  by_cases k:i=3
  · rw [k];exact h
  · exact W4 (l:=ch a b) (by show 4≤i;omega)
def ov (k:Nat) (a:Nat→Rat) (X:Nat→Int) (d:Int):Prop:=d≠0∧ln d≤k∧(∀i,ln (X i)≤k)∧∀i,i<9→a i*(d:Rat)=(X i:Rat)
theorem zbC {a b c:Nat→Rat} {X Y Z:Nat→Int} {d e f:Int} (ha:∀i,i<9→a i*(d:Rat)=(X i:Rat)) (hb:∀i,i<9→b i*(e:Rat)=(Y i:Rat)) (hc:∀i,i<9→c i*(f:Rat)=(Z i:Rat)):
    T3 a b c*((d:Rat)*((e:Rat)*(f:Rat)))=((W5 X Y Z:Int):Rat):=by
  unfold W5 T3
  simp only [yV,yan,yC]
  rw [← ha 0 Oo,←ha 1 Oo,←ha 2 Oo,←hb 3 Oo,←hb 4 Oo,←hb 5 Oo,←hc 6 Oo,←hc 7 Oo,←hc 8 Oo]
  grind
theorem zus {a b:Nat→Rat} {X Y:Nat→Int} {d e:Int} (ha:ov 7 a X d) (hb:ov 7 b Y e):cb 100 (chP a b):=by
  rw [zfi]
  refine zno (ZT (K:=60) ?_ Od)
  obtain ⟨d0,d1,d2,d3⟩:=ha
  obtain ⟨e0,e1,e2,e3⟩:=hb
  have md:ln (d*(d*d))≤21:=by have:=qI d (d*d);have:=qI d d;omega
  have me:ln (e*(e*e))≤21:=by have:=qI e (e*e);have:=qI e e;omega
  have mde:ln (d*(d*e))≤21:=by have:=qI d (d*e);have:=qI d e;omega
  have mee:ln (d*(e*e))≤21:=by have:=qI d (e*e);have:=qI e e;omega
  have t:=fun (A B C:Nat→Int) (h1:∀i,ln (A i)≤7) (h2:∀i,ln (B i)≤7) (h3:∀i,ln (C i)≤7)=>zs1 h1 h2 h3
  refine ⟨d*(d*d)*(e*(e*e)),yai (yai d0 (yai d0 d0)) (yai e0 (yai e0 e0)),by have:=qI (d*(d*d)) (e*(e*e));omega,fun i=> ?_⟩
  have hi:i=0∨i=1∨i=2∨i=3∨4≤i:=Oo
  have cd:((d*(d*d)*(e*(e*e)):Int):Rat)=(d:Rat)*((d:Rat)*(d:Rat))*((e:Rat)*((e:Rat)*(e:Rat))):=by simp only [yC]
  rcases hi with rfl|rfl|rfl|rfl|hi
  · refine ⟨W5 Y Y Y * (d * (d * d)), by have := qI (W5 Y Y Y) (d * (d * d)); have := t Y Y Y e2 e2 e2; omega, ?_⟩
    show T3 b b b*_=_
    rw [cd,yC,←zbC e3 e3 e3];simp only [yC];grind
  · refine ⟨(W5 X Y Y + W5 Y X Y + W5 Y Y X) * (d * (d * e)), ?_, ?_⟩
    · have := qI (W5 X Y Y + W5 Y X Y + W5 Y Y X) (d * (d * e)); have := QJ (W5 X Y Y + W5 Y X Y) (W5 Y Y X); have := QJ (W5 X Y Y) (W5 Y X Y)
      have:=t X Y Y d2 e2 e2;have:=t Y X Y e2 d2 e2;have:=t Y Y X e2 e2 d2;omega
    · show (T3 a b b + T3 b a b + T3 b b a) * _ = _
      rw [cd,yC,yV,yV,←zbC d3 e3 e3,←zbC e3 d3 e3,←zbC e3 e3 d3];simp only [yC];grind
  · refine ⟨(W5 X X Y + W5 X Y X + W5 Y X X) * (d * (e * e)), ?_, ?_⟩
    · have := qI (W5 X X Y + W5 X Y X + W5 Y X X) (d * (e * e)); have := QJ (W5 X X Y + W5 X Y X) (W5 Y X X); have := QJ (W5 X X Y) (W5 X Y X)
      have:=t X X Y d2 d2 e2;have:=t X Y X d2 e2 d2;have:=t Y X X e2 d2 d2;omega
    · show (T3 a a b + T3 a b a + T3 b a a) * _ = _
      rw [cd,yC,yV,yV,←zbC d3 d3 e3,←zbC d3 e3 d3,←zbC e3 d3 d3];simp only [yC];grind
  · refine ⟨W5 X X X * (e * (e * e)), by have := qI (W5 X X X) (e * (e * e)); have := t X X X d2 d2 d2; omega, ?_⟩
    show T3 a a a*_=_
    rw [cd,yC,←zbC d3 d3 d3];simp only [yC];grind
  · refine ⟨0, by rw [VC]; omega, ?_⟩
    rw [W4 (l:=ch a b) (by show 4≤i;omega)];simp
theorem zqj {m0:Mt} {v0 v1:List Rat} {j0 j1:Nat} (h:Two 9 7 m0 v0 v1 j0 j1) {Z:Nat→Nat→Int} (hZ:∀r c,-1000000≤Z r c∧Z r c≤1000000) (he:∀r c,r<7→c<9→e m0 r c=((Z r c:Int):Rat)):
    (∃X d,ov 7 (fun i=>v0.getD i 0) X d)∧∃X d,ov 7 (fun i=>v1.getD i 0) X d:=by
  have hsm:∀(x:Nat→Int) r,r<7→Mx.sm 9 (fun c=>e m0 r c*((x c:Int):Rat))=((sI 9 (fun c=>Z r c*x c):Int):Rat):=fun x r hr=>by
    have:∀n,n≤9→Mx.sm n (fun c=>e m0 r c*((x c:Int):Rat))=((sI n (fun c=>Z r c*x c):Int):Rat):=by
      intro n
      induction n with
      |zero=>intro _;show (0:Rat)=((0:Int):Rat);decide +kernel
      |succ n ih=>
        intro hn
        show Mx.sm n _+e m0 r n*((x n:Int):Rat)=((sI n _+Z r n*x n:Int):Rat)
        rw [ih Oo,he r n hr Oo,yV,yC]
    exact this 9 (yJ _)
  have hln:∀z:Int,-((11019960576000000000000000000000000000000000000000000000000:Nat):Int)≤z→z≤((11019960576000000000000000000000000000000000000000000000000:Nat):Int)→ln z≤7:=fun z h1 h2=>by
    have hp:yu 7=1000000000000000000000000000000000000000000000000000000000000000:=Oz
    exact Kv (k:=7) (by rw [hp];omega) (by rw [hp];omega)
  have go:∀j:Nat,j<9→∃x:Nat→Int,(∃c,c<9∧x c≠0)∧(∀c,ln (x c)≤7)∧x j=0∧Nul 9 7 m0 (fun c=>((x c:Int):Rat)):=fun j hj=>by
    obtain ⟨x,h1,h2,h3⟩:=zsB (m:=8) (n:=9) (B:=1000000) (H:=11019960576000000000000000000000000000000000000000000000000) (Z:=fun r c=>if r<7 then Z r c else if c=j then 1 else 0) (fun r c=>by
      by_cases k:r<7
      · simp only [k,if_true];exact hZ r c
      · simp only [k,if_false];split <;> constructor <;> decide) Oz
    refine ⟨x,h1,fun c=>hln _ (h2 c).1 (h2 c).2,?_,fun r hr=> ?_⟩
    · have h7 := h3 7 Od
      have:∀n,sI n (fun c=>(if (7:Nat)<7 then Z 7 c else if c=j then 1 else 0)*x c)=if j<n then x j else 0:=by
        intro n
        induction n with
        |zero=>rfl
        |succ n ih=>
          show sI n _+(if (7:Nat)<7 then Z 7 n else if n=j then 1 else 0)*x n=_
          rw [ih,if_neg (show ¬(7:Nat)<7 by decide)]
          by_cases k:n=j
          · subst k;rw [if_neg Oo,if_pos rfl,if_pos Oo];omega
          · rw [if_neg k]
            by_cases q:j<n
            · rw [if_pos q,if_pos Oo];omega
            · rw [if_neg q,if_neg Oo];omega
      rw [this,if_pos hj] at h7
      exact h7
    · have h8 := h3 r Oo
      show Mx.sm 9 (fun c=>e m0 r c*((x c:Int):Rat))=0
      rw [hsm x r hr,show sI 9 (fun c=>Z r c*x c)=0 from (zcZ 9 fun c _=>by rw [if_pos hr]).symm.trans h8]
      decide +kernel
  have z0:((0:Int):Rat)=0:=Oz
  constructor
  · obtain ⟨x, ⟨c, hc, hc0⟩, h2, h3, h4⟩ := go j1 h.hN
    have ha:=h.all _ h4
    simp only [h3,z0] at ha
    refine ⟨x,x j0,fun z=>hc0 ?_,h2 _,h2,fun i hi=>by have:=ha i hi;grind⟩
    have:=ha c hc
    rw [z,z0] at this
    have h5:((x c:Int):Rat)=((0:Int):Rat):=by rw [this];grind
    exact yP.1 h5
  · obtain ⟨x, ⟨c, hc, hc0⟩, h2, h3, h4⟩ := go j0 (by have := h.lt; have := h.hN; omega)
    have ha:=h.all _ h4
    simp only [h3,z0] at ha
    refine ⟨x,x j1,fun z=>hc0 ?_,h2 _,h2,fun i hi=>by have:=ha i hi;grind⟩
    have:=ha c hc
    rw [z,z0] at this
    have h5:((x c:Int):Rat)=((0:Int):Rat):=by rw [this];grind
    exact yP.1 h5
end Ro
namespace Ro
open Mx Big Td
def rv (z:Rd.Cm):List Rat:=(yZ 9).map fun i=>(((([z.a,z.b,1]:List Int).getD (i%3) 0)*(([z.d,z.w,1]:List Int).getD (i / 3) 0):Int):Rat)
theorem zio (z:Rd.Cm):(rv z).length=9:=by unfold rv;simp
theorem ziq (z:Rd.Cm) {i:Nat} (h:i<9):(rv z).getD i 0=(((([z.a,z.b,1]:List Int).getD (i%3) 0)*(([z.d,z.w,1]:List Int).getD (i / 3) 0):Int):Rat):=by
  unfold rv;rw [jR,if_pos h]
theorem zqk {z:Rd.Cm} {j k:Nat} (hj:j<3) (hk:k<3):(rv z).take (3*j+k)++[(((([z.a,z.b,1]:List Int).getD k 0)*(([z.d,z.w,1]:List Int).getD j 0):Int):Rat)]=(rv z).take (3*j+(k+1)):=by
  have h:=ziq z (show 3*j+k<9 by omega)
  rw [show (3*j+k)%3=k by omega,show (3*j+k) / 3=j by omega] at h
  have hl:=zio z
  rw [← h,show 3*j+(k+1)=3*j+k+1 by omega,yaa Oo,yx,yA Oo];rfl
theorem zfk {a b:Int} (ha: -1000≤a∧a≤1000) (hb: -1000≤b∧b≤1000) (i:Nat): -1000≤([a,b,1]:List Int).getD i 0∧([a,b,1]:List Int).getD i 0≤1000:=by
  match i with
  |0=>exact ha
  |1=>exact hb
  |2=>exact ⟨by show (-1000:Int)≤1;decide,by show (1:Int)≤1000;decide⟩
  |_+3=>exact ⟨by show (-1000:Int)≤0;decide,by show (0:Int)≤1000;decide⟩
theorem zkc {a b:Int} (ha: -1000≤a∧a≤1000) (hb: -1000≤b∧b≤1000): -1000000≤a*b∧a*b≤1000000:=by
  have h:(a*b).natAbs≤1000*1000:=by rw [Int.natAbs_mul];exact Nat.mul_le_mul Oo Oo
  omega
theorem zaL {α β:Type} {f:α→β} {l:List α} {i:Nat} {d:α} (h:i<l.length):(l.take i).map f++[f (l.getD i d)]=(l.take (i+1)).map f:=by
  rw [yaa h,yao,yx,yA h];rfl
theorem JX {α β:Type} {f:α→β} {l:List α} {i:Nat} {d:α} {e:β} (h:i<l.length):(l.map f).getD i e=f (l.getD i d):=by
  rw [yx,yx,yac,yA h];rfl
theorem zfl {M:Mt} {K N:Nat} (hl:M.length=K) (hr:∀i,i<K→(M.getD i []).length=N):yl K N (fun i j=>e M i j)=M:=by
  apply yaq
  intro i
  by_cases hi:i<K
  · have h1 : (yl K N (fun i j => e M i j)).length = K := Mx.ja _ _ _
    have h2:=Mx.Q3 (N:=N) (f:=fun i j=>e M i j) hi
    rw [yA Oo,yA Oo]
    have h3:(yl K N (fun i j=>e M i j)).getD i []=(yl K N (fun i j=>e M i j))[i]'Oo:=by rw [yx,yA Oo];rfl
    have h4:M.getD i []=M[i]'Oo:=by rw [yx,yA Oo];rfl
    have h5:=hr i hi
    rw [← h3,←h4,h2]
    congr 1
    apply yaq
    intro j
    by_cases hj:j<N
    · rw [yA (by simpa using hj), yA Oo]
      simp only [List.getElem_map,List.getElem_range]
      show some ((M.getD i []).getD j 0)=_
      rw [yx (l:=M.getD i []),yA Oo];rfl
    · rw [yz (by simp;omega),yz Oo]
  · rw [yz (by rw [Mx.ja];omega),yz Oo]
theorem zn3 {qs:List Nat} {i j:Nat} (h:(Mx.ints qs).getD j 0=((i:Nat):Int)) (hj:j<qs.length):i∈qs:=by
  rw [Mx.zap] at h
  have:qs.getD j 0=i:=Oo
  rw [← this];exact get_mem hj
theorem zn4 {qs:List Nat} {i:Nat} (h:i∈qs):∃k,k<qs.length∧(Mx.ints qs).getD k 0=((i:Nat):Int):=by
  obtain ⟨k,hk,e⟩:=zbX h
  exact ⟨k,hk,by rw [Mx.zap,e]⟩
end Ro
namespace Ro
open Mx
def Qu (l:List Rat):List (List Rat):=[l.take 3,(l.take 6).drop 3,l.drop 6]
theorem zb7 (l:List Rat):(Qu l).length=3:=rfl
theorem zaM {l:List Rat} (h:l.length=9) {i:Nat} (hi:i<3):((Qu l).getD i []).length=3:=by
  have:i=0∨i=1∨i=2:=Oo
  rcases this with rfl|rfl|rfl
  · show (l.take 3).length=3;rw [yK];omega
  · show ((l.take 6).drop 3).length=3;rw [yR,yK];omega
  · show (l.drop 6).length=3;rw [yR];omega
theorem zrQ (l:List Rat) {i j:Nat} (hi:i<3) (hj:j<3):e (Qu l) i j=l.getD (3*i+j) 0:=by
  have:i=0∨i=1∨i=2:=Oo
  rcases this with rfl|rfl|rfl
  · show (l.take 3).getD j 0 = _
    rw [yx,yx,yW,if_pos hj,show 3*0+j=j by omega]
  · show ((l.take 6).drop 3).getD j 0 = _
    rw [yx,yx,yX,yW,if_pos Oo]
  · show (l.drop 6).getD j 0 = _
    rw [yx,yx,yX]
def Ww (z:Rat) (k:Nat):List (Option Rat):=yT k (some z)++yT (9 - k) none
theorem zgJ (z:Rat) {k:Nat} (h:k≤9):(Ww z k).length=9:=by unfold Ww;rw [yO,List.length_replicate,List.length_replicate];omega
theorem zir (z:Rat):(yT 9 (none:Option Rat)).take 0++([some z]++(yT 9 (none:Option Rat)).drop (0+([some z]:List (Option Rat)).length))=Ww z 1:=rfl
theorem zlj (z:Rat) {k:Nat} (h:k=1∨k=2∨k=4∨k=8) {m:Nat} (hm:min k (9 - k)=m):(Ww z k).take k++((Ww z k).take m++(Ww z k).drop (k+((Ww z k).take m).length))=Ww z (k+m):=by
  subst hm
  rcases h with rfl|rfl|rfl|rfl <;> rfl
theorem zn5 (z:Rat):Ww z 9=(yT 9 z).map some:=rfl
end Ro
namespace Dt
abbrev M4:=Nat→Nat→Rat
def d2 (m:M4) (a b c d:Nat):Rat:=m a c*m b d - m a d*m b c
def zbj (m:M4):Rat:=
  d2 m 0 1 0 1*d2 m 2 3 2 3 - d2 m 0 1 0 2*d2 m 2 3 1 3+d2 m 0 1 0 3*d2 m 2 3 1 2+d2 m 0 1 1 2*d2 m 2 3 0 3 - d2 m 0 1 1 3*d2 m 2 3 0 2+d2 m 0 1 2 3*d2 m 2 3 0 1
def pad (n:Nat) (m:M4):M4:=fun r c=>if r<n∧c<n then m r c else if r=c then 1 else 0
def Up (m:M4) (j:Nat):Prop:=∀r c,c<j→c<r→r<4→m r c=0
theorem zn6 {m:M4} {j:Nat} (hj:j<4) (h:Up m j) (hz:∀r,j≤r→r<4→m r j=0):zbj m=0:=by
  have hj:j=0∨j=1∨j=2∨j=3:=Oo
  rcases hj with rfl|rfl|rfl|rfl
  · have a := hz 0 Oo Oo; have b := hz 1 Oo Oo; have c := hz 2 Oo Oo; have d := hz 3 Oo Oo
    simp only [zbj,d2,a,b,c,d];grind
  · have a := hz 1 Oo Oo; have b := hz 2 Oo Oo; have c := hz 3 Oo Oo
    have d:=h 1 0 Oo Oo Oo;have e:=h 2 0 Oo Oo Oo;have f:=h 3 0 Oo Oo Oo
    simp only [zbj,d2,a,b,c,d,e,f];grind
  · have a := hz 2 Oo Oo; have b := hz 3 Oo Oo
    have d:=h 1 0 Oo Oo Oo;have e:=h 2 0 Oo Oo Oo;have f:=h 3 0 Oo Oo Oo
    have g:=h 2 1 Oo Oo Oo;have i:=h 3 1 Oo Oo Oo
    simp only [zbj,d2,a,b,d,e,f,g,i];grind
  · have a := hz 3 Oo Oo
    have d:=h 1 0 Oo Oo Oo;have e:=h 2 0 Oo Oo Oo;have f:=h 3 0 Oo Oo Oo
    have g:=h 2 1 Oo Oo Oo;have i:=h 3 1 Oo Oo Oo;have k:=h 3 2 Oo Oo Oo
    simp only [zbj,d2,a,d,e,f,g,i,k];grind
def d3 (m:M4) (a b c:Nat):Rat:=m a a*d2 m b c b c - m a b*d2 m b c a c+m a c*d2 m b c a b
def zs2 (x:Rat) (m:M4):M4:=fun r c=>(if r=c then x else 0) - m r c
end Dt
namespace Dt
open Po
def dv' (m:M4) (n i:Nat):Rat:=zbj (pad n (zs2 (i:Rat) m))
end Dt
namespace Dt
open Po Big
theorem K4 {x y:Rat} {a b:Nat} (hx:hq x≤a) (hy:hq y≤b):hq (x*y)≤a+b:=by have:=jB x y;omega
theorem zis {x y:Rat} {a b:Nat} (hx:hq x≤a) (hy:hq y≤b):hq (x+y)≤a+b+1:=by have:=QX x y;omega
theorem zit {x y:Rat} {a b:Nat} (hx:hq x≤a) (hy:hq y≤b):hq (x - y)≤a+b+1:=by have:=KO x y;omega
theorem JY {m:M4} {k:Nat} (h:∀r c,hq (m r c)≤k) (a b c d:Nat):hq (d2 m a b c d)≤4*k+1:=by
  have:=zit (K4 (h a c) (h b d)) (K4 (h a d) (h b c))
  unfold d2;omega
theorem zql {m:M4} {k:Nat} (h:∀r c,hq (m r c)≤k):hq (zbj m)≤48*k+17:=by
  have:=JY h
  have:=zis (zit (zis (zis (zit (K4 (JY h 0 1 0 1) (JY h 2 3 2 3)) (K4 (JY h 0 1 0 2) (JY h 2 3 1 3))) (K4 (JY h 0 1 0 3) (JY h 2 3 1 2))) (K4 (JY h 0 1 1 2) (JY h 2 3 0 3))) (K4 (JY h 0 1 1 3) (JY h 2 3 0 2))) (K4 (JY h 0 1 2 3) (JY h 2 3 0 1))
  unfold zbj;omega
theorem zs3 {n:Nat} {m:M4} {k:Nat} (hk:1≤k) (h:∀r c,r<n→c<n→hq (m r c)≤k) (r c:Nat):hq (pad n m r c)≤k:=by
  unfold pad
  split
  · rename_i e;exact h r c e.1 e.2
  · split
    · rw [zeC];exact hk
    · rw [vN];exact hk
end Dt
namespace Td
open Mx Big
theorem zqm {l m:List Rat} {i:Nat} (h:l.getD i 0=0∨m.getD i 0=0):dl l m i=dl l m (i+1):=by
  show _=dl l m i+l.getD i 0*m.getD i 0
  rcases h with h|h <;> rw [h] <;> grind
theorem zn7 {x:Rat} (h:Big.Zv x=0):x=0:=Rat.num_eq_zero.1 (Big.ZX.1 h)
theorem zqn {l m:List Rat} {i:Nat} (h:¬(Big.Zv (l.getD i 0)≠0∧Big.Zv (m.getD i 0)≠0)):l.getD i 0=0∨m.getD i 0=0:=by
  by_cases k:Big.Zv (l.getD i 0)=0
  · exact .inl (zn7 k)
  · exact .inr (zn7 (yL fun z=>h ⟨k,z⟩))
end Td
namespace Dt
open Mx Big Td Po
def okM (M:Mt):Prop:=(1≤M.length∧M.length≤64)∧(1≤(M.getD 0 []).length∧(M.getD 0 []).length≤64)∧∀i,i<M.length→(M.getD i []).length=(M.getD 0 []).length
theorem zn8 {M:Mt} {K N:Nat} (hl:M.length=K) (hr:∀i,i<K→(M.getD i []).length=N) (h1:1≤K∧K≤64) (h2:1≤N∧N≤64):okM M:=
  ⟨by rw [hl];exact h1,by rw [hr 0 Oo];exact h2,fun i hi=>by rw [hr i Oo,hr 0 Oo]⟩
theorem zqo {A B:Mt} (ha:okM A) (hb:okM B):∀i,i<2→okM (([A,B]:List Mt).getD i []):=fun i hi=>by
  have:i=0∨i=1:=Oo
  rcases this with rfl|rfl
  · exact ha
  · exact hb
theorem Jk {K N:Nat} {f g:Nat→Nat→Rat} (h:∀i j,i<K→j<N→f i j=g i j):mk K N f=mk K N g:=by
  unfold mk
  refine yH fun i hi=>yH fun j hj=> ?_
  exact h i j (yaf.1 hi) (yaf.1 hj)
theorem zs4 {K N:Nat} {f:Nat→Nat→Rat} {i c:Nat} (h:¬(i<K∧c<N)):e (mk K N f) i c=0:=by
  unfold e
  by_cases hi:i<K
  · rw [Q3 hi,jR,if_neg (fun k=>h ⟨hi,k⟩)]
  · have : (mk K N f).getD i [] = [] := by rw [yx, yz (by rw [ja]; omega)]; rfl
    rw [this];rfl
theorem zn9 {K N k:Nat} {f:Nat→Nat→Rat} (h:∀i j,i<K→j<N→hq (f i j)≤k) (h1:1≤k):yn (mk K N f) k:=fun i c=>by
  by_cases hc:i<K∧c<N
  · rw [zbK hc.1 hc.2];exact h i c hc.1 hc.2
  · rw [zs4 hc,vN];exact h1
def Gq (b:Nat):Nat→Nat
  |0=>b
  |j+1=>4*Gq b j+2
structure El (n:Nat) (M0:Mt) (b:Nat) (hs:Sp.HP) (M:Mt) (j:Nat) (s:Rat):Prop where
  sm:Sm hs M n n
  up:Up (pad n (e M)) j
  s1:s=1∨s= -1
  de:zbj (pad n (e M0))=s*zbj (pad n (e M))
  bd:yn M (Gq b j)
section
variable {n : Nat} {M0 M : Mt} {b : Nat} {hs : Sp.HP} {j : Nat} {s : Rat}
theorem El.none (h:El n M0 b hs M j s) (h4:n≤4) (hj:j<n) (hz:∀i,j≤i→i<n→e M i j=0):zbj (pad n (e M0))=((0:Int):Rat):=by
  rw [h.de,zn6 Oo h.up fun r h1 h2=> ?_]
  · rw [show ((0:Int):Rat)=0 by decide +kernel];grind
  · unfold pad
    split
    · rename_i k;exact hz r h1 k.1
    · rw [if_neg Oo]
theorem El.es (h:El n M0 b hs M j s) (h4:n≤4) {k:Nat} (hj:j<k) (hk:k<n) (hz:e M k j≠0):e (Mx.swp M k j) j j≠0:=by
  rw [zdR (h.sm.mk' hk) (h.sm.mk' Oo),if_pos rfl];exact hz
structure Ei (n:Nat) (M1 M:Mt) (hs:Sp.HP) (j i B:Nat):Prop where
  sm:Sm hs M n n
  up:Up (pad n (e M)) j
  de:zbj (pad n (e M))=zbj (pad n (e M1))
  zr:∀r,j<r→r<i→e M r j=0
  sa:∀r c,r≤j∨i≤r→e M r c=e M1 r c
  bd:yn M (4*B+2)
end
end Dt
namespace Dt
open Mx Big Td Po
theorem zih {K L N:Nat} {p q:List Rat} (h1:bd K p) (h2:bd L q) (hl:p.length≤N):bd (1+N*(K+L+1)) (mul p q):=fun k=>by
  rw [Zx]
  show hq (co _ _ k (k+1))≤_
  rw [← zc0]
  refine yah (Wq h1 h2 k 0 (k+1)) (Nat.add_le_add_left (yI _ ?_) _)
  omega
theorem vs1 (l:List Rat):vals (l.map some)=l:=zV l
theorem zoa {A:Mt} {n i:Nat} (hi:i≤5) (hA:yn A 1):hq (dv' (e A) n i)≤161:=by
  unfold dv'
  have h1:∀r c,r<n→c<n→hq (zs2 (i:Rat) (e A) r c)≤3:=fun r c _ _=>by
    unfold zs2
    have ha:=hA r c
    have hs:=KO (if r=c then (i:Rat) else 0) (e A r c)
    have hx:hq (if r=c then (i:Rat) else 0)≤1:=by
      split
      · have hn : i = 0 ∨ i = 1 ∨ i = 2 ∨ i = 3 ∨ i = 4 ∨ i = 5 := by omega
        rcases hn with rfl|rfl|rfl|rfl|rfl|rfl <;> decide +kernel
      · rw [vN];exact yJ _
    omega
  have:=zql (zs3 (n:=n) Od h1)
  omega
theorem zdc {p q:List Rat} {K L N:Nat} (h1:bd K p) (h2:bd L q) (hl:p.length≤N) (hb:1+N*(K+L+1)≤200000000000):∀k lo n,lo+n≤k+1→hq (cv (cl p) (cl q) k lo n)≤200000000000:=fun k lo n _=>
  znx (zaC h1) (zaC h2) (yah (vI p) hl) hb k lo n
end Dt
namespace Ro
open Mx Big Po
abbrev vf (l:List Rat):Nat→Rat:=fun k=>l.getD k 0
def h8 (a:Nat→Rat):Prop:=∀k,hq (a k)≤8
theorem zrR {l:List Rat} {X:Nat→Int} {d:Int} (hl:l.length=9) (h:ov 7 (vf l) X d):h8 (vf l):=fun k=>by
  by_cases hk:k<9
  · have hd0 : (d : Rat) ≠ 0 := fun z => h.1 (yP.1 (z.trans Oz))
    have e:vf l k=yD (X k) d:=by
      rw [yS,←h.2.2.2 k hk,yap,yad,yag _ hd0,yat]
    rw [e]
    have:=Zr (n:=X k) h.1
    have:=h.2.1;have:=h.2.2.1 k
    omega
  · show hq (l.getD k 0) ≤ 8
    rw [yx,yz Oo]
    show hq 0≤8;decide
variable {a b : Nat → Rat}
theorem v5 (k:Nat):(at2 a b k).length≤2:=vI _
theorem Qh (ha:h8 a) (hb:h8 b) (k:Nat):bd 8 (at2 a b k):=zaC fun i=>by
  match i with
  |0=>exact hb k
  |1=>exact ha k
  |_+2=>show hq 0≤8;decide
theorem Jl (p q r s:Nat):(Qg a b p q r s).length≤3:=by
  unfold Qg
  have h0:=zj2 (mul (at2 a b p) (at2 a b q)) (mul (at2 a b r) (at2 a b s))
  have h1:=Kj (at2 a b p) (at2 a b q);have h2:=Kj (at2 a b r) (at2 a b s)
  have:=v5 (a:=a) (b:=b) p;have:=v5 (a:=a) (b:=b) q;have:=v5 (a:=a) (b:=b) r;have:=v5 (a:=a) (b:=b) s
  omega
theorem zb8 (ha:h8 a) (hb:h8 b) (p q:Nat):bd 40 (mul (at2 a b p) (at2 a b q)):=jM (Po.zih (Qh ha hb p) (Qh ha hb q) (v5 p)) Od
theorem zgK (p q:Nat):(mul (at2 a b p) (at2 a b q)).length≤3:=by
  have:=Kj (at2 a b p) (at2 a b q);have:=v5 (a:=a) (b:=b) p;have:=v5 (a:=a) (b:=b) q;omega
theorem Kn (ha:h8 a) (hb:h8 b) (p q r s:Nat):bd 81 (Qg a b p q r s):=zne (zb8 ha hb p q) (zb8 ha hb r s)
theorem zgL (ha:h8 a) (hb:h8 b) (t p q r s:Nat):bd 181 (mul (at2 a b t) (Qg a b p q r s)):=jM (Po.zih (Qh ha hb t) (Kn ha hb p q r s) (v5 t)) Od
theorem zdd (t p q r s:Nat):(mul (at2 a b t) (Qg a b p q r s)).length≤4:=by
  have:=Kj (at2 a b t) (Qg a b p q r s);have:=v5 (a:=a) (b:=b) t;have:=Jl (a:=a) (b:=b) p q r s;omega
theorem zqp {va vb:List Rat} {i j:Nat} (hi:i<3) (hj:j<3):cl (vals [some (((Qu vb).getD i []).getD j 0),some (((Qu va).getD i []).getD j 0)])=at2 (vf va) (vf vb) (3*i+j):=by
  have h1:=zrQ va hi hj;have h2:=zrQ vb hi hj
  unfold e at h1 h2
  show cl [((Qu vb).getD i []).getD j 0,((Qu va).getD i []).getD j 0]=cl [vb.getD (3*i+j) 0,va.getD (3*i+j) 0]
  rw [h1,h2]
end Ro
namespace Ro
open Mx Big Po
structure Hid (p:Prop):Prop where
  out:p
abbrev Pc:=List (List Rat)×List (List Rat)×Rat×Rat
def pen (v0 v1:List Rat) (q:Rat×Rat):Pc:=(Qu v0,Qu v1,q.1,q.2)
def z9:List Rat:=yT 9 (((0:Int)):Rat)
abbrev zqq (p:List Rat) (n:Nat):List (Rat×Rat):=K0 (vH p) n (-bound (cl p)) (bound (cl p))
abbrev KA (v0 v1:List Rat):List Rat:=chP (vf v0) (vf v1)
def sv (v0 v1:List Rat) (I:List (Rat×Rat)):List Pc:=I.map (pen v0 v1)++(if (KA v0 v1).length<4 then [(Qu z9,Qu v0,(((0:Int)):Rat),(((0:Int)):Rat))] else [])
def rm (l:List Rd.Cm):List (List Rat):=l.map rv
def Out (l:List Rd.Cm) (L:List Pc) (code:Int):Prop:=(code=13∧L=[])∨
  (code=0∧∃v0 v1 j0 j1 n,Two 9 7 (rm l) v0 v1 j0 j1∧h8 (vf v0)∧h8 (vf v1)∧(KA v0 v1).length≠0∧isk (vH (KA v0 v1)) n (-bound (cl (KA v0 v1))) (bound (cl (KA v0 v1)))∧(zqq (KA v0 v1) n).length≤5∧L=sv v0 v1 (zqq (KA v0 v1) n))
theorem zob {l:List Rd.Cm} (h:l.length=7):(rm l).length=7:=by unfold rm;rw [List.length_map];exact h
theorem zoc {l:List Rd.Cm} (h:l.length=7):∀i,i<7→((rm l).getD i []).length=9:=fun i hi=>by
  unfold rm;rw [JX (d:=Rd.c0) Oo];exact zio _
def rz (l:List Rd.Cm) (r c:Nat):Int:=if r<7∧c<9 then ([(l.getD r Rd.c0).a,(l.getD r Rd.c0).b,1]:List Int).getD (c%3) 0*([(l.getD r Rd.c0).d,(l.getD r Rd.c0).w,1]:List Int).getD (c / 3) 0 else 0
theorem zrS {l:List Rd.Cm} (hn:∀jj,jj<7→nr (l.getD jj Rd.c0)) (r c:Nat): -1000000≤rz l r c∧rz l r c≤1000000:=by
  unfold rz
  split
  · rename_i h
    obtain ⟨h1,h2,h3,h4⟩:=hn r h.1
    exact zkc (zfk h1 h2 _) (zfk h3 h4 _)
  · exact ⟨Od,Od⟩
theorem zuu {l:List Rd.Cm} (hl:l.length=7) (r c:Nat) (hr:r<7) (hc:c<9):e (rm l) r c=((rz l r c:Int):Rat):=by
  unfold e rm rz
  rw [JX (d:=Rd.c0) Oo,ziq _ hc,if_pos ⟨hr,hc⟩]
theorem zuv {l:List Rd.Cm} (hl:l.length=7) (hn:∀jj,jj<7→nr (l.getD jj Rd.c0)):yn (rm l) 1:=fun r c=>by
  by_cases hr:r<7
  · by_cases hc : c < 9
    · rw [zuu hl r c hr hc]
      have h:=zrS hn r c
      have:hq ((rz l r c:Int):Rat)≤1:=by
        have hq1:=zcC (rz l r c)
        have hp:yu 1=1000000000:=Oz
        have:ln (rz l r c)≤1:=Kv (k:=1) (by rw [hp];omega) (by rw [hp];omega)
        omega
      exact this
    · have := zoc hl r hr
      show hq (e (rm l) r c)≤1
      unfold e;rw [yx,yz Oo];show hq 0≤1;decide
  · have := zob hl
    show hq (e (rm l) r c)≤1
    unfold e;rw [yx (l:=rm l),yz Oo];show hq (([]:List Rat).getD c 0)≤1;rw [List.getD_nil];decide
theorem zs5 {l:List Rd.Cm} (hl:l.length=7) (hn:∀jj,jj<7→nr (l.getD jj Rd.c0)) {v0 v1:List Rat} {j0 j1:Nat} (h:Two 9 7 (rm l) v0 v1 j0 j1):h8 (vf v0)∧h8 (vf v1)∧cb 100 (KA v0 v1):=by
  obtain ⟨⟨X,d,h1⟩,⟨Y,e,h2⟩⟩:=zqj h (zrS hn) (zuu hl)
  exact ⟨zrR h.l0 h1,zrR h.l1 h2,zus h1 h2⟩
theorem zqr {v0 v1:List Rat} (hc:cb 100 (KA v0 v1)):
    ∃k,sok (KA v0 v1)∧bd 40000000000 (KA v0 v1)∧((cl (KA v0 v1)).length≠0→(vH (KA v0 v1)).length≠0∧(vH (KA v0 v1)).length≤400∧isk (vH (KA v0 v1)) k (-bound (cl (KA v0 v1))) (bound (cl (KA v0 v1)))∧(zqq (KA v0 v1) k).length≤5):=by
  have hl:(KA v0 v1).length≤4:=zfj (vf v0) (vf v1)
  have h1:=zuq hl hc
  by_cases h0:(cl (KA v0 v1)).length=0
  · exact ⟨0,h1.1,jM (Q6 hc) Od,fun k=>absurd h0 k⟩
  · obtain ⟨k, hk⟩ := zlh hl hc h0
    have hs:=zbd (KA v0 v1)
    have hi:(zqq (KA v0 v1) k).length≤(KA v0 v1).length+1:=zli hk
    have hne:(vH (KA v0 v1)).length≠0:=by
      have h0':(ZL (KA v0 v1)).length≠0:=fun e=>h0 ((zb3 _).1 e)
      unfold vH
      rw [if_neg h0']
      simp
    exact ⟨k,h1.1,jM (Q6 hc) Od,fun _=>⟨hne,Oo,hk,Oo⟩⟩
theorem _root_.Go.Proofs.YtpdbimfnhglhpaaGreat.Po.sturm_zero9 {p:List Rat} (h:(cl p).length=0):(vH p).length=0:=by
  unfold vH;rw [if_pos ((zb3 p).2 h)];rfl
theorem zqs {v0 v1:List Rat} {I:List (Rat×Rat)} {q:Rat×Rat} (h:q∈I):pen v0 v1 q∈sv v0 v1 I:=List.mem_append.2 (.inl (List.mem_map.2 ⟨q,h,rfl⟩))
end Ro
namespace Ro
open Mx Big
theorem m5 {a b:Int} (ha:s5 a) (hb:s5 b): -250000≤a*b∧a*b≤250000:=by
  unfold s5 at ha hb
  have h:(a*b).natAbs≤500*500:=by rw [Int.natAbs_mul];exact Nat.mul_le_mul Oo Oo
  omega
theorem m5s {a:Int}:0≤a*a:=by
  rcases Int.le_total 0 a with h|h
  · exact Int.mul_nonneg h h
  · have:=Int.mul_nonneg (show 0≤ -a by omega) (show 0≤ -a by omega);rw [Int.neg_mul_neg] at this;exact this
theorem sq0 {a:Int} (h:a≠0):1≤a*a:=by
  have h1:=m5s (a:=a)
  have h2:=yai h h
  omega
abbrev T3i:=Int×Int×Int
def QQ (a b c d:Int):List T3i:=[(a*a+b*b - c*c - d*d,2*(b*c - a*d),2*(b*d+a*c)),(2*(b*c+a*d),a*a - b*b+c*c - d*d,2*(c*d - a*b)),(2*(b*d - a*c),2*(c*d+a*b),a*a - b*b - c*c+d*d)]
def Ko (a b c d:Int):Int:=a*a+b*b+c*c+d*d
def tl (x:T3i):List Int:=[x.1,x.2.1,x.2.2]
def K5 (x:T3i) (n:Int):List Rat:=[yD x.1 n,yD x.2.1 n,yD x.2.2 n]
def QK (a b c d:Int):List (List Rat):=(QQ a b c d).map fun x=>K5 x (Ko a b c d)
theorem zd7 {x:T3i} {n:Int} {j:Nat} (h:j<3):(K5 x n).take j++[yD (([x.1,x.2.1,x.2.2]:List Int).getD j 0) n]=(K5 x n).take (j+1):=by
  have:j=0∨j=1∨j=2:=Oo
  rcases this with rfl|rfl|rfl <;> rfl
theorem zgM {a b c d:Int} {i:Nat} (h:i<3):((QQ a b c d).take i).map (fun x=>K5 x (Ko a b c d))++[K5 ((QQ a b c d).getD i (0,0,0)) (Ko a b c d)]=((QQ a b c d).take (i+1)).map (fun x=>K5 x (Ko a b c d)):=
  zaL (f:=fun x=>K5 x (Ko a b c d)) (by exact h)
theorem zqu {a b c d:Int} {i:Nat} (h:i<3):((QK a b c d).getD i []).length=3:=by
  unfold QK;rw [JX (d:=((0,0,0):T3i)) (by exact h)];rfl
theorem Wt {a b c d:Int} (h:¬(a=0∧b=0∧c=0∧d=0)):1≤Ko a b c d:=by
  have:=m5s (a:=a);have:=m5s (a:=b);have:=m5s (a:=c);have:=m5s (a:=d)
  unfold Ko
  by_cases ha:a=0
  · by_cases hb : b = 0
    · by_cases hc : c = 0
      · by_cases hd : d = 0
        · exact absurd ⟨ha,hb,hc,hd⟩ h
        · have:=sq0 hd;omega
      · have:=sq0 hc;omega
    · have:=sq0 hb;omega
  · have:=sq0 ha;omega
theorem zde {a b c d:Int} (ha:s5 a) (hb:s5 b) (hc:s5 c) (hd:s5 d):Ko a b c d≤1000000:=by
  have:=m5 ha ha;have:=m5 hb hb;have:=m5 hc hc;have:=m5 hd hd
  unfold Ko;omega
def r6 (x:T3i):Prop:=(-1500000≤x.1∧x.1≤1500000)∧(-1500000≤x.2.1∧x.2.1≤1500000)∧(-1500000≤x.2.2∧x.2.2≤1500000)
theorem zdf {a b c d:Int} (ha:s5 a) (hb:s5 b) (hc:s5 c) (hd:s5 d) {i:Nat} (h:i<3):r6 ((QQ a b c d).getD i (0,0,0)):=by
  have h1:=m5 ha ha;have h2:=m5 hb hb;have h3:=m5 hc hc;have h4:=m5 hd hd
  have h5:=m5 hb hc;have h6:=m5 ha hd;have h7:=m5 hb hd;have h8:=m5 ha hc;have h9:=m5 hc hd;have h10:=m5 ha hb
  have:i=0∨i=1∨i=2:=Oo
  rcases this with rfl|rfl|rfl
  · show r6 (a*a+b*b - c*c - d*d,2*(b*c - a*d),2*(b*d+a*c));refine ⟨?_,?_,?_⟩ <;> dsimp only <;> omega
  · show r6 (2*(b*c+a*d),a*a - b*b+c*c - d*d,2*(c*d - a*b));refine ⟨?_,?_,?_⟩ <;> dsimp only <;> omega
  · show r6 (2*(b*d - a*c),2*(c*d+a*b),a*a - b*b - c*c+d*d);refine ⟨?_,?_,?_⟩ <;> dsimp only <;> omega
theorem zod {x:T3i} (h:r6 x) (j:Nat): -1500000≤([x.1,x.2.1,x.2.2]:List Int).getD j 0∧([x.1,x.2.1,x.2.2]:List Int).getD j 0≤1500000:=by
  obtain ⟨h1,h2,h3⟩:=h
  match j with
  |0=>exact h1
  |1=>exact h2
  |2=>exact h3
  |_+3=>exact ⟨by show (-1500000:Int)≤0;decide,by show (0:Int)≤1500000;decide⟩
theorem zkd {a b c d:Int} (ha:s5 a) (hb:s5 b) (hc:s5 c) (hd:s5 d):((-250000≤a*a∧a*a≤250000)∧(-250000≤b*b∧b*b≤250000)∧(-250000≤c*c∧c*c≤250000)∧(-250000≤d*d∧d*d≤250000))∧(-250000≤b*c∧b*c≤250000)∧(-250000≤a*d∧a*d≤250000)∧(-250000≤b*d∧b*d≤250000)∧(-250000≤a*c∧a*c≤250000)∧(-250000≤c*d∧c*d≤250000)∧(-250000≤a*b∧a*b≤250000):=
  ⟨⟨m5 ha ha,m5 hb hb,m5 hc hc,m5 hd hd⟩,m5 hb hc,m5 ha hd,m5 hb hd,m5 ha hc,m5 hc hd,m5 ha hb⟩
theorem zoe {l:List Int} (h:∀z,z∈l→s5 z):∀jj,jj<l.length→(-0x100000≤l.getD jj 0∧l.getD jj 0≤0x100000):=fun j hj=>by
  have:=h _ (get_mem (d:=0) hj)
  unfold s5 at this
  omega
theorem in9 {s:St} (h:s.ok):∀jj,jj<9→(-0x100000≤([s.x,s.y,s.z,s.u,s.v,s.a,s.b,s.c,s.d]:List Int).getD jj 0∧([s.x,s.y,s.z,s.u,s.v,s.a,s.b,s.c,s.d]:List Int).getD jj 0≤0x100000):=by
  obtain ⟨-,-,⟨h1,h2,h3⟩,⟨h4,h5,h6⟩,h7,h8,h9,h10⟩:=h
  refine zoe (l:=[s.x,s.y,s.z,s.u,s.v,s.a,s.b,s.c,s.d]) fun z hz=> ?_
  simp only [yY,List.mem_nil_iff,or_false] at hz
  rcases hz with rfl|rfl|rfl|rfl|rfl|rfl|rfl|rfl|rfl <;> assumption
def ofI (LL:List (List Int)):List (List Rat):=yl 3 3 (fun ii jj=>Mx.eI LL ii jj)
def inn (s:St):List (List Rat):=ofI [[s.f,0,s.u],[0,s.f,s.v],[0,0,1]]
theorem r33 {a b c:List Int} (ha:a.length=3) (hb:b.length=3) (hc:c.length=3):∀i,i<3→(([a,b,c]:List (List Int)).getD i []).length=3:=fun i hi=>by
  have:i=0∨i=1∨i=2:=Oo
  rcases this with rfl|rfl|rfl
  · exact ha
  · exact hb
  · exact hc
end Ro
namespace Ro
open Mx Big Td
structure m33 (A:Mt):Prop where
  l:A.length=3
  r:∀i,i<3→(A.getD i []).length=3
theorem zqv (f:Nat→Nat→Rat):m33 (yl 3 3 f):=⟨Mx.ja _ _ _,fun i hi=>by rw [Mx.Q3 hi];simp⟩
def V1 (A:Mt):Mt:=yl 3 3 (fun ii jj=>Mx.e A jj ii)
def zdx (A B:Mt):Mt:=yl 3 3 (fun ii jj=>Td.dl (A.getD ii []) ((yl 3 3 (fun ii jj=>Mx.e B jj ii)).getD jj []) 3)
def pr (A:Mt) (Ls:List Mt):Mt:=Ls.foldl zdx A
theorem zaN (A:Mt):m33 (V1 A):=zqv _
theorem zof (A B:Mt):m33 (zdx A B):=zqv _
theorem zke {A:Mt} {Ls:List Mt} {i:Nat} (h:i<Ls.length):zdx (pr A (Ls.take i)) (Ls.getD i [])=pr A (Ls.take (i+1)):=by
  unfold pr
  rw [yaa h,List.foldl_append,yx,yA h];rfl
theorem zqw {A:Mt} (hA:m33 A):∀Ls:List Mt,m33 (pr A Ls)
  |[]=>hA
  |B :: Ls=>zqw (zof A B) Ls
theorem zfm (A B:Mt) {i j:Nat} (hi:i<3) (hj:j<3):e (zdx A B) i j=e A i 0*e B 0 j+e A i 1*e B 1 j+e A i 2*e B 2 j:=by
  have h:∀k,k<3→((yl 3 3 (fun ii jj=>Mx.e B jj ii)).getD j []).getD k 0=e B k j:=fun k hk=>Mx.zbK (f:=fun ii jj=>Mx.e B jj ii) hj hk
  unfold zdx
  rw [Mx.zbK hi hj]
  show ((((0:Int):Rat)+(A.getD i []).getD 0 0*_)+(A.getD i []).getD 1 0*_)+(A.getD i []).getD 2 0*_=_
  rw [h 0 Od,h 1 Od,h 2 Od]
  have z:((0:Int):Rat)=0:=Oz
  rw [z]
  show 0+e A i 0*e B 0 j+e A i 1*e B 1 j+e A i 2*e B 2 j=_
  grind
theorem Q8 (A:Mt) {i j:Nat} (hi:i<3) (hj:j<3):e (V1 A) i j=e A j i:=Mx.zbK (f:=fun ii jj=>Mx.e A jj ii) hi hj
theorem zgN {A:Mt} {K:Nat} (hA:m33 A) (h1:1≤K) (h:∀i j,i<3→j<3→hq (e A i j)≤K):yn A K:=fun i j=>by
  show hq (e A i j)≤K
  by_cases hi:i<3
  · by_cases hj : j < 3
    · exact h i j hi hj
    · have := hA.r i hi
      unfold e;rw [yx,yz Oo];show hq 0≤K;rw [vN];exact h1
  · have := hA.l
    unfold e;rw [yx (l:=A),yz Oo];show hq (([]:List Rat).getD j 0)≤K;rw [List.getD_nil,vN];exact h1
theorem zqx {A B:Mt} {K L:Nat} (hA:yn A K) (hB:yn B L):yn (zdx A B) (3*(K+L)+2):=zgN (zof A B) Oo fun i j hi hj=>by
  rw [zfm A B hi hj]
  have h:∀k,hq (e A i k*e B k j)≤K+L:=fun k=>by have:=jB (e A i k) (e B k j);have h1:hq (e A i k)≤K:=hA i k;have h2:hq (e B k j)≤L:=hB k j;omega
  have h1:=QX (e A i 0*e B 0 j+e A i 1*e B 1 j) (e A i 2*e B 2 j)
  have h2:=QX (e A i 0*e B 0 j) (e A i 1*e B 1 j)
  have:=h 0;have:=h 1;have:=h 2
  omega
theorem zfn {A:Mt} {K:Nat} (h1:1≤K) (hA:yn A K):yn (V1 A) K:=zgN (zaN A) h1 fun i j hi hj=>by rw [Q8 A hi hj];exact hA j i
def gK:Nat→Nat
  |0=>400
  |i+1=>3*(gK i+400)+2
theorem zqy {i j:Nat} (h:i≤j):gK i≤gK j:=by
  induction j with
  |zero=>rw [show i=0 by omega];exact yJ _
  |succ j ih=>
    by_cases e:i=j+1
    · rw [e];exact yJ _
    · have:=ih Oo;show gK i≤3*(gK j+400)+2;omega
theorem zog {A:Mt} (hA:yn A 400) {Ls:List Mt} (hL:∀i,i<Ls.length→yn (Ls.getD i []) 400):∀i,i≤Ls.length→yn (pr A (Ls.take i)) (gK i)
  |0,_=>hA
  |i+1,h=>by rw [← zke (show i<Ls.length by omega)];exact zqx (zog hA hL i Oo) (hL i Oo)
theorem zoh (LL:List (List Int)):m33 (ofI LL):=zqv _
theorem K6 (LL:List (List Int)) {i j:Nat} (hi:i<3) (hj:j<3):e (ofI LL) i j=(((LL.getD i []).getD j 0:Int):Rat):=Mx.zbK (f:=fun ii jj=>Mx.eI LL ii jj) hi hj
theorem VF {z:Int} (h: -1000000≤z∧z≤1000000):hq ((z:Int):Rat)≤1:=by
  have hq1:=zcC z
  have hp:yu 1=1000000000:=Oz
  have:ln z≤1:=Kv (k:=1) (by rw [hp];omega) (by rw [hp];omega)
  omega
theorem zoi {LL:List (List Int)} (h:∀i j,i<3→j<3→ -1000000≤(LL.getD i []).getD j 0∧(LL.getD i []).getD j 0≤1000000):yn (ofI LL) 1:=zgN (zoh LL) Od fun i j hi hj=>by
  rw [K6 LL hi hj];exact VF (h i j hi hj)
theorem zrT (s:St):m33 (inn s):=zoh _
theorem n3 {i:Nat} (h:i<3):i=0∨i=1∨i=2:=Oo
theorem zs7 {s:St} (h:s.ok):yn (inn s) 1:=zoi fun i j hi hj=>by
  obtain ⟨-,-,-,⟨hu,hv,hf⟩,-⟩:=h
  unfold s5 at hu hv hf
  rcases n3 hi with rfl|rfl|rfl <;> rcases n3 hj with rfl|rfl|rfl
  · show -1000000≤s.f∧s.f≤1000000;omega
  · show (-1000000:Int)≤0∧(0:Int)≤1000000;omega
  · show -1000000≤s.u∧s.u≤1000000;omega
  · show (-1000000:Int)≤0∧(0:Int)≤1000000;omega
  · show -1000000≤s.f∧s.f≤1000000;omega
  · show -1000000≤s.v∧s.v≤1000000;omega
  · show (-1000000:Int)≤0∧(0:Int)≤1000000;omega
  · show (-1000000:Int)≤0∧(0:Int)≤1000000;omega
  · show (-1000000:Int)≤1∧(1:Int)≤1000000;omega
theorem sm3 (f:Nat→Rat):sm 3 f=f 0+f 1+f 2:=by show ((0+f 0)+f 1)+f 2=_;grind
theorem zoj (s:St) (v:Nat→Rat):sm 3 (fun j=>e (inn s) 0 j*v j)=(s.f:Rat)*v 0+(s.u:Rat)*v 2:=by
  rw [sm3];unfold inn
  rw [K6 _ Od Od,K6 _ Od Od,K6 _ Od Od]
  show ((s.f:Int):Rat)*v 0+((0:Int):Rat)*v 1+((s.u:Int):Rat)*v 2=_
  rw [show ((0:Int):Rat)=0 by decide +kernel];grind
theorem zok (s:St) (v:Nat→Rat):sm 3 (fun j=>e (inn s) 1 j*v j)=(s.f:Rat)*v 1+(s.v:Rat)*v 2:=by
  rw [sm3];unfold inn
  rw [K6 _ Od Od,K6 _ Od Od,K6 _ Od Od]
  show ((0:Int):Rat)*v 0+((s.f:Int):Rat)*v 1+((s.v:Int):Rat)*v 2=_
  rw [show ((0:Int):Rat)=0 by decide +kernel];grind
theorem zol (s:St) (v:Nat→Rat):sm 3 (fun j=>e (inn s) 2 j*v j)=v 2:=by
  rw [sm3];unfold inn
  rw [K6 _ Od Od,K6 _ Od Od,K6 _ Od Od]
  show ((0:Int):Rat)*v 0+((0:Int):Rat)*v 1+((1:Int):Rat)*v 2=_
  rw [show ((0:Int):Rat)=0 by decide +kernel,show ((1:Int):Rat)=1 by decide +kernel];grind
theorem zqz {s:St} (h:1≤s.f):∀v:Nat→Rat,(∀i,i<3→sm 3 (fun j=>e (inn s) i j*v j)=0)→∀i,i<3→v i=0:=fun v hv i hi=>by
  have h0:=hv 0 Od;have h1:=hv 1 Od;have h2:=hv 2 Od
  rw [zoj] at h0;rw [zok] at h1;rw [zol] at h2
  have hf:(s.f:Rat)≠0:=fun z=>by have:=yP.1 (z.trans (show (0:Rat)=((0:Int):Rat) by decide +kernel));omega
  have key:∀w:Rat,(s.f:Rat)*w=0→w=0:=fun w hw=>(yG.1 hw).resolve_left hf
  rcases n3 hi with rfl|rfl|rfl
  · exact key _ (by rw [h2] at h0;grind)
  · exact key _ (by rw [h2] at h1;grind)
  · exact h2
end Ro
namespace Ro
open Mx Big
abbrev Jp (l:List Rat) (i:Nat):Int:=(((l.getD i 0).den:Nat):Int)
def lc (l:List Rat):Nat→Int
  |0=>1
  |i+1=>lc l i*fq (Jp l i) ((yae (lc l i).natAbs (Jp l i).natAbs:Nat):Int)
def sc (l:List Rat) (i:Nat):Int:=(l.getD i 0).num*fq (lc l l.length) (Jp l i)
def ct (l:List Rat):Nat→Int
  |0=>0
  |i+1=>((yae (ct l i).natAbs (sc l i).natAbs:Nat):Int)
def ldg (l:List Rat):Nat→Int
  |0=>0
  |i+1=>if (ldg l i).sign=0 then sc l i else ldg l i
def cc (l:List Rat):Int:=if (ldg l l.length).sign<0 then -ct l l.length else ct l l.length
def scs (l:List Rat) (i:Nat):List Int:=(yZ i).map (sc l)
def Qi (l:List Rat) (i:Nat):List Int:=(yZ l.length).map fun k=>if k<i then fq (sc l k) (cc l) else sc l k
def jN (l:List Rat):List Int:=(yZ l.length).map fun k=>fq (sc l k) (cc l)
theorem Kq (l:List Rat) (i:Nat):1≤Jp l i:=by have:=(l.getD i 0).den_pos;unfold Jp;omega
theorem zaO (x:Int) (l:List Rat) (i:Nat):1≤((yae x.natAbs (Jp l i).natAbs:Nat):Int):=by
  have:=Kq l i
  have:=Nat.gcd_pos_of_pos_right x.natAbs (show 0<(Jp l i).natAbs by omega)
  omega
theorem zrU (x:Int) (l:List Rat) (i:Nat):Jp l i=((yae x.natAbs (Jp l i).natAbs:Nat):Int)*fq (Jp l i) ((yae x.natAbs (Jp l i).natAbs:Nat):Int):=by
  obtain ⟨k,hk⟩:=Nat.gcd_dvd_right x.natAbs (Jp l i).natAbs
  have h0:=Kq l i;have h1:=zaO x l i
  have e:Jp l i=((yae x.natAbs (Jp l i).natAbs:Nat):Int)*(k:Int):=by
    rw [← Int.natCast_mul,←hk];omega
  rw [zcD Oo e];exact e
theorem zs8 (x:Int) (l:List Rat) (i:Nat):1≤fq (Jp l i) ((yae x.natAbs (Jp l i).natAbs:Nat):Int):=by
  have h:=zrU x l i;have h0:=Kq l i;have h1:=zaO x l i
  rcases Int.lt_or_le 0 (fq (Jp l i) ((yae x.natAbs (Jp l i).natAbs:Nat):Int)) with k|k
  · omega
  · have := Int.mul_nonpos_of_nonneg_of_nonpos (show 0 ≤ ((yae x.natAbs (Jp l i).natAbs : Nat) : Int) by omega) k
    omega
theorem zfo (l:List Rat):∀i,1≤lc l i
  |0=>by show (1:Int)≤1;decide
  |i+1=>by
    have h:=zfo l i;have h2:=zs8 (lc l i) l i
    show 1≤lc l i*_
    have:=Int.mul_pos (show 0<lc l i by omega) (show 0<fq (Jp l i) ((yae (lc l i).natAbs (Jp l i).natAbs:Nat):Int) by omega)
    omega
theorem zom (l:List Rat):∀i j,j<i→Jp l j∣lc l i
  |0,j,h=>by omega
  |i+1,j,h=>by
    show Jp l j∣lc l i*_
    by_cases e:j=i
    · subst e
      obtain ⟨k,hk⟩:=Nat.gcd_dvd_left (lc l j).natAbs (Jp l j).natAbs
      have h0:=zfo l j
      have e1:lc l j=((yae (lc l j).natAbs (Jp l j).natAbs:Nat):Int)*(k:Int):=by rw [← Int.natCast_mul,←hk];omega
      have e2:=zrU (lc l j) l j
      generalize ((yae (lc l j).natAbs (Jp l j).natAbs:Nat):Int)=g at*
      refine ⟨k,?_⟩
      conv=>lhs;rw [e1]
      conv=>rhs;rw [e2]
      rw [Int.mul_assoc,Int.mul_assoc,Int.mul_comm (k:Int)]
    · exact Int.dvd_trans (zom l i j Oo) (Int.dvd_mul_right _ _)
theorem zon {l:List Rat} {K:Nat} (h:∀i,hq (l.getD i 0)≤K) (i:Nat):ln (Jp l i)≤K:=yah (jm _) (h i)
theorem zrV {l:List Rat} {K:Nat} (h:∀i,hq (l.getD i 0)≤K) (i:Nat):ln (l.getD i 0).num≤K:=yah (v9 _) (h i)
theorem ziu {l:List Rat} {K:Nat} (h:∀i,hq (l.getD i 0)≤K) (i:Nat):ln (fq (Jp l i) ((yae (lc l i).natAbs (Jp l i).natAbs:Nat):Int))≤K+2:=by
  have:=zf5 (x:=Jp l i) (show ((yae (lc l i).natAbs (Jp l i).natAbs:Nat):Int)≠0 by have:=zaO (lc l i) l i;omega)
  have:=zon h i;omega
theorem zgO {l:List Rat} {K:Nat} (h:∀i,hq (l.getD i 0)≤K):∀i,ln (lc l i)≤1+i*(K+2)
  |0=>by show ln 1≤_;rw [zhM];omega
  |i+1=>by
    have:=zgO h i
    have:=qI (lc l i) (fq (Jp l i) ((yae (lc l i).natAbs (Jp l i).natAbs:Nat):Int))
    have:=ziu h i
    show ln (lc l i*_)≤_
    rw [Nat.succ_mul];omega
theorem zoo {l:List Rat} {K:Nat} (h:∀i,hq (l.getD i 0)≤K) (i:Nat):ln (sc l i)≤3+K+l.length*(K+2):=by
  have:=qI (l.getD i 0).num (fq (lc l l.length) (Jp l i))
  have:=zf5 (x:=lc l l.length) (show Jp l i≠0 by have:=Kq l i;omega)
  have:=zgO h l.length;have:=zrV h i
  unfold sc;omega
theorem zgP {l:List Rat} {B:Nat} (h:∀i,ln (sc l i)≤B):∀i,ln (ct l i)≤B
  |0=>by show ln 0≤B;rw [VC];omega
  |i+1=>by
    have h1:=zgP h i
    by_cases e:sc l i=0
    · have : ct l (i + 1) = ((ct l i).natAbs : Int) := by show ((yae _ (sc l i).natAbs : Nat) : Int) = _; rw [e]; simp
      rw [this]
      have:ln (((ct l i).natAbs:Nat):Int)≤ln (ct l i):=zag Oo
      omega
    · exact yah (KQ e) (h i)
theorem zuy {l:List Rat} {B:Nat} (h:∀i,ln (sc l i)≤B):ln (cc l)≤B:=by
  unfold cc;split
  · rw [j6];exact zgP h _
  · exact zgP h _
theorem ziv (l:List Rat):∀i j,j<i→ct l i∣sc l j
  |0,j,h=>by omega
  |i+1,j,h=>by
    by_cases e:j=i
    · subst e
      exact Int.natAbs_dvd_natAbs.1 (by show (yae (ct l j).natAbs (sc l j).natAbs)∣_;exact Nat.gcd_dvd_right _ _)
    · refine Int.dvd_trans ?_ (ziv l i j Oo)
      exact Int.natAbs_dvd_natAbs.1 (by show (yae (ct l i).natAbs (sc l i).natAbs)∣_;exact Nat.gcd_dvd_left _ _)
theorem zop {l:List Rat} {j:Nat} (h:j<l.length):cc l∣sc l j:=by
  unfold cc;split
  · exact Int.neg_dvd.2 (ziv l _ j h)
  · exact ziv l _ j h
theorem zoq {l:List Rat} {i:Nat} (h:i<l.length):((sc l i:Int):Rat)=l.getD i 0*((lc l l.length:Int):Rat):=by
  obtain ⟨k,hk⟩:=zom l l.length i h
  have h0:=Kq l i
  have e1:fq (lc l l.length) (Jp l i)=k:=zcD Oo hk
  have hd:((Jp l i:Int):Rat)≠0:=fun z=>by have:=yP.1 (z.trans (show (0:Rat)=((0:Int):Rat) by decide +kernel));omega
  have e2:l.getD i 0*((Jp l i:Int):Rat)=(((l.getD i 0).num:Int):Rat):=by
    have:l.getD i 0=(((l.getD i 0).num:Int):Rat) / ((Jp l i:Int):Rat):=by
      conv=>lhs;rw [← yam (l.getD i 0)]
      rw [yS]
    conv=>lhs;rw [this]
    rw [yap,yad,Rat.inv_mul_cancel _ hd,yat]
  unfold sc
  rw [e1,hk,yC,yC,←e2,yad]
theorem zor {l:List Rat} (h:∃i,i<l.length∧l.getD i 0≠0):cc l≠0:=fun z=>by
  obtain ⟨i,hi,hn⟩:=h
  have h1:=zop hi
  rw [z] at h1
  have h2:=Int.zero_dvd.1 h1
  have h3:=zoq hi
  rw [h2,show ((0:Int):Rat)=0 by decide +kernel] at h3
  have hl:((lc l l.length:Int):Rat)≠0:=fun y=>by have:=yP.1 (y.trans (show (0:Rat)=((0:Int):Rat) by decide +kernel));have:=zfo l l.length;omega
  rcases yG.1 h3.symm with k|k
  · exact hn k
  · exact hl k
theorem zaP (l:List Rat):(jN l).length=l.length:=by unfold jN;simp
theorem rgD {β:Type} {f:Nat→β} {n i:Nat} {d:β} (h:i<n):((yZ n).map f).getD i d=f i:=by
  rw [yx,yac,yar h];rfl
theorem zgQ {l:List Rat} {i:Nat} (h:i<l.length):(jN l).getD i 0=fq (sc l i) (cc l):=by unfold jN;rw [rgD h]
theorem zos {l:List Rat} (h:∃i,i<l.length∧l.getD i 0≠0):∃k:Rat,k≠0∧∀i,i<l.length→(((jN l).getD i 0:Int):Rat)=k*l.getD i 0:=by
  have hc:=zor h
  have hcr:((cc l:Int):Rat)≠0:=fun z=>hc (yP.1 (z.trans (show (0:Rat)=((0:Int):Rat) by decide +kernel)))
  have hl:((lc l l.length:Int):Rat)≠0:=fun y=>by have:=yP.1 (y.trans (show (0:Rat)=((0:Int):Rat) by decide +kernel));have:=zfo l l.length;omega
  refine ⟨((lc l l.length:Int):Rat)*((cc l:Int):Rat)⁻¹,?_,fun i hi=> ?_⟩
  · intro z
    rcases yG.1 z with k|k
    · exact hl k
    · have:=yag _ hcr;rw [k] at this;grind
  · obtain ⟨k, hk⟩ := zop hi
    rw [zgQ hi,zcD hc hk]
    have h2:=zoq hi
    rw [hk,yC] at h2
    have h3:=yag _ hcr
    generalize ((cc l:Int):Rat)=x at*
    generalize ((lc l l.length:Int):Rat)=y at*
    have:(k:Rat)=(x*x⁻¹)*(k:Rat):=by rw [h3];grind
    rw [this,show x*x⁻¹ *(k:Rat)=(x*(k:Rat))*x⁻¹ by grind,h2];grind
theorem zkf {l:List Rat} {B:Nat} (h0:∃i,i<l.length∧l.getD i 0≠0) (h:∀i,ln (sc l i)≤B) (i:Nat):ln ((jN l).getD i 0)≤B+2:=by
  by_cases hi:i<l.length
  · rw [zgQ hi];have:=zf5 (x:=sc l i) (zor h0);have:=h i;omega
  · rw [yx,yz (by rw [zaP];omega)];show ln 0≤_;rw [VC];omega
theorem zqA (l:List Rat) (i:Nat):(scs l i).length=i:=by unfold scs;simp
theorem zgR (l:List Rat) (i:Nat):scs l i++[sc l i]=scs l (i+1):=by unfold scs;rw [yas,yao];rfl
theorem zfp (l:List Rat):scs l l.length=Qi l 0:=by unfold scs Qi;simp
theorem Vw (l:List Rat) (i:Nat):(Qi l i).length=l.length:=by unfold Qi;simp
theorem ziw {l:List Rat} {i:Nat} (h:i<l.length):(Qi l i).getD i 0=sc l i:=by unfold Qi;rw [rgD h,if_neg Oo]
theorem zrW {l:List Rat} {i:Nat} (h:i<l.length):(Qi l i).set i (fq (sc l i) (cc l))=Qi l (i+1):=by
  apply yaq
  intro k
  by_cases hk:k<l.length
  · rw [List.getElem?_set, Vw]
    unfold Qi
    rw [yac,yac,yar hk]
    by_cases e:i=k
    · subst e;rw [if_pos rfl,if_pos h];show some _=some _;dsimp only;rw [if_pos Oo]
    · rw [if_neg e]; show some _ = some _
      dsimp only
      by_cases e2:k<i
      · rw [if_pos e2,if_pos Oo]
      · rw [if_neg e2,if_neg Oo]
  · rw [yz (by rw [List.length_set,Vw];omega),yz (by rw [Vw];omega)]
theorem zix (l:List Rat):Qi l l.length=jN l:=by
  unfold Qi jN
  exact yH fun k hk=>if_pos (yaf.1 hk)
theorem zuz (x:Int):yD x 1=((x:Int):Rat):=by
  rw [yS,show ((1:Int):Rat)=1 by decide +kernel,yap]
  have:(1:Rat)⁻¹ =1:=Oz
  rw [this,yat]
def ZM (l:List Int):List Rat:=l.map fun z:Int=>(z:Rat)
theorem zdg (l:List Int):(ZM l).length=l.length:=by unfold ZM;simp
theorem zlk {l:List Int} {i:Nat} (h:i<l.length):ZM (l.take i)++[((l.getD i 0:Int):Rat)]=ZM (l.take (i+1)):=zaL (f:=fun z:Int=>(z:Rat)) h
theorem zgS {l:List Int} {i:Nat}:(ZM l).getD i 0=((l.getD i 0:Int):Rat):=by
  unfold ZM
  rw [yx,yac,yx]
  cases l[i]? with
  |none=>show (0:Rat)=((0:Int):Rat);decide +kernel
  |some z=>rfl
end Ro
namespace Ro
open Mx Big Td
theorem z0:((0:Int):Rat)=0:=Oz
theorem i1:((1:Int):Rat)=1:=Oz
theorem int_ne {z:Int} (h:z≠0):((z:Int):Rat)≠0:=fun e=>h (yP.1 (e.trans z0.symm))
def kin (s:St):Mt:=yl 3 3 fun i j=>if i=j then (if i=2 then 1 else yD 1 s.f) else if j=2 then (if i=0 then yD (-s.u) s.f else if i=1 then yD (-s.v) s.f else 0) else 0
theorem zdh (s:St):m33 (kin s):=zqv _
theorem zaQ (s:St) {i j:Nat} (hi:i<3) (hj:j<3):e (kin s) i j=if i=j then (if i=2 then 1 else yD 1 s.f) else if j=2 then (if i=0 then yD (-s.u) s.f else if i=1 then yD (-s.v) s.f else 0) else 0:=Mx.zbK hi hj
theorem zuA {A B:Mt} (hA:m33 A) (hB:m33 B) (h:∀i j,i<3→j<3→e A i j=e B i j):A=B:=by
  rw [← zfl hA.l hA.r,←zfl hB.l hB.r]
  unfold yl
  apply yH
  intro i hi
  apply yH
  intro j hj
  exact h i j (yaf.1 hi) (yaf.1 hj)
theorem dvf {s:St} (h:1≤s.f) (z:Int):(s.f:Rat)*yD z s.f=(z:Rat):=by
  have hf:=int_ne (show s.f≠0 by omega)
  rw [yS,yap,←yad,Rat.mul_comm (s.f:Rat),yad,yag _ hf,yat]
theorem zqB {s:St} (h:1≤s.f) {j:Nat} (hj:j<3):∀i,i<3→sm 3 (fun t=>e (inn s) i t*e (kin s) t j)=if i=j then 1 else 0:=fun i hi=>by
  have a:=dvf h 1;have b:=dvf h (-s.u);have c:=dvf h (-s.v)
  rw [i1] at a;rw [yab] at b c
  rcases n3 hi with rfl|rfl|rfl
  · rw [zoj, zaQ s Od hj, zaQ s Od hj]
    rcases n3 hj with rfl|rfl|rfl <;> simp <;> grind
  · rw [zok, zaQ s Od hj, zaQ s Od hj]
    rcases n3 hj with rfl|rfl|rfl <;> simp <;> grind
  · rw [zol, zaQ s Od hj]
    rcases n3 hj with rfl|rfl|rfl <;> simp
theorem zqC {s:St} {B:Mt} {k:Nat} (h:1≤s.f) (hB:Td.Inv (inn s) B 3 k):B=kin s:=by
  refine zuA ⟨hB.l,hB.r⟩ (zdh s) fun i j hi hj=> ?_
  have h1:=hB.s (fun t=>e (kin s) t j) (fun i=>if i=j then 1 else 0) (zqB h hj) i hi
  rw [← h1,sm3]
  rcases n3 hj with rfl|rfl|rfl <;> simp <;> grind
theorem zfr {z f:Int} (h1: -1000000≤z∧z≤1000000) (h2:1≤f∧f≤1000000):hq (yD z f)≤1:=by
  have a:=Zr (n:=z) (d:=f) Oo
  have hp:yu 1=1000000000:=Oz
  have b:ln z≤1:=Kv (k:=1) (by rw [hp];omega) (by rw [hp];omega)
  have c:ln f≤1:=Kv (k:=1) (by rw [hp];omega) (by rw [hp];omega)
  omega
theorem zot {s:St} (h:s.ok):yn (kin s) 1:=zgN (zdh s) Od fun i j hi hj=>by
  obtain ⟨-,h1,-,⟨hu,hv,hf⟩,-⟩:=h
  unfold s5 at hu hv hf
  rw [zaQ s hi hj]
  split
  · split
    · decide
    · exact zfr Od Oo
  · split
    · split
      · exact zfr Oo Oo
      · split
        · exact zfr Oo Oo
        · decide
    · decide
theorem zdi (a b c d:Int):m33 (QK a b c d):=⟨rfl,fun i hi=>zqu hi⟩
theorem zrX (a b c d:Int) {i j:Nat} (hi:i<3) (hj:j<3):e (QK a b c d) i j=yD ((tl ((QQ a b c d).getD i (0,0,0))).getD j 0) (Ko a b c d):=by
  rcases n3 hi with rfl|rfl|rfl <;> rcases n3 hj with rfl|rfl|rfl <;> rfl
theorem zs9 {a b c d:Int} (h0:¬(a=0∧b=0∧c=0∧d=0)) (ha:s5 a) (hb:s5 b) (hc:s5 c) (hd:s5 d):yn (QK a b c d) 1:=zgN (zdi a b c d) Od fun i j hi hj=>by
  rw [zrX a b c d hi hj]
  have h1:=Wt h0;have h2:=zde ha hb hc hd
  have h3:=zod (zdf ha hb hc hd hi) j
  have a9:=Zr (n:=(tl ((QQ a b c d).getD i (0,0,0))).getD j 0) (d:=Ko a b c d) Oo
  have hp:yu 1=1000000000:=Oz
  have h3': -1500000≤(tl ((QQ a b c d).getD i (0,0,0))).getD j 0∧(tl ((QQ a b c d).getD i (0,0,0))).getD j 0≤1500000:=h3
  have b9:ln ((tl ((QQ a b c d).getD i (0,0,0))).getD j 0)≤1:=Kv (k:=1) (by rw [hp];omega) (by rw [hp];omega)
  have c9:ln (Ko a b c d)≤1:=Kv (k:=1) (by rw [hp];omega) (by rw [hp];omega)
  omega
def crs (s t:St):Mt:=ofI [[0,-(t.z - s.z),t.y - s.y],[t.z - s.z,0,-(t.x - s.x)],[-(t.y - s.y),t.x - s.x,0]]
theorem zuB (s t:St):m33 (crs s t):=zoh _
theorem zta {s t:St} (hs:s.ok) (ht:t.ok):yn (crs s t) 1:=zoi fun i j hi hj=>by
  obtain ⟨-,-,⟨h1,h2,h3⟩,-,-⟩:=hs
  obtain ⟨-,-,⟨k1,k2,k3⟩,-,-⟩:=ht
  unfold s5 at h1 h2 h3 k1 k2 k3
  rcases n3 hi with rfl|rfl|rfl <;> rcases n3 hj with rfl|rfl|rfl
  · show (-1000000:Int)≤0∧(0:Int)≤1000000;omega
  · show -1000000≤ -(t.z - s.z)∧ -(t.z - s.z)≤1000000;omega
  · show -1000000≤t.y - s.y∧t.y - s.y≤1000000;omega
  · show -1000000≤t.z - s.z∧t.z - s.z≤1000000;omega
  · show (-1000000:Int)≤0∧(0:Int)≤1000000;omega
  · show -1000000≤ -(t.x - s.x)∧ -(t.x - s.x)≤1000000;omega
  · show -1000000≤ -(t.y - s.y)∧ -(t.y - s.y)≤1000000;omega
  · show -1000000≤t.x - s.x∧t.x - s.x≤1000000;omega
  · show (-1000000:Int)≤0∧(0:Int)≤1000000;omega
abbrev K7 (s:St):Mt:=QK s.a s.b s.c s.d
def fmL (s t:St):List Mt:=[V1 (K7 t),crs s t,K7 s,kin s]
def fm (s t:St):Mt:=pr (V1 (kin t)) (fmL s t)
def Vx (s t:St):List Rat:=(fm s t).flatten
theorem four {P:Mt→Prop} {a b c d:Mt} (ha:P a) (hb:P b) (hc:P c) (hd:P d):∀i,i<([a,b,c,d]:List Mt).length→P (([a,b,c,d]:List Mt).getD i []):=fun i hi=>by
  have hi:i<4:=hi
  have:i=0∨i=1∨i=2∨i=3:=Oo
  rcases this with rfl|rfl|rfl|rfl
  · exact ha
  · exact hb
  · exact hc
  · exact hd
theorem zb9 {s:St} (h:s.ok):yn (K7 s) 1:=zs9 h.q h.p.2.2.1 h.p.2.2.2.1 h.p.2.2.2.2.1 h.p.2.2.2.2.2
theorem zuD (s t:St):∀i,i<(fmL s t).length→m33 ((fmL s t).getD i []):=four (zaN _) (zuB s t) (zdi ..) (zdh s)
theorem zou {s t:St} (hs:s.ok) (ht:t.ok):∀i,i<(fmL s t).length→yn ((fmL s t).getD i []) 400:=
  four (P:=fun A=>yn A 400) ((zfn Od (zb9 ht)).up Od) ((zta hs ht).up Od) ((zb9 hs).up Od) ((zot hs).up Od)
theorem zov {t:St} (ht:t.ok):yn (V1 (kin t)) 400:=(zfn Od (zot ht)).up Od
theorem zqD (s t:St):m33 (fm s t):=zqw (zaN _) _
theorem zuE {s t:St} (hs:s.ok) (ht:t.ok):yn (fm s t) 100000:=(zog (zov ht) (zou hs ht) 4 (yJ 4)).up Od
theorem zfs {A:Mt} (h:m33 A):A.flatten.length=9∧∀i j,i<3→j<3→A.flatten.getD (3*i+j) 0=e A i j:=by
  obtain ⟨hl,hr⟩:=h
  match A,hl,hr with
  |[a,b,c],_,hr=>
    have ha:a.length=3:=hr 0 Od
    have hb:b.length=3:=hr 1 Od
    have hc:c.length=3:=hr 2 Od
    match a,b,c,ha,hb,hc with
    |[a0,a1,a2],[b0,b1,b2],[c0,c1,c2],_,_,_=>
      refine ⟨rfl,fun i j hi hj=> ?_⟩
      rcases n3 hi with rfl|rfl|rfl <;> rcases n3 hj with rfl|rfl|rfl <;> rfl
theorem JC (s t:St):(Vx s t).length=9:=(zfs (zqD s t)).1
theorem zca (s t:St) {i j:Nat} (hi:i<3) (hj:j<3):(Vx s t).getD (3*i+j) 0=e (fm s t) i j:=(zfs (zqD s t)).2 i j hi hj
theorem zow {s t:St} (hs:s.ok) (ht:t.ok) (i:Nat):hq ((Vx s t).getD i 0)≤100000:=by
  by_cases h:i<9
  · have := zca s t (show i / 3 < 3 by omega) (show i % 3 < 3 by omega)
    rw [show 3*(i / 3)+i%3=i by omega] at this
    rw [this];exact zuE hs ht _ _
  · rw [yx,yz (by rw [JC];omega)];show hq 0≤_;decide
def app (A:Mt) (v:Nat→Rat) (i:Nat):Rat:=sm 3 (fun j=>e A i j*v j)
def dt3 (u v:Nat→Rat):Rat:=u 0*v 0+u 1*v 1+u 2*v 2
theorem W0 (A:Mt) (v:Nat→Rat) (i:Nat):app A v i=e A i 0*v 0+e A i 1*v 1+e A i 2*v 2:=sm3 _
theorem ZY {A:Mt} {v w:Nat→Rat} (h:∀j,j<3→v j=w j) (i:Nat):app A v i=app A w i:=by
  rw [W0,W0,h 0 Od,h 1 Od,h 2 Od]
theorem zbk {u v w:Nat→Rat} (h:∀j,j<3→v j=w j):dt3 u v=dt3 u w:=by
  unfold dt3;rw [h 0 Od,h 1 Od,h 2 Od]
theorem W2 {u v w:Nat→Rat} (h:∀j,j<3→v j=w j):dt3 v u=dt3 w u:=by
  unfold dt3;rw [h 0 Od,h 1 Od,h 2 Od]
theorem zcb (A B:Mt) (v:Nat→Rat) {i:Nat} (hi:i<3):app (zdx A B) v i=app A (app B v) i:=by
  simp only [W0]
  rw [zfm A B hi Od,zfm A B hi Od,zfm A B hi Od]
  grind
theorem zox (A:Mt) (p w:Nat→Rat):dt3 p (app (V1 A) w)=dt3 (app A p) w:=by
  simp only [dt3,W0]
  rw [Q8 A (i:=0) (j:=0) Od Od,Q8 A (i:=0) (j:=1) Od Od,Q8 A (i:=0) (j:=2) Od Od,Q8 A (i:=1) (j:=0) Od Od,Q8 A (i:=1) (j:=1) Od Od,Q8 A (i:=1) (j:=2) Od Od,Q8 A (i:=2) (j:=0) Od Od,Q8 A (i:=2) (j:=1) Od Od,Q8 A (i:=2) (j:=2) Od Od]
  grind
theorem zuF (s:St) (v:Nat→Rat):app (inn s) v 0=(s.f:Rat)*v 0+(s.u:Rat)*v 2:=zoj s v
theorem zuG (s:St) (v:Nat→Rat):app (inn s) v 1=(s.f:Rat)*v 1+(s.v:Rat)*v 2:=zok s v
theorem zuH (s:St) (v:Nat→Rat):app (inn s) v 2=v 2:=zol s v
theorem zft {s:St} (h:1≤s.f) (q:Nat→Rat):∀i,i<3→app (kin s) (app (inn s) q) i=q i:=fun i hi=>by
  have a:=dvf h 1;have b:=dvf h (-s.u);have c:=dvf h (-s.v)
  rw [i1] at a;rw [yab] at b c
  have hf:=int_ne (show s.f≠0 by omega)
  have eb:yD (-s.u) s.f= -(s.u:Rat)*yD 1 s.f:=by
    have:(s.f:Rat)*(yD (-s.u) s.f - -(s.u:Rat)*yD 1 s.f)=0:=Og
    have:=(yG.1 this).resolve_left hf
    grind
  have ec:yD (-s.v) s.f= -(s.v:Rat)*yD 1 s.f:=by
    have:(s.f:Rat)*(yD (-s.v) s.f - -(s.v:Rat)*yD 1 s.f)=0:=Og
    have:=(yG.1 this).resolve_left hf
    grind
  rw [W0,zuF,zuG,zuH,zaQ s hi Od,zaQ s hi Od,zaQ s hi Od]
  rcases n3 hi with rfl|rfl|rfl <;> simp <;> grind
theorem zea {a b c d:Int} (i j:Nat) (hi:i<3) (hj:j<3):e (QK a b c d) i j=(((tl ((QQ a b c d).getD i (0,0,0))).getD j 0:Int):Rat)*((Ko a b c d:Int):Rat)⁻¹ :=by
  rw [zrX a b c d hi hj,yS,yap]
theorem zoy {a b c d:Int} (h:¬(a=0∧b=0∧c=0∧d=0)) {i k:Nat} (hi:i<3) (hk:k<3):
    e (QK a b c d) i 0*e (QK a b c d) k 0+e (QK a b c d) i 1*e (QK a b c d) k 1+e (QK a b c d) i 2*e (QK a b c d) k 2=if i=k then 1 else 0:=by
  have hn:=int_ne (show Ko a b c d≠0 by have:=Wt h;omega)
  have hw:=yag _ hn
  rw [zea i 0 hi Od,zea i 1 hi Od,zea i 2 hi Od,zea k 0 hk Od,zea k 1 hk Od,zea k 2 hk Od]
  have hN:((Ko a b c d:Int):Rat)=(a:Rat)*a+(b:Rat)*b+(c:Rat)*c+(d:Rat)*d:=by unfold Ko;simp only [yV,yC]
  generalize ((Ko a b c d:Int):Rat)⁻¹ =w at hw ⊢
  rw [hN] at hw
  have key:∀x0 x1 x2 y0 y1 y2 m:Rat,x0*y0+x1*y1+x2*y2=m→x0*w*(y0*w)+x1*w*(y1*w)+x2*w*(y2*w)=m*(w*w):=fun x0 x1 x2 y0 y1 y2 m hm=>by rw [← hm];grind
  have n2:((a:Rat)*a+(b:Rat)*b+(c:Rat)*c+(d:Rat)*d)*((a:Rat)*a+(b:Rat)*b+(c:Rat)*c+(d:Rat)*d)*(w*w)=1:=by
    generalize (a:Rat)*a+(b:Rat)*b+(c:Rat)*c+(d:Rat)*d=n at hw
    have:n*n*(w*w)=(n*w)*(n*w):=Og
    rw [this,hw];grind
  have two:((2:Int):Rat)=2:=Oz
  have one:∀m:Rat,m=((a:Rat)*a+(b:Rat)*b+(c:Rat)*c+(d:Rat)*d)*((a:Rat)*a+(b:Rat)*b+(c:Rat)*c+(d:Rat)*d)→m*(w*w)=1:=fun m hm=>by rw [hm];exact n2
  have zero:∀m:Rat,m=0→m*(w*w)=0:=fun m hm=>by rw [hm];grind
  rcases n3 hi with rfl|rfl|rfl <;> rcases n3 hk with rfl|rfl|rfl <;> rw [key _ _ _ _ _ _ _ rfl] <;> first|rw [if_pos rfl]|rw [if_neg Od]
  all_goals simp only [QQ,tl,yak,yal,yV,yan,yC,two]
  all_goals first|exact one _ Og|exact zero _ Og
theorem ziy {a b c d:Int} (h:¬(a=0∧b=0∧c=0∧d=0)) (z:Nat→Rat):∀i,i<3→app (QK a b c d) (app (V1 (QK a b c d)) z) i=z i:=fun i hi=>by
  have o:=fun k (hk:k<3)=>zoy h hi hk
  have o0:=o 0 Od;have o1:=o 1 Od;have o2:=o 2 Od
  simp only [W0]
  rw [Q8 _ (i:=0) (j:=0) Od Od,Q8 _ (i:=0) (j:=1) Od Od,Q8 _ (i:=0) (j:=2) Od Od,Q8 _ (i:=1) (j:=0) Od Od,Q8 _ (i:=1) (j:=1) Od Od,Q8 _ (i:=1) (j:=2) Od Od,Q8 _ (i:=2) (j:=0) Od Od,Q8 _ (i:=2) (j:=1) Od Od,Q8 _ (i:=2) (j:=2) Od Od]
  generalize e (QK a b c d) i 0=x0 at*
  generalize e (QK a b c d) i 1=x1 at*
  generalize e (QK a b c d) i 2=x2 at*
  have e1:∀(p00 p01 p02 p10 p11 p12 p20 p21 p22:Rat),x0*(p00*z 0+p10*z 1+p20*z 2)+x1*(p01*z 0+p11*z 1+p21*z 2)+x2*(p02*z 0+p12*z 1+p22*z 2)=(x0*p00+x1*p01+x2*p02)*z 0+(x0*p10+x1*p11+x2*p12)*z 1+(x0*p20+x1*p21+x2*p22)*z 2:=fun p00 p01 p02 p10 p11 p12 p20 p21 p22=>by grind
  rw [e1,o0,o1,o2]
  rcases n3 hi with rfl|rfl|rfl <;> simp <;> grind
def Jq (s:St) (v:Nat→Rat):Nat→Rat:=app (inn s) (app (V1 (K7 s)) v)
theorem zoz {s t:St} (hs:s.ok) (v:Nat→Rat):∀i,i<3→app (fm s t) (Jq s v) i=app (V1 (kin t)) (app (V1 (K7 t)) (app (crs s t) v)) i:=fun i hi=>by
  have h1:app (fm s t) (Jq s v) i=app (zdx (zdx (zdx (V1 (kin t)) (V1 (K7 t))) (crs s t)) (K7 s)) (app (kin s) (Jq s v)) i:=zcb _ _ _ hi
  rw [h1,zcb _ _ _ hi,zcb _ _ _ hi,zcb _ _ _ hi]
  refine ZY (fun j _=>ZY (fun k _=>ZY (fun l hl=> ?_) k) j) i
  show app (K7 s) (app (kin s) (app (inn s) (app (V1 (K7 s)) v))) l=v l
  rw [ZY (A:=K7 s) (zft hs.f1 (app (V1 (K7 s)) v)) l]
  exact ziy hs.q v l hl
theorem zoA {s t:St} (hs:s.ok) (ht:t.ok) (u v:Nat→Rat):dt3 (Jq t u) (app (fm s t) (Jq s v))=dt3 u (app (crs s t) v):=by
  rw [zbk (zoz hs v),zox]
  show dt3 (app (kin t) (app (inn t) (app (V1 (K7 t)) u))) _=_
  rw [W2 (zft ht.f1 (app (V1 (K7 t)) u)),zox]
  exact W2 (ziy ht.q u)
theorem zaR (s t:St) (v:Nat→Rat):app (crs s t) v 0= -((t.z:Rat) - s.z)*v 1+((t.y:Rat) - s.y)*v 2∧app (crs s t) v 1=((t.z:Rat) - s.z)*v 0 - ((t.x:Rat) - s.x)*v 2∧app (crs s t) v 2= -((t.y:Rat) - s.y)*v 0+((t.x:Rat) - s.x)*v 1:=by
  have g:∀i j,i<3→j<3→e (crs s t) i j=_:=fun i j hi hj=>K6 _ hi hj
  refine ⟨?_,?_,?_⟩
  · rw [W0, g 0 0 Od Od, g 0 1 Od Od, g 0 2 Od Od]
    simp only [yak,yal,yab,yan,z0];grind
  · rw [W0, g 1 0 Od Od, g 1 1 Od Od, g 1 2 Od Od]
    simp only [yak,yal,yab,yan,z0];grind
  · rw [W0, g 2 0 Od Od, g 2 1 Od Od, g 2 2 Od Od]
    simp only [yak,yal,yab,yan,z0];grind
def uv (k:Nat):Nat→Rat:=fun j=>if j=k then 1 else 0
theorem zbl {a b:Int} (h:((a:Rat) - b)=0):b=a:=yP.1 Og
theorem zfu {s t:St} (hs:s.ok) (ht:t.ok) (hne:¬(s.x=t.x∧s.y=t.y∧s.z=t.z)):∃i,i<(Vx s t).length∧(Vx s t).getD i 0≠0:=by
  refine yM fun hn=>hne ?_
  have h0:∀i j,i<3→j<3→e (fm s t) i j=0:=fun i j hi hj=>by
    rw [← zca s t hi hj]
    exact yM fun k=>hn ⟨3*i+j,by rw [JC];omega,k⟩
  have h1:∀u v:Nat→Rat,dt3 u (app (crs s t) v)=0:=fun u v=>by
    rw [← zoA hs ht]
    have:∀j,j<3→app (fm s t) (Jq s v) j=(fun _=>0) j:=fun j hj=>by
      rw [W0,h0 j 0 hj Od,h0 j 1 hj Od,h0 j 2 hj Od];grind
    rw [zbk this];unfold dt3;grind
  have a1:=h1 (uv 0) (uv 2);have a2:=h1 (uv 1) (uv 0);have a3:=h1 (uv 2) (uv 1)
  unfold dt3 at a1 a2 a3
  rw [(zaR s t _).1,(zaR s t _).2.1,(zaR s t _).2.2] at a1 a2 a3
  simp only [uv] at a1 a2 a3
  refine ⟨zbl (a:=t.x) (b:=s.x) ?_,zbl (a:=t.y) (b:=s.y) ?_,zbl (a:=t.z) (b:=s.z) ?_⟩
  · simp at a3;grind
  · simp at a1;grind
  · simp at a2;grind
theorem Jk {K N:Nat} {f g:Nat→Nat→Rat} (h:∀i j,i<K→j<N→f i j=g i j):yl K N f=yl K N g:=by
  unfold yl
  apply yH
  intro i hi
  apply yH
  intro j hj
  exact h i j (yaf.1 hi) (yaf.1 hj)
theorem zeb {β:Type} {N c:Nat} {f:Nat→β} {x:β} (h:c<N):((yZ N).map f).set c x=(yZ N).map fun k=>if k=c then x else f k:=by
  apply yaq
  intro k
  by_cases hk:k<N
  · rw [List.getElem?_set]
    simp only [List.length_map,List.length_range,yac,yar hk,yax]
    by_cases e:c=k
    · subst e;rw [if_pos rfl,if_pos h,if_pos rfl]
    · rw [if_neg e,if_neg (fun z=>e z.symm)]
  · rw [yz (by simp;omega),yz (by simp;omega)]
theorem zoB {K N r c:Nat} {f:Nat→Nat→Rat} {x:Rat} (hr:r<K) (hc:c<N):(yl K N f).set r (((yl K N f).getD r []).set c x)=yl K N (fun i j=>if i=r∧j=c then x else f i j):=by
  rw [Mx.Q3 hr,zeb hc]
  unfold yl
  rw [zeb hr]
  apply yH
  intro i _
  by_cases e:i=r
  · rw [if_pos e]
    apply yH
    intro j _
    dsimp only
    by_cases e2:j=c
    · rw [if_pos e2,if_pos ⟨e,e2⟩]
    · rw [if_neg e2,if_neg (fun z=>e2 z.2),e]
  · rw [if_neg e]
    apply yH
    intro j _
    dsimp only
    rw [if_neg (fun z=>e z.1)]
theorem zqE {a b c d:Int} (ha:s5 a) (hb:s5 b) (hc:s5 c) (hd:s5 d):∀jj,jj<4→(-0x100000≤([a,b,c,d]:List Int).getD jj 0∧([a,b,c,d]:List Int).getD jj 0≤0x100000):=by
  refine zoe (l:=[a,b,c,d]) fun z hz=> ?_
  simp only [yY,List.mem_nil_iff,or_false] at hz
  rcases hz with rfl|rfl|rfl|rfl <;> assumption
theorem ztb {a b c d:Int} {i:Nat} (h:i<3):(((QQ a b c d).map tl).getD i []).length=3:=by
  rw [JX (d:=((0,0,0):T3i)) (by exact h)];rfl
theorem ziz {a b c d:Int} {i j:Nat} (hi:i<3) (hj:j<3):(K5 ((QQ a b c d).getD i (0,0,0)) (Ko a b c d)).take j++[yD ((((QQ a b c d).map tl).getD i []).getD j 0) (Ko a b c d)]=(K5 ((QQ a b c d).getD i (0,0,0)) (Ko a b c d)).take (j+1):=by
  rw [JX (d:=((0,0,0):T3i)) (by exact hi)];exact zd7 hj
abbrev q0:Rat:=((0:Int):Rat)
def tz (A:Mt) (i j:Nat):Mt:=yl 3 3 (fun r c=>if c<i∨(c=i∧r<j) then e A c r else q0)
theorem zqF (A:Mt) (i:Nat):tz A i 3=tz A (i+1) 0:=Jk fun r c hr _=>by
  by_cases h:c<i∨c=i∧r<3
  · rw [if_pos h,if_pos Oo]
  · rw [if_neg h,if_neg Oo]
theorem zqG (A:Mt) {i j:Nat} (hi:i<3) (hj:j<3):(tz A i j).set j (((tz A i j).getD j []).set i ((A.getD i []).getD j 0))=tz A i (j+1):=by
  unfold tz
  rw [zoB hj hi]
  refine Jk fun r c hr hc=> ?_
  by_cases h:r=j∧c=i
  · rw [if_pos h,if_pos Oo,h.1,h.2];rfl
  · rw [if_neg h]
    by_cases h2:c<i∨c=i∧r<j
    · rw [if_pos h2,if_pos Oo]
    · rw [if_neg h2,if_neg Oo]
theorem ztc (A:Mt):tz A 3 0=V1 A:=Jk fun r c _ hc=>by rw [if_pos Oo]
theorem zaS {hs:List (Option Addr×Nat)} (A:Mt) (i j:Nat) (h:hs.length=3):Mx.Sm hs (tz A i j) 3 3:=Mx.Je 3 3 _ h
def col (v:List Rat):Mt:=yl 3 1 (fun ii _=>v.getD ii 0)
theorem zkg (v:List Rat):(col v).length=3:=Mx.ja _ _ _
theorem zkh (v:List Rat) {i:Nat} (h:i<3):((col v).getD i []).length=1:=by unfold col;rw [Mx.Q3 h];rfl
theorem zqH (v:List Rat) {i j:Nat} (h:i<3) (hj:j<1):((col v).getD i []).getD j 0=v.getD i 0:=Mx.zbK (f:=fun ii _=>v.getD ii 0) h hj
def mzv (A:Mt) (v:List Rat) (r:Nat):Rat:=Td.dl (A.getD r []) v 3
def mz (A:Mt) (v:List Rat) (i j:Nat):Mt:=yl 3 1 (fun r c=>if r<i∨(r=i∧c<j) then mzv A v r else q0)
theorem zqJ (A:Mt) (v:List Rat) (i:Nat):mz A v i 1=mz A v (i+1) 0:=Jk fun r c _ hc=>by
  by_cases h:r<i∨r=i∧c<1
  · rw [if_pos h,if_pos Oo]
  · rw [if_neg h,if_neg Oo]
theorem zki (A:Mt) (v:List Rat) {i j:Nat} (hi:i<3) (hj:j<1):(mz A v i j).set i (((mz A v i j).getD i []).set j (mzv A v i))=mz A v i (j+1):=by
  unfold mz
  rw [zoB hi hj]
  refine Jk fun r c hr hc=> ?_
  by_cases h:r=i∧c=j
  · rw [if_pos h,if_pos Oo,h.1]
  · rw [if_neg h]
    by_cases h2:r<i∨r=i∧c<j
    · rw [if_pos h2,if_pos Oo]
    · rw [if_neg h2,if_neg Oo]
theorem zaT {hs:List (Option Addr×Nat)} (A:Mt) (v:List Rat) (i j:Nat) (h:hs.length=3):Mx.Sm hs (mz A v i j) 3 1:=Mx.Je 3 1 _ h
def mv (A:Mt) (v:List Rat):Mt:=yl 3 1 (fun r _=>mzv A v r)
theorem ztd (A:Mt) (v:List Rat):mz A v 3 0=mv A v:=Jk fun r c hr _=>by rw [if_pos Oo]
theorem ziB (A:Mt) (v:List Rat):(mv A v).length=3:=Mx.ja _ _ _
theorem zte (A:Mt) (v:List Rat) {i:Nat} (h:i<3):((mv A v).getD i []).length=1:=by unfold mv;rw [Mx.Q3 h];rfl
theorem ztf (A:Mt) (v:List Rat) {i:Nat} (h:i<3):((mv A v).getD i []).getD 0 0=mzv A v i:=Mx.zbK (f:=fun r _=>mzv A v r) h Od
def av (A:Mt) (v:List Rat) (k:Nat):List Rat:=(yZ k).map (mzv A v)
theorem ziC (A:Mt) (v:List Rat) (k:Nat):(av A v k).length=k:=by unfold av;simp
theorem zqK (A:Mt) (v:List Rat) (k:Nat):av A v k++[mzv A v k]=av A v (k+1):=by unfold av;rw [yas,yao];rfl
theorem zoC (A:Mt) (v:List Rat) {k i:Nat} (h:i<k):(av A v k).getD i 0=mzv A v i:=by unfold av;rw [rgD h]
theorem zqL (A:Mt) (v:List Rat) (i:Nat):mzv A v i=app A (fun j=>v.getD j 0) i:=by
  rw [W0]
  show ((((0:Int):Rat)+_)+_)+_=_
  rw [z0]
  show ((0+e A i 0*v.getD 0 0)+e A i 1*v.getD 1 0)+e A i 2*v.getD 2 0=_
  grind
def zl (j:Nat):List Rat:=(yZ j).map fun _=>q0
theorem zfv (j:Nat):(zl j).length=j:=by unfold zl;simp
theorem zqM (j:Nat):zl j++[q0]=zl (j+1):=by unfold zl;rw [yas,yao];rfl
def cl1 (v:List Rat) (k:Nat):Mt:=(yZ k).map fun i=>[v.getD i 0]
theorem zkj (v:List Rat) (k:Nat):(cl1 v k).length=k:=by unfold cl1;simp
theorem zoD (v:List Rat) (k:Nat):cl1 v k++[[v.getD k 0]]=cl1 v (k+1):=by unfold cl1;rw [yas,yao];rfl
theorem zqN (v:List Rat):cl1 v 3=col v:=rfl
end Ro
namespace Bl
def ok (ar l t r b sx sy xx xy yy ms mx my:Int):Prop:=
  (1≤ar∧ar≤4096)∧(0≤l∧l≤r)∧r≤63∧(0≤t∧t≤b)∧b≤63∧(ar*l≤sx∧sx≤ar*r)∧(ar*t≤sy∧sy≤ar*b)∧
  (0≤xx∧xx≤ar*63*63)∧(0≤xy∧xy≤ar*63*63)∧(0≤yy∧yy≤ar*63*63)∧(0≤ms∧ms≤ar*65535)∧(ms*l≤mx∧mx≤ms*r)∧(ms*t≤my∧my≤ms*b)
instance (ar l t r b sx sy xx xy yy ms mx my:Int):Decidable (ok ar l t r b sx sy xx xy yy ms mx my):=inferInstanceAs (Decidable (_∧_))
def bd (ar l t r b sx sy xx xy yy ms mx my:Int):Prop:=
  (0≤ar∧ar≤1000000000000)∧(0≤sx∧sx≤1000000000000)∧(0≤sy∧sy≤1000000000000)∧(0≤xx∧xx≤1000000000000)∧(0≤xy∧xy≤1000000000000)∧(0≤yy∧yy≤1000000000000)∧(0≤ms∧ms≤1000000000000)∧(0≤mx∧mx≤1000000000000)∧(0≤my∧my≤1000000000000)
theorem c0 {p:Prop} [Decidable p]:(if p then (0:Int) else 1)=0↔p:=by split <;> simp_all
def rok (w h m:Int) (l:List Int):Prop:=(1≤w∧w≤64)∧(1≤h∧h≤64)∧(1≤m∧m≤65535)∧(l.length:Int)=w*h∧¬∃x∈l,x<0∨m<x
instance (w h m:Int) (l:List Int):Decidable (rok w h m l):=inferInstanceAs (Decidable (_∧_))
end Bl
namespace Rd
open Big
theorem getD_take {α:Type} {l:List α} {i:Nat} {d:α} (h:i<l.length):l.take (i+1)=l.take i++[l.getD i d]:=by
  rw [List.take_add_one,yx,yA h];rfl
theorem zqO {l:List Int} (h:Qk l) (k:Nat):zS (l.drop k)≤zS l:=by
  induction k with
  |zero=>rw [List.drop_zero];exact Int.le_refl _
  |succ k ih=>
    have a:=vV l k
    have b:=qV (QD h (k+1))
    have c:=(qC h k).1
    omega
def r2 (cx cy x y:Int):Rat:=yD ((64*x+32 - cx)*(64*x+32 - cx)+(64*y+32 - cy)*(64*y+32 - cy)) 4096
def gn (A B:Rat) (cx cy x y:Int):Rat:=1+A*r2 cx cy x y+B*(r2 cx cy x y*r2 cx cy x y)
def fl (q:Rat):Int:=(q+yD 1 2).floor
def gr (q:Rat) (m:Int):Int:=if fl q<0 then 0 else if fl q<m then fl q else m
def ztg (g:Rat):Prop:=¬(Zv (g - yD 1 16)<0∨0<Zv (g - ((16:Int):Rat)))
instance (g:Rat):Decidable (ztg g):=inferInstanceAs (Decidable (¬_))
def zuI (A B:Rat) (cx cy:Int) (w h:Nat):Prop:=∀y,y<h→∀x,x<w→ztg (gn A B cx cy (x:Int) (y:Int))
instance (A B:Rat) (cx cy:Int) (w h:Nat):Decidable (zuI A B cx cy w h):=inferInstanceAs (Decidable (∀y,y<h→∀x,x<w→ztg (gn A B cx cy (x:Int) (y:Int))))
def cent (cx cy:Int):Prop:= -0x100000≤cx∧cx≤0x100000∧ -0x100000≤cy∧cy≤0x100000
instance (cx cy:Int):Decidable (cent cx cy):=inferInstanceAs (Decidable (_∧_))
def out (l:List Int) (f:Nat→Int):List Int:=(yZ l.length).map f
end Rd
namespace Ro
open Mx Big Td
theorem zth {z a:Int} (h:¬(z - a).sign<0):a≤z:=by
  rcases Int.lt_or_le z a with k|k
  · exact absurd (by rw [Int.sign_eq_neg_one_of_neg Oo];decide) h
  · exact k
theorem zti {z a:Int} (h:¬(z - a).sign>0):z≤a:=by
  rcases Int.lt_or_le a z with k|k
  · exact absurd (by rw [Int.sign_eq_one_of_pos Oo];decide) h
  · exact k
def acc (z:Int) (k:Nat):Int:=if z<0 then -(zS ((zd z.natAbs).drop k)) else zS ((zd z.natAbs).drop k)
theorem zqP (z:Int):acc z (zd z.natAbs).length=0:=by unfold acc;rw [List.drop_length];split <;> rfl
theorem zkk (z:Int):acc z 0=z:=by
  unfold acc;rw [List.drop_zero,qE];split <;> omega
theorem zoE {z:Int} (hz: -9223372036854775808≤z∧z≤9223372036854775807) (k:Nat):(z<0→ -9223372036854775808≤acc z k∧acc z k≤0)∧(¬z<0→0≤acc z k∧acc z k≤9223372036854775807):=by
  have h0:=qG z.natAbs
  have h1:=Rd.zqO h0 k
  have h2:=qV (QD h0 k)
  have h3:zS (zd z.natAbs)=z.natAbs:=qE _
  unfold acc
  constructor
  · intro k;rw [if_pos k];omega
  · intro k;rw [if_neg k];omega
theorem zkl {z:Int} {k:Nat} (h:z<0) (hk:0<k):acc z k*1000000000 - (zd z.natAbs).getD (k - 1) 0=acc z (k - 1):=by
  have hvd:=vV (zd z.natAbs) (k - 1)
  rw [show k - 1+1=k by omega] at hvd
  unfold acc;rw [if_pos h,if_pos h,hvd];omega
theorem zkm {z:Int} {k:Nat} (h:¬z<0) (hk:0<k):acc z k*1000000000+(zd z.natAbs).getD (k - 1) 0=acc z (k - 1):=by
  have hvd:=vV (zd z.natAbs) (k - 1)
  rw [show k - 1+1=k by omega] at hvd
  unfold acc;rw [if_neg h,if_neg h,hvd];omega
def dv (s:St) (x y z:Int):List Rat:=[((x - s.x:Int):Rat),((y - s.y:Int):Rat),((z - s.z:Int):Rat)]
def dd (s:St) (x y z:Int):List Rat:=av (V1 (K7 s)) (dv s x y z) 3
def im (s:St) (x y z:Int):List Rat:=[((s.f:Int):Rat)*(dd s x y z).getD 0 0 / (dd s x y z).getD 2 0+((s.u:Int):Rat),((s.f:Int):Rat)*(dd s x y z).getD 1 0 / (dd s x y z).getD 2 0+((s.v:Int):Rat),((1:Int):Rat)]
theorem zoF (s:St) (x y z:Int):(dd s x y z).length=3:=ziC _ _ _
theorem zrZ {a b c:Rat} {K:Nat} (h1:1≤K) (ha:hq a≤K) (hb:hq b≤K) (hc:hq c≤K) (i:Nat):hq (([a,b,c]:List Rat).getD i 0)≤K:=by
  match i with
  |0=>exact ha
  |1=>exact hb
  |2=>exact hc
  |_+3=>show hq 0≤K;rw [vN];exact h1
theorem zoa {s:St} {x y z:Int} (hs:s.ok) (hx:s5 x) (hy:s5 y) (hz:s5 z) (i:Nat):hq ((dv s x y z).getD i 0)≤1:=by
  obtain ⟨-,-,⟨h1,h2,h3⟩,-⟩:=hs
  unfold s5 at*
  exact zrZ Od (VF Oo) (VF Oo) (VF Oo) i
theorem zkn {s:St} {x y z:Int} (hs:s.ok) (hx:s5 x) (hy:s5 y) (hz:s5 z) (i:Nat):hq ((dd s x y z).getD i 0)≤10:=by
  by_cases h:i<3
  · unfold dd
    rw [zoC _ _ h]
    exact Td.zgp (K:=1) (fun c=>zfn Od (zb9 hs) i c) (zoa hs hx hy hz) 3
  · rw [yx,yz (by rw [zoF];omega)];show hq 0≤10;decide
theorem zr0 {s:St} {x y z:Int} (hs:s.ok) (hx:s5 x) (hy:s5 y) (hz:s5 z) (h2:(dd s x y z).getD 2 0≠0) (i:Nat):hq ((im s x y z).getD i 0)≤100:=by
  obtain ⟨-,hf1,-,⟨hu,hv,hf⟩,-⟩:=id hs
  unfold s5 at hu hv hf
  have qf:=VF (z:=s.f) Oo;have qu:=VF (z:=s.u) Oo;have qv:=VF (z:=s.v) Oo
  have d0:=zkn hs hx hy hz 0;have d1:=zkn hs hx hy hz 1;have d2:=zkn hs hx hy hz 2
  refine zrZ Od ?_ ?_ Od i
  · have := jB ((s.f : Int) : Rat) ((dd s x y z).getD 0 0)
    have:=Qs (((s.f:Int):Rat)*(dd s x y z).getD 0 0) h2
    have:=QX (((s.f:Int):Rat)*(dd s x y z).getD 0 0 / (dd s x y z).getD 2 0) ((s.u:Int):Rat)
    omega
  · have := jB ((s.f : Int) : Rat) ((dd s x y z).getD 1 0)
    have:=Qs (((s.f:Int):Rat)*(dd s x y z).getD 1 0) h2
    have:=QX (((s.f:Int):Rat)*(dd s x y z).getD 1 0 / (dd s x y z).getD 2 0) ((s.v:Int):Rat)
    omega
theorem zko {q:Rat} {x:Int} (h1:x=q.num) (h2:((q.den:Nat):Int)=1):(x:Rat)=q:=by
  have e:q=yD q.num (q.den:Int):=(yam q).symm
  rw [h1]
  conv=>rhs;rw [e,h2]
  exact (zuz _).symm
theorem zgT {l:List Rat} {x y:Int} (h1:x=(l.getD 0 0).num) (h2:y=(l.getD 1 0).num) (h3:(((l.getD 0 0).den:Nat):Int)=1) (h4:(((l.getD 1 0).den:Nat):Int)=1) (h5:∀jj,jj<2→(-0x100000≤([x,y]:List Int).getD jj 0∧([x,y]:List Int).getD jj 0≤0x100000)):
    (x:Rat)=l.getD 0 0∧(y:Rat)=l.getD 1 0∧(-0x100000≤x∧x≤0x100000)∧(-0x100000≤y∧y≤0x100000):=⟨zko h1 h3,zko h2 h4,h5 0 Od,h5 1 Od⟩
def rel (s t:St) (q:Rd.Cm):Prop:=∃x y z:Int,(s5 x∧s5 y∧s5 z)∧((dd s x y z).getD 2 0≠0∧((q.a:Int):Rat)=(im s x y z).getD 0 0∧((q.b:Int):Rat)=(im s x y z).getD 1 0)∧(dd t x y z).getD 2 0≠0∧((q.d:Int):Rat)=(im t x y z).getD 0 0∧((q.w:Int):Rat)=(im t x y z).getD 1 0
theorem ztk {q:Rat} (h:¬Zv q≤0):q≠0:=fun e=>h (by rw [e];decide)
end Ro
namespace Ro
open Mx Big
def zfw (l:List Int):Nat→Int
  |0=>0
  |i+1=>zfw l i+l.getD i 0
theorem zkp {l:List Int} {B:Nat} (h:∀i,ln (l.getD i 0)≤B):∀i,ln (zfw l i)≤B+i
  |0=>by show ln 0≤_;rw [VC];omega
  |i+1=>by have:=zkp h i;have:=QJ (zfw l i) (l.getD i 0);have:=h i;show ln (zfw l i+l.getD i 0)≤_;omega
def zdy (l:List Int):Nat→Int
  |0=>0
  |i+1=>((yae (zdy l i).natAbs (l.getD i 0).natAbs:Nat):Int)
theorem zkq {l:List Int} {B:Nat} (h:∀i,ln (l.getD i 0)≤B):∀i,ln (zdy l i)≤B
  |0=>by show ln 0≤B;rw [VC];omega
  |i+1=>by
    have h1:=zkq h i
    by_cases e:l.getD i 0=0
    · have : zdy l (i + 1) = ((zdy l i).natAbs : Int) := by show ((yae _ (l.getD i 0).natAbs : Nat) : Int) = _; rw [e]; simp
      rw [this]
      have:ln (((zdy l i).natAbs:Nat):Int)≤ln (zdy l i):=zag Oo
      omega
    · exact yah (KQ e) (h i)
def zgU (l:List Int):Nat→Int
  |0=>0
  |i+1=>if zgU l i=0 then (l.getD i 0).sign else zgU l i
theorem zuJ {a b c:Int} {B:Nat} (ha:ln a≤B) (hb:ln b≤B) (hc:ln c≤B) (i:Nat):ln (([a,b,c]:List Int).getD i 0)≤B:=by
  match i with
  |0=>exact ha
  |1=>exact hb
  |2=>exact hc
  |_+3=>show ln 0≤B;rw [VC];omega
def id9:List Int:=[1,0,0,0,1,0,0,0,1]
theorem ztm (i:Nat):ln (id9.getD i 0)≤10000:=by
  by_cases h:i<9
  · have : i = 0 ∨ i = 1 ∨ i = 2 ∨ i = 3 ∨ i = 4 ∨ i = 5 ∨ i = 6 ∨ i = 7 ∨ i = 8 := by omega
    rcases this with rfl|rfl|rfl|rfl|rfl|rfl|rfl|rfl|rfl <;> decide +kernel
  · rw [yx,yz (by show 9≤i;omega)];show ln 0≤_;rw [VC];omega
theorem fun9 {W:Type} {P:W→Int→Prop} {a b c d e f g h k:W} (h1:P a 1) (h2:P b 0) (h3:P c 0) (h4:P d 0) (h5:P e 1) (h6:P f 0) (h7:P g 0) (h8:P h 0) (h9:P k 1):∀(j:Nat) (x:Int),id9[j]? =some x→∃w,([a,b,c,d,e,f,g,h,k]:List W)[j]? =some w∧P w x:=fun j x hx=>by
  have hj:j<9:=(yU.1 hx).1
  have:j=0∨j=1∨j=2∨j=3∨j=4∨j=5∨j=6∨j=7∨j=8:=Oo
  rcases this with rfl|rfl|rfl|rfl|rfl|rfl|rfl|rfl|rfl <;> (cases hx;exact ⟨_,rfl,by assumption⟩)
end Ro
namespace Sp
open Go
set_option maxRecDepth 100000
set_option maxHeartbeats 8000000
theorem zqQ:CB 102 [] [] (Y:=Wd×Wd×Wd×Wd×Wd×Wd×Wd×Wd×Wd) (fun y=> .agg #[y.1.b,y.1.l,y.2.1.b,y.2.1.l,y.2.2.1.b,y.2.2.1.l,y.2.2.2.1.b,y.2.2.2.1.l,y.2.2.2.2.1.b,y.2.2.2.2.1.l,y.2.2.2.2.2.1.b,y.2.2.2.2.2.1.l,y.2.2.2.2.2.2.1.b,y.2.2.2.2.2.2.1.l,y.2.2.2.2.2.2.2.1.b,y.2.2.2.2.2.2.2.1.l,y.2.2.2.2.2.2.2.2.b,y.2.2.2.2.2.2.2.2.l]) (fun y=>[zF y.1 1,zF y.2.1 0,zF y.2.2.1 0,zF y.2.2.2.1 0,zF y.2.2.2.2.1 1,zF y.2.2.2.2.2.1 0,zF y.2.2.2.2.2.2.1 0,zF y.2.2.2.2.2.2.2.1 0,zF y.2.2.2.2.2.2.2.2 1]):=by
 refine zg Tryz.func102 rfl rfl (fun c=> ?_)
 refine vg<|zB (zo zrj rfl) (fun b1=> ?_)
 refine Vj<|zB (zo zrj rfl) (fun b2=> ?_)
 refine ZI<|k12 1 rfl<|zk<|zen<|Zd<|jg 1 rfl<|jl rfl<|vY<|zk<|jS 2 rfl<|qJ rfl<|zm (qS rfl) zP (jL zL) (.n) ?_
 rintro w33 -
 refine zE (zR (i:=0) yb z8 rfl rfl dd rfl)<|zh 0 rfl rfl rfl rfl z8 (.t2 .nil) .z<|k40 1 rfl<|zE (jk (z:=0) rfl rfl dd dd)<|vZ 1 rfl<|jl rfl<|vM 1 rfl<|zm (qS rfl) zP (jL zL) (.n) ?_
 rintro a0 -
 refine zE (zR (i:=0) yb z8 rfl rfl dd rfl)<|zh 0 rfl rfl rfl rfl z8 (.t2 .nil) .z<|jq<|zG<|zi<|zv<|zE (qm (z:=1) rfl rfl (Q9 dd))<|qY 1 rfl<|ZF<|Zd<|jg 1 rfl<|jl rfl<|vY<|zk<|jS 2 rfl<|qJ rfl<|zm (qS rfl) zP (jL zL) (.n) ?_
 rintro a1 -
 refine zE (zR (i:=1) yb z8 rfl rfl dd rfl)<|zh 0 rfl rfl rfl rfl z8 (.s2 (.t2 .nil)) .z<|k40 1 rfl<|zE (jk (z:=1) rfl rfl dd dd)<|vZ 1 rfl<|qW rfl<|qN<|zG<|zi<|zv<|zE (qm (z:=2) rfl rfl (Q9 dd))<|qY 1 rfl<|ZF<|Zd<|jg 1 rfl<|jl rfl<|vY<|zk<|jS 2 rfl<|qJ rfl<|zm (qS rfl) zP (jL zL) (.n) ?_
 rintro a2 -
 refine zE (zR (i:=2) yb z8 rfl rfl dd rfl)<|zh 0 rfl rfl rfl rfl z8 (.s4 (.t2 .nil)) .z<|k40 1 rfl<|zE (jk (z:=2) rfl rfl dd dd)<|vZ 1 rfl<|qW rfl<|qN<|zG<|zi<|zv<|zE (qm (z:=3) rfl rfl (Q9 dd))<|qY 1 rfl<|ZF<|Zd<|jg 1 rfl<|jl rfl<|vY<|zk<|jS 2 rfl<|qJ rfl<|zm (qS rfl) zP (jL zL) (.n) ?_
 rintro a3 -
 refine zE (zR (i:=3) yb z8 rfl rfl dd rfl)<|zh 0 rfl rfl rfl rfl z8 (.s4 (.s2 (.t2 .nil))) .z<|k40 1 rfl<|zE (jk (z:=3) rfl rfl dd dd)<|vZ 1 rfl<|qW rfl<|qN<|zG<|zi<|zv<|zE (qm (z:=4) rfl rfl (Q9 dd))<|qY 1 rfl<|ZF<|Zd<|jg 1 rfl<|jl rfl<|vY<|zk<|jS 2 rfl<|qJ rfl<|zm (qS rfl) zP (jL zL) (.n) ?_
 rintro w38 -
 refine zE (zR (i:=4) yb z8 rfl rfl dd rfl)<|zh 0 rfl rfl rfl rfl z8 (.s8 (.t2 .nil)) .z<|k40 1 rfl<|zE (jk (z:=0) rfl rfl dd dd)<|vZ 1 rfl<|jl rfl<|vM 1 rfl<|zm (qS rfl) zP (jL zL) (.n) ?_
 rintro a4 -
 refine zE (zR (i:=4) yb z8 rfl rfl dd rfl)<|zh 0 rfl rfl rfl rfl z8 (.s8 (.t2 .nil)) .z<|jq<|zG<|zi<|zv<|zE (qm (z:=5) rfl rfl (Q9 dd))<|qY 1 rfl<|ZF<|Zd<|jg 1 rfl<|jl rfl<|vY<|zk<|jS 2 rfl<|qJ rfl<|zm (qS rfl) zP (jL zL) (.n) ?_
 rintro a5 -
 refine zE (zR (i:=5) yb z8 rfl rfl dd rfl)<|zh 0 rfl rfl rfl rfl z8 (.s8 (.s2 (.t2 .nil))) .z<|k40 1 rfl<|zE (jk (z:=1) rfl rfl dd dd)<|vZ 1 rfl<|qW rfl<|qN<|zG<|zi<|zv<|zE (qm (z:=6) rfl rfl (Q9 dd))<|qY 1 rfl<|ZF<|Zd<|jg 1 rfl<|jl rfl<|vY<|zk<|jS 2 rfl<|qJ rfl<|zm (qS rfl) zP (jL zL) (.n) ?_
 rintro a6 -
 refine zE (zR (i:=6) yb z8 rfl rfl dd rfl)<|zh 0 rfl rfl rfl rfl z8 (.s8 (.s4 (.t2 .nil))) .z<|k40 1 rfl<|zE (jk (z:=2) rfl rfl dd dd)<|vZ 1 rfl<|qW rfl<|qN<|zG<|zi<|zv<|zE (qm (z:=7) rfl rfl (Q9 dd))<|qY 1 rfl<|ZF<|Zd<|jg 1 rfl<|jl rfl<|vY<|zk<|jS 2 rfl<|qJ rfl<|zm (qS rfl) zP (jL zL) (.n) ?_
 rintro a7 -
 refine zE (zR (i:=7) yb z8 rfl rfl dd rfl)<|zh 0 rfl rfl rfl rfl z8 (.s8 (.s4 (.s2 (.t2 .nil)))) .z<|k40 1 rfl<|zE (jk (z:=3) rfl rfl dd dd)<|vZ 1 rfl<|qW rfl<|qN<|zG<|zi<|zv<|zE (qm (z:=8) rfl rfl (Q9 dd))<|qY 1 rfl<|ZF<|Zd<|jg 1 rfl<|jl rfl<|vY<|zk<|jS 2 rfl<|qJ rfl<|zm (qS rfl) zP (jL zL) (.n) ?_
 rintro a9 -
 refine zE (zR (i:=8) yb z8 rfl rfl dd rfl)<|zh 0 rfl rfl rfl rfl z8 (.s8 (.s8 (.t2 .nil))) .z<|k40 1 rfl<|zE (jk (z:=0) rfl rfl dd dd)<|vZ 1 rfl<|jl rfl<|vM 1 rfl<|zm (qS rfl) zP (jL zL) (.n) ?_
 rintro a8 -
 refine zE (zR (i:=8) yb z8 rfl rfl dd rfl)<|zh 0 rfl rfl rfl rfl z8 (.s8 (.s8 (.t2 .nil))) .z<|jq<|zG<|zi<|zv<|zE (qm (z:=9) rfl rfl (Q9 dd))<|qY 1 rfl<|ZF<|Zd<|jg 1 rfl<|qW rfl<|z7<|ze<|ze<|zn<|zi<|vg<|zw (za 0 zfS rfl rfl (.t8 (.t8 (.t2 .nil))))<|zh 1 rfl rfl rfl rfl ztS (.t8 (.t8 (.t2 .nil))) (.s .z)<|Va ?_
 exact zq rfl (a0,a1,a2,a3,a4,a5,a6,a7,a8) trivial (zy 1 zfS rfl rfl (.t8 (.t8 (.t2 .nil)))) rfl oN ((.of [10,9,8,7,5,4,3,2,0] rfl))
theorem zll {o19:Wd} {o29:Wd} {o39:Wd} {o49:Wd} {o59:Wd} {o69:Wd} {o79:Wd} {o89:Wd} {o99:Wd}:CA 183 [.agg #[o19.b,o19.l,o29.b,o29.l,o39.b,o39.l,o49.b,o49.l,o59.b,o59.l,o69.b,o69.l,o79.b,o79.l,o89.b,o89.l,o99.b,o99.l],.int .i64 0] [] (.agg #[o19.b,o19.l,o29.b,o29.l,o39.b,o39.l]):=by
 refine zg Tryz.func183 rfl rfl (fun c=> ?_)
 refine vg<|zB (zX rfl rfl) (fun b1=> ?_)
 refine zB (zo zbt rfl) (fun b2=> ?_)
 refine ZI<|Vk 15<|zQ 0 rfl rfl<|zC 1 rfl (qw (z:=0) rfl rfl (Q9 dd))<|zC 2 rfl (zR (i:=0) yb z8 rfl rfl dd rfl)<|qy 3 rfl (za 1 z4 rfl rfl (.t2 .nil))<|zQ 4 rfl rfl<|zC 5 rfl (qw (z:=0) rfl rfl (Q9 dd))<|zC 6 rfl (qm (z:=1) rfl rfl (Q9 dd))<|zC 7 rfl (zR (i:=1) yb z8 rfl rfl dd rfl)<|qy 8 rfl (za 1 z4 rfl rfl (.s2 (.t2 .nil)))<|zQ 9 rfl rfl<|zC 10 rfl (qw (z:=0) rfl rfl (Q9 dd))<|zC 11 rfl (qm (z:=2) rfl rfl (Q9 dd))<|zC 12 rfl (zR (i:=2) yb z8 rfl rfl dd rfl)<|qy 13 rfl (za 1 z4 rfl rfl (.s4 (.t2 .nil)))<|zC 14 rfl (jz zbt rfl ya z8 (.c rfl (.c rfl (.c rfl .n))) (.c rfl rfl rfl (.t2 .nil) (.c rfl rfl rfl (.s2 (.t2 .nil)) (.c rfl rfl rfl (.s4 (.t2 .nil)) .n))))<|zt 15 (zH rfl rfl rfl rfl zjt (.t4 (.t2 .nil)) ?_)
 refine zU kr<|zi<|vv ?_
 exact zq rfl () trivial (zy 0 zbs rfl rfl (.t4 (.t2 .nil))) rfl oN sN
theorem zlm {o19:Wd} {o29:Wd} {o39:Wd} {o49:Wd} {o59:Wd} {o69:Wd} {o79:Wd} {o89:Wd} {o99:Wd}:CA 183 [.agg #[o19.b,o19.l,o29.b,o29.l,o39.b,o39.l,o49.b,o49.l,o59.b,o59.l,o69.b,o69.l,o79.b,o79.l,o89.b,o89.l,o99.b,o99.l],.int .i64 1] [] (.agg #[o49.b,o49.l,o59.b,o59.l,o69.b,o69.l]):=by
 refine zg Tryz.func183 rfl rfl (fun c=> ?_)
 refine vg<|zB (zX rfl rfl) (fun b1=> ?_)
 refine zB (zo zbt rfl) (fun b2=> ?_)
 refine ZI<|Vk 15<|zQ 0 rfl rfl<|zC 1 rfl (qw (z:=3) rfl rfl (Q9 dd))<|zC 2 rfl (zR (i:=3) yb z8 rfl rfl dd rfl)<|qy 3 rfl (za 1 z4 rfl rfl (.s4 (.s2 (.t2 .nil))))<|zQ 4 rfl rfl<|zC 5 rfl (qw (z:=3) rfl rfl (Q9 dd))<|zC 6 rfl (qm (z:=4) rfl rfl (Q9 dd))<|zC 7 rfl (zR (i:=4) yb z8 rfl rfl dd rfl)<|qy 8 rfl (za 1 z4 rfl rfl (.s8 (.t2 .nil)))<|zQ 9 rfl rfl<|zC 10 rfl (qw (z:=3) rfl rfl (Q9 dd))<|zC 11 rfl (qm (z:=5) rfl rfl (Q9 dd))<|zC 12 rfl (zR (i:=5) yb z8 rfl rfl dd rfl)<|qy 13 rfl (za 1 z4 rfl rfl (.s8 (.s2 (.t2 .nil))))<|zC 14 rfl (jz zbt rfl ya z8 (.c rfl (.c rfl (.c rfl .n))) (.c rfl rfl rfl (.t2 .nil) (.c rfl rfl rfl (.s2 (.t2 .nil)) (.c rfl rfl rfl (.s4 (.t2 .nil)) .n))))<|zt 15 (zH rfl rfl rfl rfl zjt (.t4 (.t2 .nil)) ?_)
 refine zU kr<|zi<|vv ?_
 exact zq rfl () trivial (zy 0 zbs rfl rfl (.t4 (.t2 .nil))) rfl oN sN
theorem zln {o19:Wd} {o29:Wd} {o39:Wd} {o49:Wd} {o59:Wd} {o69:Wd} {o79:Wd} {o89:Wd} {o99:Wd}:CA 183 [.agg #[o19.b,o19.l,o29.b,o29.l,o39.b,o39.l,o49.b,o49.l,o59.b,o59.l,o69.b,o69.l,o79.b,o79.l,o89.b,o89.l,o99.b,o99.l],.int .i64 2] [] (.agg #[o79.b,o79.l,o89.b,o89.l,o99.b,o99.l]):=by
 refine zg Tryz.func183 rfl rfl (fun c=> ?_)
 refine vg<|zB (zX rfl rfl) (fun b1=> ?_)
 refine zB (zo zbt rfl) (fun b2=> ?_)
 refine ZI<|Vk 15<|zQ 0 rfl rfl<|zC 1 rfl (qw (z:=6) rfl rfl (Q9 dd))<|zC 2 rfl (zR (i:=6) yb z8 rfl rfl dd rfl)<|qy 3 rfl (za 1 z4 rfl rfl (.s8 (.s4 (.t2 .nil))))<|zQ 4 rfl rfl<|zC 5 rfl (qw (z:=6) rfl rfl (Q9 dd))<|zC 6 rfl (qm (z:=7) rfl rfl (Q9 dd))<|zC 7 rfl (zR (i:=7) yb z8 rfl rfl dd rfl)<|qy 8 rfl (za 1 z4 rfl rfl (.s8 (.s4 (.s2 (.t2 .nil)))))<|zQ 9 rfl rfl<|zC 10 rfl (qw (z:=6) rfl rfl (Q9 dd))<|zC 11 rfl (qm (z:=8) rfl rfl (Q9 dd))<|zC 12 rfl (zR (i:=8) yb z8 rfl rfl dd rfl)<|qy 13 rfl (za 1 z4 rfl rfl (.s8 (.s8 (.t2 .nil))))<|zC 14 rfl (jz zbt rfl ya z8 (.c rfl (.c rfl (.c rfl .n))) (.c rfl rfl rfl (.t2 .nil) (.c rfl rfl rfl (.s2 (.t2 .nil)) (.c rfl rfl rfl (.s4 (.t2 .nil)) .n))))<|zt 15 (zH rfl rfl rfl rfl zjt (.t4 (.t2 .nil)) ?_)
 refine zU kr<|zi<|vv ?_
 exact zq rfl () trivial (zy 0 zbs rfl rfl (.t4 (.t2 .nil))) rfl oN sN
theorem ziD {u1:Wd} {u2:Wd} {u3:Wd} {v1:Wd} {v2:Wd} {v3:Wd} {x1:Int} {x2:Int} {x3:Int} {y1:Int} {y2:Int} {y3:Int} (hx1:yi x1≤1000) (hx2:yi x2≤1000) (hx3:yi x3≤1000) (hy1:yi y1≤1000) (hy2:yi y2≤1000) (hy3:yi y3≤1000):CB 238 [.agg #[u1.b,u1.l,u2.b,u2.l,u3.b,u3.l],.agg #[v1.b,v1.l,v2.b,v2.l,v3.b,v3.l]] [zF u1 x1,zF u2 x2,zF u3 x3,zF v1 y1,zF v2 y2,zF v3 y3] (Y:=Wd×Wd×Wd) (fun y=> .agg #[y.1.b,y.1.l,y.2.1.b,y.2.1.l,y.2.2.b,y.2.2.l]) (fun y=>[zF y.1 (x2*y3 - x3*y2),zF y.2.1 (x3*y1 - x1*y3),zF y.2.2 (x1*y2 - x2*y1)]):=by
 refine zg Tryz.func238 rfl rfl (fun c=> ?_)
 have a3:=ym x1 y1
 have a4:=ym x1 y2
 have a5:=ym x1 y3
 have a6:=ym x2 y1
 have a7:=ym x2 y2
 have a8:=ym x2 y3
 have a9:=ym x3 y1
 have b5:=ym x3 y2
 have b6:=ym x3 y3
 refine vg<|zB (zX rfl rfl) (fun b1=> ?_)
 refine zB (zX rfl rfl) (fun b2=> ?_)
 refine zB (zo zbt rfl) (fun b3=> ?_)
 refine Vj<|zB (zo zbt rfl) (fun b4=> ?_)
 refine ZI<|k12 1 rfl<|zk<|zen<|Zd<|jg 1 rfl<|jl rfl<|vY<|zk<|jS 2 rfl<|qJ rfl<|zE (qm (z:=1) rfl rfl (Q9 dd))<|zE (jk (z:=1) rfl rfl dd dd)<|qJ rfl<|zE (qm (z:=2) rfl rfl (Q9 dd))<|zE (jk (z:=2) rfl rfl dd dd)<|vZ 2 rfl<|Vk 17<|zQ 0 rfl rfl<|zQ 1 rfl rfl<|zC 2 rfl (zR (i:=1) ya z8 rfl rfl dd rfl)<|qy 3 rfl (za 3 z4 rfl rfl (.s2 (.t2 .nil)))<|zQ 4 rfl rfl<|zC 5 rfl (zR (i:=2) ya z8 rfl rfl dd rfl)<|qy 6 rfl (za 2 z4 rfl rfl (.s4 (.t2 .nil)))<|zQ 8 rfl rfl<|zC 9 rfl (zR (i:=2) ya z8 rfl rfl dd rfl)<|qy 10 rfl (za 3 z4 rfl rfl (.s4 (.t2 .nil)))<|zQ 11 rfl rfl<|zC 12 rfl (zR (i:=1) ya z8 rfl rfl dd rfl)<|qy 13 rfl (za 2 z4 rfl rfl (.s2 (.t2 .nil)))<|zt 7 (zp rfl (q7 rfl rfl) zP (ju zL zL) (vj 1 5 rfl rfl) ?_)
 rintro w35 -
 refine zt 14 (zp rfl (q7 rfl rfl) zP (ju zL zL) (vj 3 5 rfl rfl) ?_)
 rintro w36 -
 refine zt 15 (zp rfl (q7 rfl rfl) zP (zcR zL zL) (vj 1 0 rfl rfl) ?_)
 rintro a0 -
 refine zC 16 rfl (zR (i:=0) ya z8 rfl rfl dd rfl)<|zt 17 (zH rfl rfl rfl rfl z8 (.t2 .nil) ?_)
 refine zU kr<|zG<|zi<|zv<|zE (qm (z:=1) rfl rfl (Q9 dd))<|qY 1 rfl<|ZF<|Zd<|jg 1 rfl<|jl rfl<|vY<|zk<|jS 2 rfl<|qJ rfl<|zE (qm (z:=2) rfl rfl (Q9 dd))<|zE (jk (z:=2) rfl rfl dd dd)<|qJ rfl<|zE (qm (z:=3) rfl rfl (Q9 dd))<|zE (jk (z:=0) rfl rfl dd dd)<|vZ 2 rfl<|Vk 17<|zQ 0 rfl rfl<|zQ 1 rfl rfl<|zC 2 rfl (zR (i:=2) ya z8 rfl rfl dd rfl)<|qy 3 rfl (za 3 z4 rfl rfl (.s4 (.t2 .nil)))<|zQ 4 rfl rfl<|zC 5 rfl (zR (i:=0) ya z8 rfl rfl dd rfl)<|qy 6 rfl (za 2 z4 rfl rfl (.t2 .nil))<|zQ 8 rfl rfl<|zC 9 rfl (zR (i:=0) ya z8 rfl rfl dd rfl)<|qy 10 rfl (za 3 z4 rfl rfl (.t2 .nil))<|zQ 11 rfl rfl<|zC 12 rfl (zR (i:=2) ya z8 rfl rfl dd rfl)<|qy 13 rfl (za 2 z4 rfl rfl (.s4 (.t2 .nil)))<|zt 7 (zp rfl (q7 rfl rfl) zP (ju zL zL) (vj 5 6 rfl rfl) ?_)
 rintro w38 -
 refine zt 14 (zp rfl (q7 rfl rfl) zP (ju zL zL) (vj 4 9 rfl rfl) ?_)
 rintro w39 -
 refine zt 15 (zp rfl (q7 rfl rfl) zP (zcR zL zL) (vj 1 0 rfl rfl) ?_)
 rintro a1 -
 refine zC 16 rfl (zR (i:=1) ya z8 rfl rfl dd rfl)<|zt 17 (zH rfl rfl rfl rfl z8 (.s2 (.t2 .nil)) ?_)
 refine zU kr<|zG<|zi<|zv<|zE (qm (z:=2) rfl rfl (Q9 dd))<|qY 1 rfl<|ZF<|Zd<|jg 1 rfl<|jl rfl<|vY<|zk<|jS 2 rfl<|qJ rfl<|zE (qm (z:=3) rfl rfl (Q9 dd))<|zE (jk (z:=0) rfl rfl dd dd)<|qJ rfl<|zE (qm (z:=4) rfl rfl (Q9 dd))<|zE (jk (z:=1) rfl rfl dd dd)<|vZ 2 rfl<|Vk 17<|zQ 0 rfl rfl<|zQ 1 rfl rfl<|zC 2 rfl (zR (i:=0) ya z8 rfl rfl dd rfl)<|qy 3 rfl (za 3 z4 rfl rfl (.t2 .nil))<|zQ 4 rfl rfl<|zC 5 rfl (zR (i:=1) ya z8 rfl rfl dd rfl)<|qy 6 rfl (za 2 z4 rfl rfl (.s2 (.t2 .nil)))<|zQ 8 rfl rfl<|zC 9 rfl (zR (i:=1) ya z8 rfl rfl dd rfl)<|qy 10 rfl (za 3 z4 rfl rfl (.s2 (.t2 .nil)))<|zQ 11 rfl rfl<|zC 12 rfl (zR (i:=0) ya z8 rfl rfl dd rfl)<|qy 13 rfl (za 2 z4 rfl rfl (.t2 .nil))<|zt 7 (zp rfl (q7 rfl rfl) zP (ju zL zL) (vj 6 10 rfl rfl) ?_)
 rintro b7 -
 refine zt 14 (zp rfl (q7 rfl rfl) zP (ju zL zL) (vj 8 10 rfl rfl) ?_)
 rintro b8 -
 refine zt 15 (zp rfl (q7 rfl rfl) zP (zcR zL zL) (vj 1 0 rfl rfl) ?_)
 rintro a2 -
 refine zC 16 rfl (zR (i:=2) ya z8 rfl rfl dd rfl)<|zt 17 (zH rfl rfl rfl rfl z8 (.s4 (.t2 .nil)) ?_)
 refine zU kr<|zG<|zi<|zv<|zE (qm (z:=3) rfl rfl (Q9 dd))<|qY 1 rfl<|ZF<|Zd<|jg 1 rfl<|qW rfl<|z7<|ze<|ze<|zn<|zi<|vg<|zw (za 0 zbs rfl rfl (.t4 (.t2 .nil)))<|zh 1 rfl rfl rfl rfl zjt (.t4 (.t2 .nil)) (.s .z)<|Va ?_
 exact zq rfl (a0,a1,a2) trivial (zy 1 zbs rfl rfl (.t4 (.t2 .nil))) rfl oN ((.of [6,3,0] rfl))
theorem zoG {p:Option Addr} {n:Nat} {cap:Nat} {l:List Int} (hn:l.length=n) (hn9:n≤10) (hb:∀i,yi (l.getD i 0)≤10000):CB 261 [.slice p n cap] [zI rZ p cap l] (Y:=Wd) (fun y=> .agg #[y.b,y.l]) (fun y=>[zF y (Ro.zfw l n)]):=by
 refine zg Tryz.func261 rfl rfl (fun c=> ?_)
 refine zN 0 rfl (fun hL0=> ?_)
 refine vg<|zB (zo jo rfl) (fun b1=> ?_)
 refine Vj<|zm (qS rfl) zP (jL zL) (.n) ?_
 rintro a0 -
 refine zB (zo jo rfl) (fun b4=> ?_)
 refine zh 0 rfl rfl rfl rfl z8 (.t2 .nil) .z<|ZI<|jK 1 rfl<|zE (vL yj rfl)<|vZ 1 rfl<|zk<|z5 (X:=Nat×Wd) (fun x=>x.1≤n) (fun x=>[(9,Vi x.1)]) [8,7,3,2] (fun x=>[zK b4 30 [x.2.b,x.2.l],zK b1 30 [wz.b,wz.l]]) (fun x=>[zF x.2 (Ro.zfw l x.1)]) [0,1] (fun x=>n - x.1) (0,a0) (by exact yN _) (.e rfl vA .n) ((.of [0,0] rfl):zJ _ _ _) ((.e (j:=0) rfl (by rfl) .n)) ?_
 rintro ⟨i,wd⟩ hI
 dsimp only at hI
 refine jg 1 rfl<|zx rfl (fun h5=> ?_) (fun h5=> ?_)
 refine vY<|zk<|vg<|vX (zM (x0:=(l.getD i (0:Int))) 2 i rfl yj z8 rfl zL rfl rfl (gD (d:=(0:Int)) om)) ?_
 rintro ⟨b6,o7,w9⟩ -
 refine vd zeL<|zw (zA (j:=0) 0 z4 rfl rfl rfl (.t2 .nil))<|zB (zo jo rfl) (fun b10=> ?_)
 refine zh 0 rfl rfl rfl rfl z8 (.t2 .nil) .z<|Vc ?_
 have hbi:=hb i
 have hsi:=Ro.zkp hb i
 refine zv<|zw (za 1 z4 rfl rfl (.t2 .nil))<|zw (za 0 z4 rfl rfl (.t2 .nil))<|zm q7 zP (zgh (w1:=wd) (w2:=w9) (x1:=(Ro.zfw l i)) (x2:=(l.getD i (0:Int))) zL zL) (vj 2 1) ?_
 rintro a1 -
 refine zh 1 rfl rfl rfl rfl z8 (.t2 .nil) (.s .z)<|jq<|zG<|zi<|zv<|zE (qj rfl rfl)<|qY 1 rfl<|zW ((i+1),a1) (by show i+1≤n;omega) om (mR rfl) ((.of [1,1] rfl):zJ _ _ _) ((.e (j:=0) rfl (by rfl) (.of [4,5] rfl)))
 refine z7<|ze<|ze<|zn<|zi<|vg<|zw (za 0 z4 rfl rfl (.t2 .nil))<|zh 1 rfl rfl rfl rfl z8 (.t2 .nil) (.s .z)<|Va ?_
 exact zq rfl wd trivial (zy 1 z4 rfl rfl (.t2 .nil)) rfl oN ((.e (j:=0) rfl (by rw [show i=n by omega]) .n))
theorem zoH {u1:Wd} {u2:Wd} {u3:Wd} {v1:Wd} {v2:Wd} {v3:Wd} {x1:Int} {x2:Int} {x3:Int} {y1:Int} {y2:Int} {y3:Int} (hx1:yi x1≤3000) (hx2:yi x2≤3000) (hx3:yi x3≤3000) (hy1:yi y1≤3000) (hy2:yi y2≤3000) (hy3:yi y3≤3000):CB 237 [.agg #[u1.b,u1.l,u2.b,u2.l,u3.b,u3.l],.agg #[v1.b,v1.l,v2.b,v2.l,v3.b,v3.l]] [zF u1 x1,zF u2 x2,zF u3 x3,zF v1 y1,zF v2 y2,zF v3 y3] (Y:=Wd) (fun y=> .agg #[y.b,y.l]) (fun y=>[zF y (Ro.zfw [x1*y1,x2*y2,x3*y3] 3)]):=by
 refine zg Tryz.func237 rfl rfl (fun c=> ?_)
 have hm1:=ym x1 y1
 have hm2:=ym x2 y2
 have hm3:=ym x3 y3
 refine vg<|zB (zX rfl rfl) (fun b1=> ?_)
 refine zB (zX rfl rfl) (fun b2=> ?_)
 refine zB (zo jo rfl) (fun b3=> ?_)
 refine ZI<|Vk 17<|zC 0 rfl (zR (i:=0) ya z8 rfl rfl dd rfl)<|qy 1 rfl (za 2 z4 rfl rfl (.t2 .nil))<|zC 2 rfl (zR (i:=0) ya z8 rfl rfl dd rfl)<|qy 3 rfl (za 1 z4 rfl rfl (.t2 .nil))<|zC 5 rfl (zR (i:=1) ya z8 rfl rfl dd rfl)<|qy 6 rfl (za 2 z4 rfl rfl (.s2 (.t2 .nil)))<|zC 7 rfl (zR (i:=1) ya z8 rfl rfl dd rfl)<|qy 8 rfl (za 1 z4 rfl rfl (.s2 (.t2 .nil)))<|zC 10 rfl (zR (i:=2) ya z8 rfl rfl dd rfl)<|qy 11 rfl (za 2 z4 rfl rfl (.s4 (.t2 .nil)))<|zC 12 rfl (zR (i:=2) ya z8 rfl rfl dd rfl)<|qy 13 rfl (za 1 z4 rfl rfl (.s4 (.t2 .nil)))<|zt 4 (zp rfl (q7 rfl rfl) zP (ju zL zL) (vj 0 3 rfl rfl) ?_)
 rintro a0 -
 refine zt 9 (zp rfl (q7 rfl rfl) zP (ju zL zL) (vj 2 5 rfl rfl) ?_)
 rintro a1 -
 refine zt 14 (zp rfl (q7 rfl rfl) zP (ju zL zL) (vj 4 7 rfl rfl) ?_)
 rintro a2 -
 refine zt 15 (V5 rfl (qA (r:=rZ) (k:=3) yj zl9 rfl dd dd dd (.c (x:=(x1*y1)) (cs:=[a0.b,a0.l]) a0 rfl rfl rfl (fun g hr=>Holds.get 2 rfl hr) (.c (x:=(x2*y2)) (cs:=[a1.b,a1.l]) a1 rfl rfl rfl (fun g hr=>Holds.get 1 rfl hr) (.c (x:=(x3*y3)) (cs:=[a2.b,a2.l]) a2 rfl rfl rfl (fun g hr=>Holds.get 0 rfl hr) .n)))) (fun b7 _=> ?_))
 refine Qw 0 rfl .z<|zt 16 (zp rfl (qS rfl) zP (zoG (by rfl) zL (by exact Ro.zuJ om om om)) (qX 0 rfl) ?_)
 rintro a3 -
 refine zt 17 (zH rfl rfl rfl rfl z8 (.t2 .nil) ?_)
 refine zU kr<|zi<|vv ?_
 exact zq rfl a3 trivial (zy 0 z4 rfl rfl (.t2 .nil)) rfl oN (s0 rfl)
end Sp
namespace Sp
open Go Go.Lib
section
variable {P : Program} {n : Sz} {m : Fm} {O : List As} {R : List Fa} {d : Option Tmp} {ty : TypeId} {ps : String} {af : Array Edge} {gd : Option (Nat × Bool)} {α : Type}
theorem ziE {t tn T:TypeId} {bytes:Nat} {z:Value} {x y:Operand} {kn:IntKind} {k:Nat} {r:Rp α} (hu:P.underlying t=some (.slice T)) (hun:P.underlying tn=some (.int kn)) (hI:Inf P T r.sz bytes z) (hpos:0<r.sz) (hzs:z.cells.size=r.sz)
    (h1:vz m x=some (.slice none 0 0)) (h2:vz m y=some (.int .i64 (k:Int))) (h0:0<k) (hm:k≤9223372036854775807) (hb:k*bytes≤281474976710656):
    Ef P n ⟨d,.call ⟨.builtin .append,#[x,y],#[t,tn]⟩,ty,ps,af,gd⟩ m [] R (Y:=Nat×Nat) (fun _=>True) (fun v=> .slice (some ⟨v.1,0,none⟩) k v.2) (fun v=>[rowA T r (some ⟨v.1,0,none⟩) v.2 []]) (fun _=>[]):=by
  intro a f w hh g s rr ap hw hg K Q hK
  have e:hh=Hp.emp:=s
  subst e
  obtain ⟨i,hi,hz,hsz,hbyt⟩:=hI.info
  have hrun:=run_append_nil_zeros (P:=P) w t tn ty T i z .i64 kn hu hun hi hz k h0 Oo Oo (by rw [hbyt];exact hb)
  have hexec:(execOp a.eval ⟨d,.call ⟨.builtin .append,#[x,y],#[t,tn]⟩,ty,ps,af,gd⟩).run P w= .ok (.value (.slice (some ⟨w.heap.size,0,none⟩) k (grownCap w k 0 T))) (w.drew.alloc (.cells (Builtin.zeroCells z.cells k++Builtin.zeroCells z.cells (grownCap w k 0 T - k)) T)):=by
    simp only [execOp,resolve,invoke,builtin,Sem.run_bind,Sem.run_pure,Result.andThen_ok,yaw,List.map_cons,List.map_nil,f.ev h1,f.ev h2,hrun]
  have hge:=grownCap_ge w k 0 T
  refine Zh hexec ?_
  refine hK (w.heap.size,grownCap w k 0 T) _ trivial (zch (Vz (w:=w.drew) hw hg ?_))
  refine .inr ⟨w.heap.size,0,(Builtin.zeroCells z.cells k++Builtin.zeroCells z.cells (grownCap w k 0 T - k)).toList,rfl,yN _,grownCap_le_maxLen w _ 0 T (by unfold maxLen;omega),?_,?_,fun j x hx=>by simp at hx⟩
  · simp only [Array.length_toList, Array.size_append, size_zeroCells, hzs]
    rw [← yaj,show k+(grownCap w k 0 T - k)=grownCap w k 0 T by omega,Nat.zero_add];exact yJ _
  · rw [Array.toArray_toList];rfl
theorem mx8 (a b:Int):(if a<b then b else a)=max a b:=by by_cases h:a<b <;> simp [h,Int.max_def] <;> omega
theorem zqR {x1 x2 x3 x4 x5 x6 x7 x8:Operand} {ats:Array TypeId} {k:IntKind} {a b c e u v w q:Int} (h1:vz m x1=some (.int k a)) (h2:vz m x2=some (.int k b)) (h3:vz m x3=some (.int k c)) (h4:vz m x4=some (.int k e)) (h5:vz m x5=some (.int k u)) (h6:vz m x6=some (.int k v)) (h7:vz m x7=some (.int k w)) (h8:vz m x8=some (.int k q)):
    PV P n ⟨d,.call ⟨.builtin .max,#[x1,x2,x3,x4,x5,x6,x7,x8],ats⟩,ty,ps,af,gd⟩ m (.int k (max (max (max (max (max (max (max a b) c) e) u) v) w) q)):=fun ac w f=>by
  simp [execOp,resolve,invoke,builtin,Builtin.max_,Builtin.max2,f.ev h1,f.ev h2,f.ev h3,f.ev h4,f.ev h5,f.ev h6,f.ev h7,f.ev h8,mx8]
theorem zoI {t e:TypeId} {x:Operand} {p:Option Addr} {k cap:Nat} (hu:P.underlying t=some (.slice e)) (h:vz m x=some (.slice p k cap)):PV P n ⟨d,.call ⟨.builtin .cap,#[x],#[t]⟩,ty,ps,af,gd⟩ m (.int .i64 ((cap:Nat):Int)):=fun ac w f=>by
  simp [execOp,resolve,invoke,builtin,Builtin.cap_,run_underlying hu,f.ev h,goInt]
end
end Sp
namespace Sp
open Go
section
variable {P : Program} {n : Sz} {m : Fm} {R : List Fa} {d : Option Tmp} {ty : TypeId} {ps : String} {af : Array Edge} {gd : Option (Nat × Bool)} {α : Type}
theorem W3 {s e:TypeId} {x ix:Operand} {kk k:IntKind} {i:Nat} {a b c:Int} (hu:P.underlying s=some (.array 3 e)) (ht:Ty P e 1 false)
    (h:vz m x=some (.agg #[.int k a,.int k b,.int k c])) (hi:vz m ix=some (.int kk (i:Int))) (hl:i<3):
    PV P n ⟨d,.index s x ix,ty,ps,af,gd⟩ m (.int k (([a,b,c]:List Int).getD i 0)):=by
  rcases (show i=0∨i=1∨i=2 by omega) with rfl|rfl|rfl
  · exact ZO (i:=0) (cells:=[.int k a,.int k b,.int k c]) hu ht h hi Od rfl
  · exact ZO (i:=1) (cells:=[.int k a,.int k b,.int k c]) hu ht h hi Od rfl
  · exact ZO (i:=2) (cells:=[.int k a,.int k b,.int k c]) hu ht h hi Od rfl
theorem WD (w:World) (dT sT ty elem:TypeId) (g o dLen dCap:Nat) (a:Addr) (sLen sCap sz:Nat) (cur:Array Value) (t:TypeId) (cs:List Value)
    (hu:P.underlying dT=some (.slice elem)) (hs:(P.info? elem).map (·.size)=some sz)
    (hg:w.heap[g]? =some (.cells cur t (0,0))) (hn:cs.length=Nat.min sLen dLen*sz)
    (hsrc:∀j v,cs[j]? =some v→w.cell? (a.add j)=some v) (hfit:o+cs.length≤cur.size) (h1:∀v∈cs,v.oneCell'=true):
    (Builtin.copy_ #[dT,sT] ty #[.slice (some ⟨g,o,none⟩) dLen dCap,.slice (some a) sLen sCap]).run P w=
      .ok (goInt (Nat.min sLen dLen)) (w.setRow g (cur.toList.take o++cs++cur.toList.drop (o+cs.length)).toArray):=by
  have hl:=run_loadCells_list (P:=P) w a cs hsrc
  have hst:=run_storeCells_at P g o t cs 0 cur w hg (by simpa using hfit) h1
  cases hq:P.info? elem with
  |none=>simp [hq] at hs
  |some i=>
    have hi:i.size=sz:=by simpa [hq] using hs
    simp [Builtin.copy_,run_underlying hu,Builtin.lenOf,Builtin.firstCells,sizeOf,typeInfo,hq,hi,←hn,hl,hst]
theorem zgV {r:Rp α} {g:Hp} {cells news:List Value} {off lo:Nat} {xs ys:List α} (hel:Els r g cells off xs) (hlo:lo+ys.length≤xs.length) (hnl:news.length=ys.length*r.sz) (hfit:off+xs.length*r.sz≤cells.length)
    (hne:∀i x,ys[i]? =some x→∃γ,JL news (i*r.sz) r.sz (r.enc x γ)∧r.ok g x γ):
    Els r g (cells.take (off+lo*r.sz)++news++cells.drop (off+lo*r.sz+news.length)) off (xs.take lo++(ys++xs.drop (lo+ys.length))):=by
  have hm:lo*r.sz+news.length≤xs.length*r.sz:=by rw [hnl,←yaj];exact yI _ hlo
  have hsp:=WH (cells:=cells) (news:=news) (o:=off+lo*r.sz) Oo
  intro i x hi
  have hl1:(xs.take lo).length=lo:=by rw [yK];omega
  rw [List.getElem?_append,hl1] at hi
  have out:(i<lo∨lo+ys.length≤i)→xs[i]? =some x→∃γ,JL (cells.take (off+lo*r.sz)++news++cells.drop (off+lo*r.sz+news.length)) (off+i*r.sz) r.sz (r.enc x γ)∧r.ok g x γ:=fun hio hx=>by
    obtain ⟨γ,a1,a2⟩:=hel i x hx
    refine ⟨γ,⟨a1.1,fun z u hu=> ?_⟩,a2⟩
    have hz:z<r.sz:=by have:=(yU.1 hu).1;rwa [r.len] at this
    rw [hsp,if_neg]
    · exact a1.2 z u hu
    · rintro ⟨b1, b2⟩
      rcases hio with hio|hio
      · have : (i + 1) * r.sz ≤ lo * r.sz := yI _ hio
        rw [yaj] at this;omega
      · have : (lo + ys.length) * r.sz ≤ i * r.sz := yI _ hio
        rw [yaj] at this;omega
  by_cases h1:i<lo
  · rw [if_pos h1, yW, if_pos h1] at hi
    exact out (.inl h1) hi
  · rw [if_neg h1, List.getElem?_append] at hi
    by_cases h2:i - lo<ys.length
    · rw [if_pos h2] at hi
      obtain ⟨γ,a1,a2⟩:=hne _ x hi
      refine ⟨γ,⟨a1.1,fun z u hu=> ?_⟩,a2⟩
      have hz:z<r.sz:=by have:=(yU.1 hu).1;rwa [r.len] at this
      have e1:i*r.sz=lo*r.sz+(i - lo)*r.sz:=by rw [← yaj];congr 1;omega
      have e2:(i - lo+1)*r.sz≤ys.length*r.sz:=yI _ h2
      rw [yaj] at e2
      rw [hsp,if_pos Oo,show off+i*r.sz+z - (off+lo*r.sz)=(i - lo)*r.sz+z by omega]
      exact a1.2 z u hu
    · rw [if_neg h2, yX] at hi
      refine out (.inr Oo) ?_
      rw [← hi];congr 1;omega
theorem zlo {b off cap lo sz:Nat} (h:lo<cap):Z9 (some ⟨b,off,none⟩) cap lo sz=some ⟨b,off+lo*sz,none⟩:=by
  unfold Z9;rw [if_neg Oo];show some (Addr.add _ _)=_;rw [Addr.add_lit]
theorem zoJ {dT sT T e:TypeId} {x y:Operand} {r:Rp α} {p q:Option Addr} {cap k k2 cap2:Nat} {xs ys:List α} (j:Nat) (hj:R[j]? =some (zI r q cap2 ys)) (hu:P.underlying dT=some (.slice e)) (ht:(P.info? e).map (·.size)=some r.sz)
    (h1:vz m x=some (.slice p k cap)) (hk:xs.length=k) (h2:vz m y=some (.slice q k2 cap2)) (hk2:ys.length=k2) (h0:0<k2) (hle:k2≤k):
    Ef P n ⟨d,.call ⟨.builtin .copy,#[x,y],#[dT,sT]⟩,ty,ps,af,gd⟩ m [rowA T r p cap xs] R (Y:=Unit) (fun _=>True) (fun _=> .int .i64 (k2:Int)) (fun _=>[rowA T r p cap (xs.take 0++(ys++xs.drop (0+ys.length)))]) (fun _=>[]):=by
  intro a f w hh g s rr ap hw hg K Q hK
  obtain ⟨e1,e2,a1,e3,hA,e4⟩:=s
  have hk2':e2=Hp.emp:=e4
  subst hk2'
  rw [Hp.join_emp] at e3
  subst e3
  have hs:Sl r g q cap2 ys:=Holds.get j hj rr
  have hne:ys≠[]:=fun e=>by rw [e] at hk2;simp at hk2;omega
  obtain ⟨b2,off2,news,hq,hnl,hnc,hn1,hne'⟩:=hs.flat hne
  subst hq
  have hA':Qv T r p cap xs g hh:=hA
  rcases hA' with ⟨_,_,rfl,_⟩|⟨b,off,cells,rfl,hlc,hcm,hcl,rfl,hel⟩
  · simp at hk;omega
  · have hblk := hw _ _ (Hp.single_self _ _)
    have hnews:∀j u,news[j]? =some u→w.cell? ((⟨b2,off2,none⟩:Addr).add j)=some u:=fun j u e=>by rw [Addr.add_lit];exact hnc w hg j u e
    have hmin:Nat.min k2 k=k2:=Nat.min_eq_left hle
    have hxs:xs.length*r.sz≤cap*r.sz:=yI _ hlc
    have hys:ys.length*r.sz≤xs.length*r.sz:=yI _ Oo
    have hfit:off+news.length≤cells.length:=Oo
    have hr:=WD w dT sT ty e b off k cap ⟨b2,off2,none⟩ k2 cap2 r.sz cells.toArray T news hu ht hblk (by rw [hmin,hnl,hk2]) hnews (by simpa using hfit) hn1
    have hrun:(execOp a.eval ⟨d,.call ⟨.builtin .copy,#[x,y],#[dT,sT]⟩,ty,ps,af,gd⟩).run P w= .ok (.value (.int .i64 (k2:Int))) (w.setRow b (cells.take off++news++cells.drop (off+news.length)).toArray):=by
      simp only [execOp,resolve,invoke,builtin,Sem.run_bind,Sem.run_pure,Result.andThen_ok,yaw,List.map_cons,List.map_nil,f.ev h1,f.ev h2,hr,hmin]
      rfl
    refine Zh hrun ?_
    refine hK () _ trivial (Wc ap hw hg (A:=rowA T r (some ⟨b,off,none⟩) cap (xs.take 0++(ys++xs.drop (0+ys.length)))) ?_ (setRow_heap w b _ _ T _ hblk) (fun k hk=>setRow_other w b k _ hk) (by simp) rfl rfl rfl)
    refine .inr ⟨b,off,_,rfl,?_,hcm,?_,rfl,?_⟩
    · simp only [yO,yK,yR];omega
    · simp only [yO,yK,yR] at hfit ⊢;omega
    · have := zgV (lo := 0) hel Oo hnl Oo hne'
      simpa using this
theorem zoK {dT sT T e:TypeId} {x y:Operand} {r:Rp α} {p:Option Addr} {cap lo k c2 k2:Nat} {xs:List α} (hu:P.underlying dT=some (.slice e)) (ht:(P.info? e).map (·.size)=some r.sz)
    (h1:vz m x=some (.slice (Z9 p cap lo r.sz) k c2)) (hk:lo+k=xs.length) (h2:vz m y=some (.slice p lo cap)) (h0:0<k) (hlo:0<lo) (hk2:min lo k=k2):
    Ef P n ⟨d,.call ⟨.builtin .copy,#[x,y],#[dT,sT]⟩,ty,ps,af,gd⟩ m [rowA T r p cap xs] R (Y:=Unit) (fun _=>True) (fun _=> .int .i64 (k2:Int)) (fun _=>[rowA T r p cap (xs.take lo++(xs.take k2++xs.drop (lo+(xs.take k2).length)))]) (fun _=>[]):=by
  intro a f w hh g s rr ap hw hg K Q hK
  obtain ⟨e1,e2,a1,e3,hA,e4⟩:=s
  have hk2':e2=Hp.emp:=e4
  subst hk2'
  rw [Hp.join_emp] at e3
  subst e3
  have hA':Qv T r p cap xs g hh:=hA
  rcases hA' with ⟨_,_,rfl,_⟩|⟨b,off,cells,rfl,hlc,hcm,hcl,rfl,hel⟩
  · simp at hk;omega
  · have hblk := hw _ _ (Hp.single_self _ _)
    rw [zlo Oo] at h1
    have hl2:(xs.take k2).length=k2:=by rw [yK];omega
    have hxs:xs.length*r.sz≤cap*r.sz:=yI _ hlc
    have hys:(lo+k2)*r.sz≤xs.length*r.sz:=yI _ Oo
    rw [yaj] at hys
    have helk:Els r g cells off (xs.take k2):=fun i x hx=>by
      rw [yW] at hx
      split at hx
      · exact hel i x hx
      · cases hx
    have hfl:=helk.flat (by rw [hl2];omega)
    rw [hl2] at hfl
    have hnl:((cells.drop off).take (k2*r.sz)).length=k2*r.sz:=by rw [yK,yR];omega
    have hget:∀z:Nat,z<k2*r.sz→((cells.drop off).take (k2*r.sz))[z]? =cells[off+z]? :=fun z hz=>by rw [yW,if_pos hz,yX]
    have hone:∀u∈(cells.drop off).take (k2*r.sz),u.oneCell'=true:=fun u hu=>by
      obtain ⟨z,hz,e1⟩:=List.mem_iff_getElem.1 hu
      rw [hnl] at hz
      have hsz:0<r.sz:=Nat.pos_of_ne_zero fun e=>by rw [e,Nat.mul_zero] at hz;omega
      have hq:z / r.sz<k2:=(Nat.div_lt_iff_lt_mul hsz).2 hz
      have hq2:z / r.sz<(xs.take k2).length:=Oo
      obtain ⟨γ,a1,_⟩:=hfl (z / r.sz) _ (yA hq2)
      have hr2:z%r.sz<(r.enc ((xs.take k2)[z / r.sz]) γ).length:=by rw [r.len];exact Nat.mod_lt _ hsz
      have a3:=a1.2 (z%r.sz) _ (yA hr2)
      rw [show z / r.sz*r.sz+z%r.sz=z by rw [Nat.mul_comm];exact Nat.div_add_mod z r.sz,yA (by rw [hnl];exact hz),e1] at a3
      cases a3
      have:=r.one ((xs.take k2)[z / r.sz]) γ
      rw [List.all_eq_true] at this
      exact this _ (List.getElem_mem hr2)
    have hnews:∀j u,((cells.drop off).take (k2*r.sz))[j]? =some u→w.cell? ((⟨b,off,none⟩:Addr).add j)=some u:=fun j u e=>by
      have hj:=(yU.1 e).1
      rw [hnl] at hj
      rw [hget j hj] at e
      rw [Addr.add_lit]
      simp [World.cell?,hblk,e]
    have hmin:Nat.min lo k=k2:=hk2
    have hfit:off+lo*r.sz+((cells.drop off).take (k2*r.sz)).length≤cells.length:=by rw [hnl];omega
    have hr:=WD w dT sT ty e b (off+lo*r.sz) k c2 ⟨b,off,none⟩ lo cap r.sz cells.toArray T _ hu ht hblk (by rw [hmin,hnl]) hnews (by simpa using hfit) hone
    have hrun:(execOp a.eval ⟨d,.call ⟨.builtin .copy,#[x,y],#[dT,sT]⟩,ty,ps,af,gd⟩).run P w= .ok (.value (.int .i64 (k2:Int))) (w.setRow b (cells.take (off+lo*r.sz)++(cells.drop off).take (k2*r.sz)++cells.drop (off+lo*r.sz+((cells.drop off).take (k2*r.sz)).length)).toArray):=by
      simp only [execOp,resolve,invoke,builtin,Sem.run_bind,Sem.run_pure,Result.andThen_ok,yaw,List.map_cons,List.map_nil,f.ev h1,f.ev h2,hr,hmin]
      rfl
    refine Zh hrun ?_
    refine hK () _ trivial (Wc ap hw hg (A:=rowA T r (some ⟨b,off,none⟩) cap (xs.take lo++(xs.take k2++xs.drop (lo+(xs.take k2).length)))) ?_ (setRow_heap w b _ _ T _ hblk) (fun k hk=>setRow_other w b k _ hk) (by simp) rfl rfl rfl)
    refine .inr ⟨b,off,_,rfl,?_,hcm,?_,rfl,?_⟩
    · simp only [yO,yK,yR];omega
    · simp only [yO,yK,yR] at hfit ⊢;omega
    · exact zgV hel Oo (by rw [hnl,hl2]) Oo hfl
end
end Sp
namespace Sp
open Go
theorem jC {R:List Fa} {p:Option Addr} {c:Nat} {l:List Rat} (i:Nat) (hi:R[i]? =some (zI rQ p c l)):∀g,Holds g R→Holds g (zI rE p c (l.map some) :: R):=fun g h=>⟨zsr i hi g h,h⟩
theorem zoL {R:List Fa} {u v:Wd} {q:Rat} (i:Nat) (hi:R[i]? =some (qF true u v q)):∀g,Holds g R→Holds g (eF u v (some q) :: R):=fun g h=>⟨Kz (Holds.get i hi h),h⟩
section
variable {P : Program} {n : Sz} {m : Fm} {O : List As} {R : List Fa} {d : Option Tmp} {ty : TypeId} {ps : String} {af : Array Edge} {gd : Option (Nat × Bool)}
theorem ziF {t e:TypeId} {sz:Nat} {p:Option Addr} {len cap hi:Nat} {k1 k2:IntKind} {w:World} (hu:P.underlying t=some (.slice e)) (ht:(P.info? e).map (·.size)=some sz) (hhc:hi≤cap):
    (Instr.sliceAt t (.slice p len cap) none (some (.int k1 (hi:Int))) (some (.int k2 (hi:Int)))).run P w= .ok (.slice p hi hi) w:=by
  have a2:(hi:Int)≤(cap:Int):=Oo
  have h0:p.map (·.add 0)=p:=by cases p <;> simp [Addr.add]
  simp [Instr.sliceAt,Instr.slice,Instr.sliceBounds,Instr.sliceBound,asIntOf,run_underlying hu,v7 ht,hhc,h0]
theorem zbm {t e:TypeId} {x y z:Operand} {k1 k2:IntKind} {sz hi k cap:Nat} {p:Option Addr} (hu:P.underlying t=some (.slice e)) (ht:(P.info? e).map (·.size)=some sz) (h0:vz m x=some (.slice p k cap)) (h1:vz m y=some (.int k1 (hi:Int))) (h2:vz m z=some (.int k2 (hi:Int))) (hhc:hi≤cap):
    PV P n ⟨d,.slice t x none (some y) (some z),ty,ps,af,gd⟩ m (.slice p hi hi):=fun a w f=>by
  have:=ziF (P:=P) (p:=p) (len:=k) (w:=w) (k1:=k1) (k2:=k2) hu ht hhc
  simp only [execOp,f.ev h0,f.ev h1,f.ev h2,Option.map_none,yax,Sem.run_bind,this,Result.andThen_ok,Sem.run_pure]
theorem Sl.take3 {α:Type} {r:Rp α} {g:Hp} {p:Option Addr} {cap:Nat} {xs:List α} (s:Sl r g p cap xs) (n:Nat) (hn:n≤xs.length):Sl r g p n (xs.take n):=by
  obtain ⟨h1,h2,h3,h4⟩:=s
  refine ⟨by rw [yK];omega,Oo,fun e=>by have:=h3 e;omega,fun i x e=> ?_⟩
  rw [yW] at e
  by_cases h:i<n
  · rw [if_pos h] at e;exact h4 i x e
  · rw [if_neg h] at e;cases e
theorem zbn {α:Type} {r:Rp α} {p:Option Addr} {cap:Nat} {xs:List α} (i:Nat) (hi:R[i]? =some (zI r p cap xs)) (n:Nat) (hn:n≤xs.length):∀g,Holds g R→Holds g (zI r p n (xs.take n) :: R):=fun g h=>⟨Sl.take3 (Holds.get i hi h:Sl r g p cap xs) n hn,h⟩
end
end Sp
namespace Sp
open Go
section
variable {P : Program} {n : Sz} {m : Fm} {O : List As} {R : List Fa} {d : Option Tmp} {ty : TypeId} {ps : String} {af : Array Edge} {gd : Option (Nat × Bool)}
theorem zgW {t e:TypeId} {sz:Nat} {p:Option Addr} {len cap lo hi:Nat} {k1 k2 k3:IntKind} {w:World} (hu:P.underlying t=some (.slice e)) (ht:(P.info? e).map (·.size)=some sz) (hlh:lo≤hi) (hhc:hi≤cap):
    (Instr.sliceAt t (.slice p len cap) (some (.int k1 (lo:Int))) (some (.int k2 (hi:Int))) (some (.int k3 (hi:Int)))).run P w= .ok (.slice (Z9 p hi lo sz) (hi - lo) (hi - lo)) w:=by
  have a1:(lo:Int)≤(hi:Int):=Oo
  have a2:(hi:Int)≤(cap:Int):=Oo
  simp [Instr.sliceAt,Instr.slice,Instr.sliceBounds,Instr.sliceBound,asIntOf,run_underlying hu,v7 ht,hhc,hlh,Z9]
theorem zdj {t e:TypeId} {x u y z:Operand} {k1 k2 k3:IntKind} {sz lo hi k cap:Nat} {p:Option Addr} (hu:P.underlying t=some (.slice e)) (ht:(P.info? e).map (·.size)=some sz) (h0:vz m x=some (.slice p k cap)) (h1:vz m u=some (.int k1 (lo:Int))) (h2:vz m y=some (.int k2 (hi:Int))) (h3:vz m z=some (.int k3 (hi:Int))) (hlh:lo≤hi) (hhc:hi≤cap):
    PV P n ⟨d,.slice t x (some u) (some y) (some z),ty,ps,af,gd⟩ m (.slice (Z9 p hi lo sz) (hi - lo) (hi - lo)):=fun a w f=>by
  have:=zgW (P:=P) (p:=p) (len:=k) (w:=w) (k1:=k1) (k2:=k2) (k3:=k3) hu ht hlh hhc
  simp only [execOp,f.ev h0,f.ev h1,f.ev h2,f.ev h3,yax,Sem.run_bind,this,Result.andThen_ok,Sem.run_pure]
theorem zec {α:Type} {r:Rp α} {p:Option Addr} {cap:Nat} {xs:List α} (i:Nat) (hi:R[i]? =some (zI r p cap xs)) (lo hi':Nat) (hlh:lo≤hi') (hhi:hi'≤xs.length):∀g,Holds g R→Holds g (zI r (Z9 p hi' lo r.sz) (hi' - lo) ((xs.take hi').drop lo) :: R):=fun g h=>
  ⟨by
    have h1:=Sl.take3 (Holds.get i hi h:Sl r g p cap xs) hi' hhi
    have h2:=h1.reslice lo hi' hlh (by rw [yK];omega)
    rw [List.take_take,Nat.min_self] at h2
    exact h2,h⟩
end
end Sp
namespace Sp
open Go
section
variable {P : Program} {n : Sz} {m : Fm} {O : List As} {R : List Fa} {d : Option Tmp} {ty : TypeId} {ps : String} {af : Array Edge} {gd : Option (Nat × Bool)}
theorem zgX {s e:TypeId} {x ix:Operand} {kk k:IntKind} {i:Nat} {a0 a1 a2 b0 b1 b2 c0 c1 c2:Int} {E:List (Int×Int×Int)} (hE:E=[(a0,a1,a2),(b0,b1,b2),(c0,c1,c2)]) (hu:P.underlying s=some (.array 3 e)) (ht:Ty P e 3 true)
    (h:vz m x=some (.agg #[.int k a0,.int k a1,.int k a2,.int k b0,.int k b1,.int k b2,.int k c0,.int k c1,.int k c2])) (hi:vz m ix=some (.int kk (i:Int))) (hl:i<3):
    PV P n ⟨d,.index s x ix,ty,ps,af,gd⟩ m (.agg #[.int k (E.getD i (0,0,0)).1,.int k (E.getD i (0,0,0)).2.1,.int k (E.getD i (0,0,0)).2.2]):=by
  subst hE
  rcases (show i=0∨i=1∨i=2 by omega) with rfl|rfl|rfl
  · exact J2 (i:=0) (cells:=[.int k a0,.int k a1,.int k a2,.int k b0,.int k b1,.int k b2,.int k c0,.int k c1,.int k c2]) (cs:=[.int k a0,.int k a1,.int k a2]) hu ht h hi Od (.take (.take (.take .nil)))
  · exact J2 (i:=1) (cells:=[.int k a0,.int k a1,.int k a2,.int k b0,.int k b1,.int k b2,.int k c0,.int k c1,.int k c2]) (cs:=[.int k b0,.int k b1,.int k b2]) hu ht h hi Od (.skip (.skip (.skip (.take (.take (.take .nil))))))
  · exact J2 (i:=2) (cells:=[.int k a0,.int k a1,.int k a2,.int k b0,.int k b1,.int k b2,.int k c0,.int k c1,.int k c2]) (cs:=[.int k c0,.int k c1,.int k c2]) hu ht h hi Od (.skip (.skip (.skip (.skip (.skip (.skip (.take (.take (.take .nil)))))))))
end
end Sp
namespace Sp
open Go
theorem zqS {g:Hp} {b:Nat} {cs:List Value} (h:AtP g b 0 cs) (k m:Nat):AtP g b k ((cs.drop k).take m):=by
  obtain ⟨cells,T,fz,e,hc⟩:=h
  refine ⟨cells,T,fz,e,fun j v hv=> ?_⟩
  rw [yW] at hv
  split at hv
  · rw [yX] at hv
    have:=hc (k+j) v hv
    rwa [Nat.zero_add] at this
  · cases hv
theorem zkr:∀(ws:List Wd) (i:Nat) (w:Wd),ws[i]? =some w→((ws.flatMap fun w=>[w.b,w.l]).drop (2*i)).take 2=[w.b,w.l]
  |[],i,w,h=>by simp at h
  |v :: ws,0,w,h=>by simp at h;subst h;rfl
  |v :: ws,i+1,w,h=>by
    have:=zkr ws i w (by simpa using h)
    rw [List.flatMap_cons,show 2*(i+1)=2*i+2 by omega]
    exact this
theorem zoM {R:List Fa} {b:Nat} {cs:List Value} (ws:List Wd) (xs:List Int) (i:Nat) (hi:R[i]? =some (j8 b 0 cs)) (hc:cs=ws.flatMap fun w=>[w.b,w.l]) (hl:xs.length≤1000) (hz:∀g,Holds g R→∀(j:Nat) (x:Int),xs[j]? =some x→∃w,ws[j]? =some w∧(zF w x).on g):
    ∀g,Holds g R→(zI rZ (some ⟨b,0,none⟩) xs.length xs).on g:=fun g h=>by
  have ha:AtP g b 0 cs:=Holds.get i hi h
  refine ⟨yJ _,by unfold maxLen;omega,(fun e=>by cases e),fun j x hx=> ?_⟩
  obtain ⟨w,hw,k⟩:=hz g h j x hx
  refine ⟨b,0,w,rfl,?_,k⟩
  have:=zqS ha (2*j) 2
  rw [hc,zkr ws j w hw] at this
  have e:0+j*rZ.sz=2*j:=by show 0+j*2=_;omega
  rw [e];exact this
end Sp
namespace Sp
open Go
section
variable {P : Program} {c : Cx} {n : Sz} {Q : Exit → Act → World → Prop} {m : Fm} {O : List As} {R : List Fa} {α : Type} {d : Option Tmp} {ty : TypeId} {ps : String} {af : Array Edge} {gd : Option (Nat × Bool)}
theorem Qv.drop {T:TypeId} {r:Rp α} {p:Option Addr} {cap:Nat} {l:List α} {g h:Hp} (k:Nat) (hk:k≤l.length) (s:Qv T r p cap l g h):Qv T r (Z9 p cap k r.sz) (cap - k) (l.drop k) g h:=by
  rcases s with ⟨h1,h2,h3,h4⟩|⟨b,off,cells,e1,e2,e3,e4,e5,e6⟩
  · subst h3; simp at hk; subst hk
    exact .inl ⟨by unfold Z9;rw [h1];split <;> rfl,Oo,rfl,h4⟩
  · by_cases e : cap = k
    · refine .inr ⟨b, off, cells, by unfold Z9; rw [if_pos e, e1], by rw [yR]; omega, by omega, ?_, e5, fun i x h => ?_⟩
      · rw [e,Nat.sub_self,Nat.zero_mul];omega
      · rw [yX] at h
        have:=(yU.1 h).1;omega
    · refine .inr ⟨b, off + k * r.sz, cells, ?_, by rw [yR]; omega, by omega, ?_, e5, fun i x h => ?_⟩
      · unfold Z9; rw [if_neg e, e1]
        by_cases z:k*r.sz=0
        · rw [z];simp [Addr.add]
        · simp [Addr.add,z]
      · have : (cap - k) * r.sz + k * r.sz = cap * r.sz := by rw [← yaj]; congr 1; omega
        omega
      · rw [yX] at h
        obtain ⟨γ,a1,a2⟩:=e6 (k+i) x h
        refine ⟨γ,⟨a1.1,fun j v hv=> ?_⟩,a2⟩
        have:=a1.2 j v hv
        rw [yaj] at this
        rw [show off+k*r.sz+i*r.sz+j=off+(k*r.sz+i*r.sz)+j by omega];exact this
theorem zfx {t e:TypeId} {x:Operand} {b o len sz:Nat} (hu:P.underlying t=some (.array len e)) (ht:(P.info? e).map (·.size)=some sz) (h:vz m x=some (.pointer (some ⟨b,o,none⟩))):
    PV P n ⟨d,.slice t x none none none,ty,ps,af,gd⟩ m (.slice (some ⟨b,o,none⟩) len len):=fun a w f=>by
  have e:Instr.sureAddr (.pointer (some ⟨b,o,none⟩))=pure ⟨b,o,none⟩:=rfl
  simp [execOp,f.ev h,Instr.sliceAt,Instr.sliceBounds,run_underlying hu,v7 ht,Instr.sureAddr,Addr.add]
end
end Sp
namespace Sp
open Go
set_option maxRecDepth 100000
set_option maxHeartbeats 8000000
variable {K N:Nat} {u1 v1:Wd}
theorem zoN {u1:Wd} {u2:Wd} {u3:Wd} {v1:Wd} {v2:Wd} {v3:Wd} {q1:Wd} {q2:Wd} {q3:Wd} {x1:Int} {x2:Int} {x3:Int} {y1:Int} {y2:Int} {y3:Int} {k1:Int} {k2:Int} {k3:Int} (hx1:yi x1≤1000) (hx2:yi x2≤1000) (hx3:yi x3≤1000) (hy1:yi y1≤1000) (hy2:yi y2≤1000) (hy3:yi y3≤1000) (hk1:yi k1≤1000) (hk2:yi k2≤1000) (hk3:yi k3≤1000):CB 182 [.agg #[u1.b,u1.l,u2.b,u2.l,u3.b,u3.l],.agg #[v1.b,v1.l,v2.b,v2.l,v3.b,v3.l],.agg #[q1.b,q1.l,q2.b,q2.l,q3.b,q3.l]] [zF u1 x1,zF u2 x2,zF u3 x3,zF v1 y1,zF v2 y2,zF v3 y3,zF q1 k1,zF q2 k2,zF q3 k3] (Y:=Wd) (fun y=> .agg #[y.b,y.l]) (fun y=>[zF y (Ro.zfw [(x2*y3 - x3*y2)*k1,(x3*y1 - x1*y3)*k2,(x1*y2 - x2*y1)*k3] 3)]):=by
 refine zg Tryz.func182 rfl rfl (fun c=> ?_)
 have a1:=ym x1 y1
 have a2:=ym x1 y2
 have a3:=ym x1 y3
 have a4:=ym x2 y1
 have a5:=ym x2 y2
 have a6:=ym x2 y3
 have a7:=ym x3 y1
 have a8:=ym x3 y2
 have a9:=ym x3 y3
 have hs1:=Big.WM (x2*y3) (x3*y2)
 have hs2:=Big.WM (x3*y1) (x1*y3)
 have hs3:=Big.WM (x1*y2) (x2*y1)
 refine vg<|zB (zX rfl rfl) (fun b1=> ?_)
 refine zB (zX rfl rfl) (fun b2=> ?_)
 refine zB (zX rfl rfl) (fun b3=> ?_)
 refine zB (zo jo rfl) (fun b4=> ?_)
 refine ZI<|Vk 5<|qy 0 rfl (za 3 zbs rfl rfl (.t4 (.t2 .nil)))<|qy 1 rfl (za 2 zbs rfl rfl (.t4 (.t2 .nil)))<|qy 3 rfl (za 1 zbs rfl rfl (.t4 (.t2 .nil)))<|zt 2 (zp rfl (q7 rfl rfl) zP (ziD qB qB qB qB qB qB) (.c (j:=0) rfl (.c (j:=1) rfl (.c (j:=2) rfl (.c (j:=3) rfl (.c (j:=4) rfl (.c (j:=5) rfl .n)))))) ?_)
 rintro ⟨e15,e26,e37⟩ -
 refine zt 4 (zp rfl (q7 rfl rfl) zP (zoH zL zL zL zL zL zL) (.c (j:=0) rfl (.c (j:=1) rfl (.c (j:=2) rfl (.c (j:=9) rfl (.c (j:=10) rfl (.c (j:=11) rfl .n)))))) ?_)
 rintro a0 -
 refine zt 5 (zH rfl rfl rfl rfl z8 (.t2 .nil) ?_)
 refine zU kr<|zi<|vv ?_
 exact zq rfl a0 trivial (zy 0 z4 rfl rfl (.t2 .nil)) rfl oN (s0 rfl)
theorem zoO {p:Option Addr} {n:Nat} {cap:Nat} {l:List Int} (hn:l.length=n) (hn9:n≤10) (hb:∀i,yi (l.getD i 0)≤10000) (hsg:Ro.zgU l n=1):CB 236 [.slice p n cap] [zI rZ p cap l] (Y:=Wd) (fun y=> .tuple #[.agg #[y.b,y.l],.bool true]) (fun y=>[zF y (Ro.zdy l n)]):=by
 refine zg Tryz.func236 rfl rfl (fun c=> ?_)
 refine zN 0 rfl (fun hL0=> ?_)
 refine vg<|zB (zo jo rfl) (fun b1=> ?_)
 refine jD 1 rfl<|zm (qS rfl) zP (jL zL) (.n) ?_
 rintro a2 -
 refine zB (zo jo rfl) (fun b4=> ?_)
 refine zh 0 rfl rfl rfl rfl z8 (.t2 .nil) .z<|k43 1 rfl<|jK 1 rfl<|zE (vL yj rfl)<|vZ 1 rfl<|zk<|z5 (X:=Nat×Wd) (fun x=>x.1≤n) (fun x=>[(5,.int .i64 (Ro.zgU l x.1)),(11,Vi x.1)]) [10,9,4,2] (fun x=>[zK b4 30 [x.2.b,x.2.l],zK b1 30 [wz.b,wz.l]]) (fun x=>[zF x.2 (Ro.zdy l x.1)]) [0,1] (fun x=>n - x.1) (0,a2) (by exact yN _) (.e rfl (by rfl) (.e rfl vA .n)) ((.of [0,0] rfl):zJ _ _ _) ((.e (j:=0) rfl (by rfl) .n)) ?_
 rintro ⟨i,wd⟩ hI
 dsimp only at hI
 try dsimp only
 refine qe<|zv<|zE (zhq rfl rfl)<|jq<|zi<|qe<|zx rfl (fun h5=> ?_) (fun h5=> ?_)
 refine qN<|zi<|qe<|zk<|qe<|zv<|zdA rfl rfl (zM (x0:=(l.getD i (0:Int))) 2 i rfl yj z8 rfl zL rfl rfl (gD (d:=(0:Int)) om)) ?_
 rintro ⟨b6,o7,w9⟩ -
 dsimp only [aq,nq,cq]
 refine vd zeL<|zw (zA (j:=0) 0 z4 rfl rfl rfl (.t2 .nil))<|zlU rfl rfl (zo jo rfl) (fun b10=> ?_)
 refine VR 0 rfl rfl rfl rfl rfl z8 rfl (.t2 .nil) .z ?_
 refine jq<|zi<|qe<|qe<|zv<|zw (za 0 z4 rfl rfl (.t2 .nil))<|VG rfl rfl (.c rfl .n) zP (zcQ (w1:=w9) (x1:=(l.getD i (0:Int)))) (.c (j:=1) rfl .n) ?_
 refine zE (Zo rfl)<|jq<|zi<|r_cond_f9 rfl rfl ?_
 refine qN<|zi<|qe ?_
 have hbi:=hb i
 have hgi:=Ro.zkq hb i
 refine zv<|zw (za 1 z4 rfl rfl (.t2 .nil))<|zw (za 0 z4 rfl rfl (.t2 .nil))<|zfJ rfl rfl (.c rfl (.c rfl .n)) zP (KY (w1:=wd) (w2:=w9) (x1:=(Ro.zdy l i)) (x2:=(l.getD i (0:Int))) (hb1:=by first|rfl|assumption|omega|decide) (hb2:=by first|rfl|assumption|omega|decide)) (.c (j:=2) rfl (.c (j:=1) rfl .n)) ?_
 rintro a1 -
 dsimp only [aq,nq,cq]
 refine VR 1 rfl rfl rfl rfl rfl z8 rfl (.t2 .nil) (.s .z) ?_
 refine jq<|zi<|qe<|zv<|qJ rfl<|zE (zce rfl rfl)<|jq<|zi<|zx rfl (fun a0=> ?_) (fun a0=> ?_)
 refine zv<|zw (za 0 z4 rfl rfl (.t2 .nil))<|VG rfl rfl (.c rfl .n) zP (QP (w1:=w9) (x1:=(l.getD i (0:Int)))) (.c (j:=2) rfl .n) ?_
 refine zE (zT rfl)<|jq<|zG<|zi<|zv<|zE (qm (z:=(((i+1):Nat):Int)) rfl rfl (Q9 om))<|qJ rfl<|jq<|zW ((i+1),a1) (show (i+1)≤n from by show i+1≤n;omega) (by show n - (i+1)<n - i;omega) ((.e rfl (by rw [Ro.zgU,if_pos a0]) (.of rfl)):vQ _ _) (ho:=((.of [1,1] rfl):zJ _ _ _)) ((.e (j:=0) rfl (by rfl) (.of [4,5] rfl)):q9 _ _ _)
 refine qN<|zG<|zi<|zv<|zE (qm (z:=(((i+1):Nat):Int)) rfl rfl (Q9 om))<|qJ rfl<|jq<|zW ((i+1),a1) (show (i+1)≤n from by show i+1≤n;omega) (by show n - (i+1)<n - i;omega) ((.e rfl (by rw [Ro.zgU,if_neg a0]) (.of rfl)):vQ _ _) (ho:=((.of [1,1] rfl):zJ _ _ _)) ((.e (j:=0) rfl (by rfl) (.of [4,5] rfl)):q9 _ _ _)
 refine z7<|ze<|ze<|zn<|zi<|qe<|qe ?_
 have hsn:Ro.zgU l i=1:=by rw [show i=n by omega];exact hsg
 refine zv<|qJ rfl<|zE (zhq rfl rfl)<|jq<|zi<|zx rfl (fun a3=> ?_) (fun a3=> ?_)
 omega
 refine kk8<|zw (za 0 z4 rfl rfl (.t2 .nil))<|kS 2 rfl ?_
 rw [show (decide ((Ro.zgU l i)≠0))=true from by exact decide_eq_true om]
 refine zh 1 rfl rfl rfl rfl z8 (.t2 .nil) (.s .z)<|Zp 1 rfl ?_
 exact vD rfl wd trivial (zy 1 z4 rfl rfl (.t2 .nil)) (zj rfl) rfl oN ((.e (j:=0) rfl (by rw [show i=n by omega]) .n))
theorem zoP {p:Option Addr} {cap:Nat}:CA 181 [.slice p 9 cap] [zI rZ p cap (Ro.id9)] (.bool true):=by
 refine zg Tryz.func181 rfl rfl (fun c=> ?_)
 refine zN 0 rfl (fun hL0=> ?_)
 refine jS 1 rfl<|qJ rfl<|zm (qS rfl) zP (zoO (by rfl) dd (by exact Ro.ztm) Oz) (qX 0 rfl) ?_
 rintro w31 -
 refine kS 3 rfl<|zB (zo jo rfl) (fun b2=> ?_)
 refine zh 0 rfl rfl rfl rfl z8 (.t2 .nil) .z<|vZ 1 rfl<|ji (X:=Unit) (fun x=>True) (fun x=>[(2,.bool (decide (Big.cmp (Ro.zdy Ro.id9 9) 1=0)))]) (fun x=>[]) (fun x=>[]) ?_ ?_
 refine Jo 100000<|zQ 0 rfl rfl<|zQ 1 rfl rfl<|vE 2 rfl (za 0 z4 rfl rfl (.t2 .nil))<|zt 3 (zp rfl (qS rfl) zP (jL zL) (.n) ?_)
 rintro w33 -
 refine zt 4 (jU rfl (q7 rfl rfl) zP zav (vj 1 0 rfl rfl) ?_)
 refine zC 5 rfl (zce rfl rfl) ?_
 rw [show (decide (Big.cmp (Ro.zdy Ro.id9 9) 1=0))=true from by exact decide_eq_true Oz]
 refine zC 6 rfl (jx rfl rfl)<|zC 7 rfl (zT rfl)<|zU kr ?_
 exact qL () Qn ((.e rfl (congrArg Value.bool JS) .n)) oN sN
 rintro ⟨⟩ -
 refine vv ?_
 exact zq rfl () trivial (zj rfl) rfl oN sN
theorem ziG {o19:Wd} {o29:Wd} {o39:Wd} {o49:Wd} {o59:Wd} {o69:Wd} {o79:Wd} {o89:Wd} {o99:Wd}:CA 101 [.agg #[o19.b,o19.l,o29.b,o29.l,o39.b,o39.l,o49.b,o49.l,o59.b,o59.l,o69.b,o69.l,o79.b,o79.l,o89.b,o89.l,o99.b,o99.l]] [zF o19 1,zF o29 0,zF o39 0,zF o49 0,zF o59 1,zF o69 0,zF o79 0,zF o89 0,zF o99 1] (.bool true):=by
 refine zg Tryz.func101 rfl rfl (fun c=> ?_)
 refine vg<|zB (zX rfl rfl) (fun b1=> ?_)
 refine jn 1 rfl<|vU 0 rfl .z<|zey (zI rZ (Sb b1) 9 (Ro.id9)) (zoM [o19,o29,o39,o49,o59,o69,o79,o89,o99] Ro.id9 0 rfl rfl dd (fun g h=>Ro.fun9 (Holds.get 1 rfl h) (Holds.get 2 rfl h) (Holds.get 3 rfl h) (Holds.get 4 rfl h) (Holds.get 5 rfl h) (Holds.get 6 rfl h) (Holds.get 7 rfl h) (Holds.get 8 rfl h) (Holds.get 9 rfl h)))<|Jo 100000<|zC 0 rfl (zfx yb z8 rfl)<|zt 1 (jU rfl (qS rfl) zP zoP (qX 0) ?_)
 refine zQ 2 rfl rfl<|vE 3 rfl (zA (j:=0) 1 zfS rfl rfl rfl (.t8 (.t8 (.t2 .nil))))<|vE 5 rfl (zA (j:=0) 1 zfS rfl rfl rfl (.t8 (.t8 (.t2 .nil))))<|vE 7 rfl (zA (j:=0) 1 zfS rfl rfl rfl (.t8 (.t8 (.t2 .nil))))<|zt 4 (jU rfl (q7 rfl rfl) zP zll (.n) ?_)
 refine zt 6 (jU rfl (q7 rfl rfl) zP zlm (.n) ?_)
 refine zt 8 (jU rfl (q7 rfl rfl) zP zln (.n) ?_)
 refine zt 9 (zp rfl (.c rfl (.c rfl (.c rfl .n))) zP (zoN (by first|rfl|assumption|omega|decide|decide +kernel) (by first|rfl|assumption|omega|decide|decide +kernel) (by first|rfl|assumption|omega|decide|decide +kernel) (by first|rfl|assumption|omega|decide|decide +kernel) (by first|rfl|assumption|omega|decide|decide +kernel) (by first|rfl|assumption|omega|decide|decide +kernel) (by first|rfl|assumption|omega|decide|decide +kernel) (by first|rfl|assumption|omega|decide|decide +kernel) (by first|rfl|assumption|omega|decide|decide +kernel)) (.c (j:=2) rfl (.c (j:=3) rfl (.c (j:=4) rfl (.c (j:=5) rfl (.c (j:=6) rfl (.c (j:=7) rfl (.c (j:=8) rfl (.c (j:=9) rfl (.c (j:=10) rfl .n))))))))) ?_)
 rintro w33 -
 refine zt 10 (jU rfl (qS rfl) zP QP (qX 0 rfl) ?_)
 refine zC 11 rfl (zhs rfl rfl) ?_
 rw [show (decide ((Ro.zfw [(0*0 - 0*1)*0,(0*0 - 1*0)*0,(1*1 - 0*0)*1] 3).sign≠0))=true from by exact decide_eq_true Oz]
 refine zC 12 rfl (jx rfl rfl)<|zC 13 rfl (zT rfl)<|zU kr<|zi<|vv ?_
 exact zq rfl () trivial (zj rfl) rfl oN sN
theorem ziH {z:Int}:CA 104 [.int .i64 z] [] (.bool (decide (500<z∨z<(-500)))):=by
 refine zg Tryz.func104 rfl rfl (fun c=> ?_)
 refine k12 1 rfl<|ji (X:=Unit) (fun x=>True) (fun x=>[(2,.bool (decide (500<z∨z<(-500))))]) (fun x=>[]) (fun x=>[]) ?_ ?_
 refine vM 2 rfl<|q8 (qU rfl) (fun h1=> ?_) (fun h1=> ?_)
 refine qY 4 rfl ?_
 exact qL () Qn ((.e rfl (congrArg Value.bool (by first|exact (decide_eq_true om).symm|exact decide_eq_decide.2 om|exact (decide_eq_false om).symm)) .n):vQ _ _) (ho:=oN) sN
 refine qY 4 rfl ?_
 exact qL () Qn ((.e rfl (congrArg Value.bool (by first|exact (decide_eq_true om).symm|exact decide_eq_decide.2 om|exact (decide_eq_false om).symm)) .n):vQ _ _) (ho:=oN) sN
 rintro ⟨⟩ -
 refine vv ?_
 exact zq rfl () trivial (zj rfl) rfl oN sN
theorem zoQ {z:Int}:CA 245 [.int .i64 z] [] (.bool (decide (z<(-0x100000)∨0x100000<z))):=by
 refine zg Tryz.func245 rfl rfl (fun c=> ?_)
 refine k12 1 rfl<|ji (X:=Unit) (fun x=>True) (fun x=>[(2,.bool (decide (z<(-0x100000)∨0x100000<z)))]) (fun x=>[]) (fun x=>[]) ?_ ?_
 refine vM 2 rfl<|q8 (qU rfl) (fun h1=> ?_) (fun h1=> ?_)
 refine qY 4 rfl ?_
 exact qL () Qn ((.e rfl (congrArg Value.bool (by first|exact (decide_eq_true om).symm|exact decide_eq_decide.2 om|exact (decide_eq_false om).symm)) .n):vQ _ _) (ho:=oN) sN
 refine qY 4 rfl ?_
 exact qL () Qn ((.e rfl (congrArg Value.bool (by first|exact (decide_eq_true om).symm|exact decide_eq_decide.2 om|exact (decide_eq_false om).symm)) .n):vQ _ _) (ho:=oN) sN
 rintro ⟨⟩ -
 refine vv ?_
 exact zq rfl () trivial (zj rfl) rfl oN sN
theorem zlp {p:Option Addr} {n:Nat} {cap:Nat} {l:List Int} (hn:l.length=n):CC 128 [.slice p n cap,.func (.func 104) #[] #[]] [zI (rI .i64) p cap l] (Y:=Int) (fun y=>(y<0→∀jj,jj<n→(-500≤(l.getD jj 0)∧(l.getD jj 0)≤500))) (fun y=> .int .i64 y) (fun y=>[]):=by
 refine zg Tryz.func128 rfl rfl (fun c=> ?_)
 refine zN 0 rfl (fun hL0=> ?_)
 refine jg 1 rfl<|k12 3 rfl<|zk<|z5 (X:=Nat) (fun x=>x≤n∧∀k,k<x→(-500≤(l.getD k 0)∧(l.getD k 0)≤500)) (fun x=>[(8,Vi x)]) [7,0,1] (fun x=>[]) (fun x=>[]) [0] (fun x=>n - x) 0 (by exact ⟨yN _,fun j h=>by omega⟩) (.e rfl vA .n) oN sN ?_
 rintro i hI
 obtain ⟨hi,hall⟩:=hI
 refine jg 1 rfl<|zx rfl (fun h1=> ?_) (fun h1=> ?_)
 refine vY<|zk<|jS 2 rfl<|kS 3 rfl<|qH 0 i rfl yk je rfl zL rfl rfl (gD (d:=0) om) (fun b2 o3 a0=> ?_) (x0:=(l.getD i 0))
 replace a0:=zu.1 a0
 refine zw (zf (j:=0) 0 v8 rfl rfl rfl rfl)<|ZP rfl (.c rfl .n) zP ziH (.n) (first:=[]) (cap:=[]) ?_
 rintro ⟨⟩ -
 refine Vc<|zx rfl (fun a1=> ?_) (fun a1=> ?_)
 refine Zn 2 rfl<|qz<|zD<|zD<|qz<|zD ?_
 exact zq rfl ((i:Nat):Int) (fun k=>by omega) (zj rfl) rfl oN sN
 refine qN<|zG<|zi<|zv<|zE (qj rfl rfl)<|qY 1 rfl<|zW (i+1) (by refine ⟨Oo,fun k hk=> ?_⟩;by_cases e:k=i;rw [e];omega;exact hall k om) om (mR rfl) oN ((.c (j:=1) rfl .n))
 refine z7<|ze<|ze<|zn<|zi<|Zn 1 rfl ?_
 exact zq rfl (-1) (fun _ k hk=>hall k om) (zj rfl) rfl oN sN
theorem zlq {p:Option Addr} {n:Nat} {cap:Nat} {l:List Int} (hn:l.length=n):CC 44 [.slice p n cap,.func (.func 104) #[] #[]] [zI (rI .i64) p cap l] (Y:=Bool) (fun y=>(y=false→∀jj,jj<n→(-500≤(l.getD jj 0)∧(l.getD jj 0)≤500))) (fun y=> .bool y) (fun y=>[]):=by
 refine zg Tryz.func44 rfl rfl (fun c=> ?_)
 refine zN 0 rfl (fun hL0=> ?_)
 refine jS 1 rfl<|kS 2 rfl<|zm (q7 rfl rfl) zP (zlp qB) (qX 0 rfl) ?_
 rintro a0 hif
 refine Zp 2 rfl ?_
 exact zq rfl (decide (0≤a0)) (fun k=>hif (by have:=of_decide_eq_false k;omega)) (zj rfl) rfl oN sN
theorem zaU {p:Option Addr} {n:Nat} {cap:Nat} {l:List Int} (hn:l.length=n):CC 103 [.slice p n cap] [zI (rI .i64) p cap l] (Y:=Bool) (fun y=>(y=true→∀jj,jj<n→(-500≤l.getD jj 0∧l.getD jj 0≤500))) (fun y=> .bool y) (fun y=>[]):=by
 refine zg Tryz.func103 rfl rfl (fun c=> ?_)
 refine zN 0 rfl (fun hL0=> ?_)
 refine jS 1 rfl<|qJ rfl<|zm (q7 rfl rfl) zP (zlq qB) (qX 0 rfl) ?_
 rintro a0 hcf
 refine zE (Zo rfl)<|Zp 1 rfl ?_
 exact zq rfl (!a0) (fun k=>hcf (by simpa using k)) (zj rfl) rfl oN sN
theorem zlr {p:Option Addr} {n:Nat} {cap:Nat} {l:List Int} (hn:l.length=n) (hall:∀jj,jj<n→(-0x100000≤(l.getD jj 0)∧(l.getD jj 0)≤0x100000)):CA 128 [.slice p n cap,.func (.func 245) #[] #[]] [zI (rI .i64) p cap l] (.int .i64 (-1)):=by
 refine zg Tryz.func128 rfl rfl (fun c=> ?_)
 refine zN 0 rfl (fun hL0=> ?_)
 refine jg 1 rfl<|k12 3 rfl<|zk<|z5 (X:=Nat) (fun x=>x≤n) (fun x=>[(8,Vi x)]) [7,0,1] (fun x=>[]) (fun x=>[]) [0] (fun x=>n - x) 0 (by exact yN _) (.e rfl vA .n) oN sN ?_
 rintro i hI
 refine jg 1 rfl<|zx rfl (fun h1=> ?_) (fun h1=> ?_)
 refine vY<|zk<|jS 2 rfl<|kS 3 rfl<|qH 0 i rfl yk je rfl zL rfl rfl (gD (d:=0) om) (fun b2 o3 a0=> ?_) (x0:=(l.getD i 0))
 replace a0:=zu.1 a0
 refine zw (zf (j:=0) 0 v8 rfl rfl rfl rfl)<|ZP rfl (.c rfl .n) zP zoQ (.n) (first:=[]) (cap:=[]) ?_
 rintro ⟨⟩ -
 refine Vc<|zx rfl (fun a1=> ?_) (fun a1=> ?_)
 have h9:=hall i om;omega
 refine qN<|zG<|zi<|zv<|zE (qj rfl rfl)<|qY 1 rfl<|zW (i+1) (by show i+1≤n;omega) om (mR rfl) oN ((.c (j:=1) rfl .n))
 refine z7<|ze<|ze<|zn<|zi<|Zn 1 rfl ?_
 exact zq rfl () trivial (zj rfl) rfl oN sN
theorem zls {p:Option Addr} {n:Nat} {cap:Nat} {l:List Int} (hn:l.length=n) (hall:∀jj,jj<n→(-0x100000≤(l.getD jj 0)∧(l.getD jj 0)≤0x100000)):CA 44 [.slice p n cap,.func (.func 245) #[] #[]] [zI (rI .i64) p cap l] (.bool false):=by
 refine zg Tryz.func44 rfl rfl (fun c=> ?_)
 refine zN 0 rfl (fun hL0=> ?_)
 refine jS 1 rfl<|kS 2 rfl<|qg (q7 rfl rfl) zP (zlr qB qB) (qX 0 rfl)<|Zp 2 rfl ?_
 exact zq rfl () trivial (zj rfl) (congrArg Value.bool (decide_eq_false (show ¬(0:Int)≤ -1 by decide)).symm) oN sN
theorem zks {p:Option Addr} {n:Nat} {cap:Nat} {l:List Int} (hn:l.length=n) (hall:∀jj,jj<n→(-0x100000≤l.getD jj 0∧l.getD jj 0≤0x100000)):CA 191 [.slice p n cap] [zI (rI .i64) p cap l] (.bool false):=by
 refine zg Tryz.func191 rfl rfl (fun c=> ?_)
 refine zN 0 rfl (fun hL0=> ?_)
 refine jS 1 rfl<|qJ rfl<|qg (q7 rfl rfl) zP (zls qB qB) (qX 0 rfl)<|Zp 1 rfl ?_
 exact zq rfl () trivial (zj rfl) rfl oN sN
theorem zgY {z1:Int} {z2:Int} {z3:Int} {bS:Nat} (hz1: -9223372036854775808≤z1∧z1≤9223372036854775807) (hz2: -9223372036854775808≤z2∧z2≤9223372036854775807) (hz3: -9223372036854775808≤z3∧z3≤9223372036854775807):CC 106 [.agg #[.int .i64 z1,.int .i64 z2,.int .i64 z3],Vp bS] [j8 bS 0 [.func (.func 103) #[] #[]]] (Y:=Bool) (fun y=>(y=false→yp z1∧yp z2∧yp z3)) (fun y=> .bool y) (fun y=>[]):=by
 refine zg Tryz.func106 rfl rfl (fun c=> ?_)
 refine vg<|zB (zX rfl rfl) (fun b1=> ?_)
 refine jD 1 rfl<|zw (zf (j:=0) 0 zrk rfl rfl rfl rfl)<|zE (zb yf rfl je rfl rfl)<|zw (zc 0 v8 rfl rfl rfl)<|zE (zb yf rfl je rfl rfl)<|zw (zc 0 v8 rfl rfl rfl)<|zE (zb yf rfl je rfl rfl)<|zw (zc 0 v8 rfl rfl rfl)<|qZ (z6 (enc:=fun z:Int=>[.int .i64 z]) (ok:=Vb .i64) (h1:=fun _=>rfl) (h2:=fun _=>rfl) (k:=3) yk Ky rfl dd dd dd (.c (x:=z1) rfl rfl (fun _ _=>by exact zu.2 om) (.c (x:=z2) rfl rfl (fun _ _=>by exact zu.2 om) (.c (x:=z3) rfl rfl (fun _ _=>by exact zu.2 om) .n)))) (fun b2 _=> ?_)
 refine qt 0 rfl .z<|ZP rfl (.c rfl .n) zP (zaU zL) (.c (j:=0) rfl .n) (first:=[]) (cap:=[]) ?_
 rintro a0 hsm
 refine zE (Zo rfl)<|Zp 1 rfl ?_
 exact zq rfl (!a0) (fun k=>by have h9:=hsm (by simpa using k);exact ⟨h9 0 dd,h9 1 dd,h9 2 dd⟩) (zj rfl) rfl oN sN
theorem ziI {pP:Option Addr} {nP:Nat} {cP:Nat} {lP:List (Int×Int×Int)} {bS:Nat} (hnP:lP.length=nP):CC 184 [.slice pP nP cP,.func (.func 106) #[] #[Vp bS]] [zI (rI3 .i64) pP cP lP,j8 bS 0 [.func (.func 103) #[] #[]]] (Y:=Int) (fun y=>(y<0→∀jj,jj<nP→(yp (lP.getD jj (0,0,0)).1∧yp (lP.getD jj (0,0,0)).2.1∧yp (lP.getD jj (0,0,0)).2.2))) (fun y=> .int .i64 y) (fun y=>[]):=by
 refine zg Tryz.func184 rfl rfl (fun c=> ?_)
 refine zN 0 rfl (fun hL0=> ?_)
 refine jg 1 rfl<|jK 1 rfl<|zE (vL yq rfl)<|vZ 1 rfl<|zk<|z5 (X:=Nat) (fun x=>x≤nP∧∀k,k<x→(yp (lP.getD k (0,0,0)).1∧yp (lP.getD k (0,0,0)).2.1∧yp (lP.getD k (0,0,0)).2.2)) (fun x=>[(8,Vi x)]) [7,0,1] (fun x=>[]) (fun x=>[]) [0,1] (fun x=>nP - x) 0 (by exact ⟨yN _,fun j h=>by omega⟩) (.e rfl vA .n) oN sN ?_
 rintro i hI
 obtain ⟨hi,hall⟩:=hI
 refine jg 1 rfl<|zx rfl (fun h1=> ?_) (fun h1=> ?_)
 refine vY<|zk<|jS 2 rfl<|kS 3 rfl<|qH 0 i rfl yq VS rfl zL rfl rfl (gD (d:=(0,0,0)) om) (fun b2 o3 a1=> ?_) (x0:=(lP.getD i (0,0,0)))
 obtain ⟨hok4x,hok4y,hok4z⟩:=a1
 replace hok4x:=zu.1 hok4x
 replace hok4y:=zu.1 hok4y
 replace hok4z:=zu.1 hok4z
 refine zw (zA (j:=0) 0 zfQ rfl rfl rfl (.t2 (.take .nil)))<|ZP rfl (.c rfl .n) zP (zgY zL zL zL) (.c (j:=2) rfl .n) (first:=[]) (cap:=[Vp bS]) ?_
 rintro b95 a2
 refine Vc<|ZN rfl (fun a0=> ?_) (fun a0=> ?_)
 refine Zn 2 rfl<|qz<|zD<|zD<|qz<|zD ?_
 exact zq rfl ((i:Nat):Int) (fun k=>by omega) (zj rfl) rfl oN sN
 refine qN<|zG<|zi<|zv<|zE (qj rfl rfl)<|qY 1 rfl<|zW (i+1) (by refine ⟨Oo,fun k hk=> ?_⟩;by_cases e:k=i;rw [e];exact a2 (by simpa using a0);exact hall k om) om (mR rfl) oN ((.of [1,2] rfl))
 refine z7<|ze<|ze<|zn<|zi<|Zn 1 rfl ?_
 exact zq rfl (-1) (fun _ k hk=>hall k om) (zj rfl) rfl oN sN
theorem ziJ {pP:Option Addr} {nP:Nat} {cP:Nat} {lP:List (Int×Int×Int)} {bS:Nat} (hnP:lP.length=nP):CC 105 [.slice pP nP cP,.func (.func 106) #[] #[Vp bS]] [zI (rI3 .i64) pP cP lP,j8 bS 0 [.func (.func 103) #[] #[]]] (Y:=Bool) (fun y=>(y=false→∀jj,jj<nP→(yp (lP.getD jj (0,0,0)).1∧yp (lP.getD jj (0,0,0)).2.1∧yp (lP.getD jj (0,0,0)).2.2))) (fun y=> .bool y) (fun y=>[]):=by
 refine zg Tryz.func105 rfl rfl (fun c=> ?_)
 refine zN 0 rfl (fun hL0=> ?_)
 refine jS 1 rfl<|kS 2 rfl<|zm (q7 rfl rfl) zP (ziI qB) (vj 0 1 rfl rfl) ?_
 rintro a0 hif
 refine Zp 2 rfl ?_
 exact zq rfl (decide (0≤a0)) (fun k=>hif (by have:=of_decide_eq_false k;omega)) (zj rfl) rfl oN sN
theorem zdz {s:St} {t:St} {pP:Option Addr} {nP:Nat} {cP:Nat} {lP:List (Int×Int×Int)} (hnP:lP.length=nP) (hs:zhW .i64 s) (ht:zhW .i64 t):CC 34 [.agg #[.int .i64 (s.x),.int .i64 (s.y),.int .i64 (s.z),.int .i64 (s.a),.int .i64 (s.b),.int .i64 (s.c),.int .i64 (s.d),.int .i64 (s.f),.int .i64 (s.u),.int .i64 (s.v)],.agg #[.int .i64 (t.x),.int .i64 (t.y),.int .i64 (t.z),.int .i64 (t.a),.int .i64 (t.b),.int .i64 (t.c),.int .i64 (t.d),.int .i64 (t.f),.int .i64 (t.u),.int .i64 (t.v)],.slice pP nP cP] [zI (rI3 .i64) pP cP lP] (Y:=Bool) (fun y=>(y=true→(s.ok∧t.ok)∧¬(s.x=t.x∧s.y=t.y∧s.z=t.z)∧nP≤14∧∀jj,jj<nP→(yp (lP.getD jj (0,0,0)).1∧yp (lP.getD jj (0,0,0)).2.1∧yp (lP.getD jj (0,0,0)).2.2))) (fun y=> .bool y) (fun y=>[]):=by
 refine zg Tryz.func34 rfl rfl (fun c=> ?_)
 refine zN 0 rfl (fun hL0=> ?_)
 obtain ⟨hsx,hsy,hsz,hsa,hsb,hsc,hsd,hsf,hsu,hsv⟩:=hs
 replace hsx:=zu.1 hsx
 replace hsy:=zu.1 hsy
 replace hsz:=zu.1 hsz
 replace hsa:=zu.1 hsa
 replace hsb:=zu.1 hsb
 replace hsc:=zu.1 hsc
 replace hsd:=zu.1 hsd
 replace hsf:=zu.1 hsf
 replace hsu:=zu.1 hsu
 replace hsv:=zu.1 hsv
 obtain ⟨htx,hty,htz,hta,htb,htc,htd,htf,htu,htv⟩:=ht
 replace htx:=zu.1 htx
 replace hty:=zu.1 hty
 replace htz:=zu.1 htz
 replace hta:=zu.1 hta
 replace htb:=zu.1 htb
 replace htc:=zu.1 htc
 replace htd:=zu.1 htd
 replace htf:=zu.1 htf
 replace htu:=zu.1 htu
 replace htv:=zu.1 htv
 refine vg<|zB (zX rfl rfl) (fun b1=> ?_)
 refine zB (zX rfl rfl) (fun b2=> ?_)
 refine jD 1 rfl<|zB (zo ztU rfl) (fun b3=> ?_)
 refine zh 0 rfl rfl rfl rfl ztT (.take .nil) .z<|ZI<|vg<|zw (za 2 JQ rfl rfl (.t8 (.t2 .nil)))<|zw (za 1 JQ rfl rfl (.t8 (.t2 .nil)))<|qZ (z6 (enc:=fun z:St=>[.int .i64 z.x,.int .i64 z.y,.int .i64 z.z,.int .i64 z.a,.int .i64 z.b,.int .i64 z.c,.int .i64 z.d,.int .i64 z.f,.int .i64 z.u,.int .i64 z.v]) (ok:=zhW .i64) (h1:=fun _=>rfl) (h2:=fun _=>rfl) (k:=2) yo zrg rfl dd dd dd (.c (x:=(⟨s.x,s.y,s.z,s.a,s.b,s.c,s.d,s.f,s.u,s.v⟩:St)) rfl rfl (fun _ _=>by exact ⟨zu.2 om,zu.2 om,zu.2 om,zu.2 om,zu.2 om,zu.2 om,zu.2 om,zu.2 om,zu.2 om,zu.2 om⟩) (.c (x:=(⟨t.x,t.y,t.z,t.a,t.b,t.c,t.d,t.f,t.u,t.v⟩:St)) rfl rfl (fun _ _=>by exact ⟨zu.2 om,zu.2 om,zu.2 om,zu.2 om,zu.2 om,zu.2 om,zu.2 om,zu.2 om,zu.2 om,zu.2 om⟩) .n))) (fun b4 _=> ?_)
 have e5:([(⟨s.x,s.y,s.z,s.a,s.b,s.c,s.d,s.f,s.u,s.v⟩:St),(⟨t.x,t.y,t.z,t.a,t.b,t.c,t.d,t.f,t.u,t.v⟩:St)]:List St)=([s,t]:List St):=by exact rfl
 rw [e5]
 refine zE (vL yo rfl)<|vZ 1 rfl<|zk<|z5 (X:=Nat) (fun x=>x≤2∧∀k,k<x→(([s,t]:List St).getD k yt).ok) (fun x=>[(15,Vi x)]) [14,13,7,4,3,2] (fun x=>[rowA 84 (zpL .i64) (Sb b4) 2 ([s,t]:List St),zK b3 143 [.func (.func 103) #[] #[]],zK b2 84 [.int .i64 (t.x),.int .i64 (t.y),.int .i64 (t.z),.int .i64 (t.a),.int .i64 (t.b),.int .i64 (t.c),.int .i64 (t.d),.int .i64 (t.f),.int .i64 (t.u),.int .i64 (t.v)],zK b1 84 [.int .i64 (s.x),.int .i64 (s.y),.int .i64 (s.z),.int .i64 (s.a),.int .i64 (s.b),.int .i64 (s.c),.int .i64 (s.d),.int .i64 (s.f),.int .i64 (s.u),.int .i64 (s.v)]]) (fun x=>[]) [0] (fun x=>2 - x) 0 (by exact ⟨yN _,fun j h=>by omega⟩) (.e rfl vA .n) ((.of [0,0,0,0] rfl):zJ _ _ _) sN ?_
 rintro i hI
 obtain ⟨hi,hall⟩:=hI
 refine jg 1 rfl<|zx rfl (fun h6=> ?_) (fun h6=> ?_)
 refine vY<|zk<|vg<|zE (zZ (j:=i) yo zfR rfl rfl rfl (by show i<2;omega))<|vX (zbI 0 i rfl JQ rfl rfl (gD (d:=yt) (by show i<2;omega))) (fun _ b7=> ?_)
 obtain ⟨a0,a1,a2,a3,a4,a5,a6,a7,a8,a9⟩:=b7
 replace a0:=zu.1 a0
 replace a1:=zu.1 a1
 replace a2:=zu.1 a2
 replace a3:=zu.1 a3
 replace a4:=zu.1 a4
 replace a5:=zu.1 a5
 replace a6:=zu.1 a6
 replace a7:=zu.1 a7
 replace a8:=zu.1 a8
 replace a9:=zu.1 a9
 refine zB (zo zkL rfl) (fun b8=> ?_)
 refine zh 0 rfl rfl rfl rfl zfR (.t8 (.t2 .nil)) .z<|Vj<|zE (zb ye rfl zep rfl rfl)<|zw (za 0 zae rfl rfl (.s2 (.skip (.t4 .nil))))<|zB (zo zkK rfl) (fun b9=> ?_)
 refine zh 0 rfl rfl rfl rfl zep (.t4 .nil) .z<|Vc<|ji (X:=Bool) (fun x=>(x=false→(([s,t]:List St).getD i yt).ok)) (fun x=>[(59,.bool x),(15,Vi i),(14,.int .i64 2),(13,.slice (Sb b4) 2 2),(7,Vp b3),(4,Vp b2),(3,Vp b1),(2,.slice pP nP cP)]) (fun x=>[rowA 84 (zpL .i64) (Sb b4) 2 ([s,t]:List St),zK b3 143 [.func (.func 103) #[] #[]],zK b2 84 [.int .i64 (t.x),.int .i64 (t.y),.int .i64 (t.z),.int .i64 (t.a),.int .i64 (t.b),.int .i64 (t.c),.int .i64 (t.d),.int .i64 (t.f),.int .i64 (t.u),.int .i64 (t.v)],zK b1 84 [.int .i64 (s.x),.int .i64 (s.y),.int .i64 (s.z),.int .i64 (s.a),.int .i64 (s.b),.int .i64 (s.c),.int .i64 (s.d),.int .i64 (s.f),.int .i64 (s.u),.int .i64 (s.v)]]) (fun x=>[zI (rI3 .i64) pP cP lP]) ?_ ?_
 refine zv<|zw (za 0 zae rfl rfl (.t4 .nil))<|zE (qr zkK rfl yh (.c je (.c je (.c je (.c je .n)))) .n .n)<|zE (J3 (p:=(([s,t]:List St).getD i yt).a=0∧(([s,t]:List St).getD i yt).b=0∧(([s,t]:List St).getD i yt).c=0∧(([s,t]:List St).getD i yt).d=0) kr rfl rfl (V7 yh kr (Zm dd v8 rfl rfl (Zl yg) (Zm dd v8 rfl rfl (Zl yg) (Zm dd v8 rfl rfl (Zl yg) (Zm dd v8 rfl rfl (Zl yg) zac))))) (by simp [Bool.decide_and]))<|q8 (qU rfl) (fun c1=> ?_) (fun c1=> ?_)
 refine qY 35 rfl ?_
 exact qL true (show (true=false→(([s,t]:List St).getD i yt).ok) from by first|(intro e;cases e;done)|(intro e;have h9:=hsm (by simpa using e);exact ⟨by assumption,Oo,⟨h9 0 dd,h9 1 dd,h9 2 dd⟩,⟨h9 3 dd,h9 4 dd,h9 5 dd⟩,h9 6 dd,h9 7 dd,h9 8 dd,h9 9 dd⟩)) ((.e rfl (congrArg Value.bool JS) (.of rfl)):vQ _ _) (ho:=((.of [2,2,2,2] rfl):zJ _ _ _)) (s0 rfl)
 refine zE (zb ye rfl je rfl rfl)<|zw (zc 1 v8 rfl rfl rfl)<|kS 2 rfl<|q8 (qU rfl) (fun c2=> ?_) (fun c2=> ?_)
 refine qY 30 rfl ?_
 exact qL true (by first|(intro e;cases e;done)|(intro e;have h9:=hsm (by simpa using e);exact ⟨by assumption,Oo,⟨h9 0 dd,h9 1 dd,h9 2 dd⟩,⟨h9 3 dd,h9 4 dd,h9 5 dd⟩,h9 6 dd,h9 7 dd,h9 8 dd,h9 9 dd⟩)) ((.e rfl (congrArg Value.bool JS) (.of rfl))) ((.of [2,2,2,2] rfl):zJ _ _ _) (s0 rfl)
 refine zw (zc 3 zrk rfl rfl rfl)<|zE (zb ye rfl VS rfl rfl)<|zE (zb yf rfl je rfl rfl)<|zw (zc 1 v8 rfl rfl rfl)<|zE (zb ye rfl VS rfl rfl)<|zE (zb yf rfl je rfl rfl)<|zw (zc 1 v8 rfl rfl rfl)<|zE (zb ye rfl VS rfl rfl)<|zE (zb yf rfl je rfl rfl)<|zw (zc 1 v8 rfl rfl rfl)<|zE (zb ye rfl Qy rfl rfl)<|zE (zb Tryz.underlying82 rfl je rfl rfl)<|zw (zc 1 v8 rfl rfl rfl)<|zE (zb ye rfl Qy rfl rfl)<|zE (zb Tryz.underlying82 rfl je rfl rfl)<|zw (zc 1 v8 rfl rfl rfl)<|zE (zb ye rfl je rfl rfl)<|zw (zc 1 v8 rfl rfl rfl)<|zE (zb yh rfl je rfl rfl)<|zw (zc 0 v8 rfl rfl rfl)<|zE (zb yh rfl je rfl rfl)<|zw (zc 0 v8 rfl rfl rfl)<|zE (zb yh rfl je rfl rfl)<|zw (zc 0 v8 rfl rfl rfl)<|zE (zb yh rfl je rfl rfl)<|zw (zc 0 v8 rfl rfl rfl)<|qZ (z6 (enc:=fun z:Int=>[.int .i64 z]) (ok:=Vb .i64) (h1:=fun _=>rfl) (h2:=fun _=>rfl) (k:=10) yk Ky rfl dd dd dd (.c (x:=(([s,t]:List St).getD i yt).x) rfl rfl (fun _ _=>by exact zu.2 om) (.c (x:=(([s,t]:List St).getD i yt).y) rfl rfl (fun _ _=>by exact zu.2 om) (.c (x:=(([s,t]:List St).getD i yt).z) rfl rfl (fun _ _=>by exact zu.2 om) (.c (x:=(([s,t]:List St).getD i yt).u) rfl rfl (fun _ _=>by exact zu.2 om) (.c (x:=(([s,t]:List St).getD i yt).v) rfl rfl (fun _ _=>by exact zu.2 om) (.c (x:=(([s,t]:List St).getD i yt).f) rfl rfl (fun _ _=>by exact zu.2 om) (.c (x:=(([s,t]:List St).getD i yt).a) rfl rfl (fun _ _=>by exact zu.2 om) (.c (x:=(([s,t]:List St).getD i yt).b) rfl rfl (fun _ _=>by exact zu.2 om) (.c (x:=(([s,t]:List St).getD i yt).c) rfl rfl (fun _ _=>by exact zu.2 om) (.c (x:=(([s,t]:List St).getD i yt).d) rfl rfl (fun _ _=>by exact zu.2 om) .n))))))))))) (fun b12 _=> ?_)
 refine qt 0 rfl .z<|ZP rfl (.c rfl .n) zP (zaU zL) (.c (j:=0) rfl .n) (first:=[]) (cap:=[]) ?_
 rintro b5 hsm
 refine zE (Zo rfl)<|qY 1 rfl ?_
 exact qL (!b5) (show ((!b5)=false→(([s,t]:List St).getD i yt).ok) from by first|(intro e;cases e;done)|(intro e;have h9:=hsm (by simpa using e);exact ⟨by assumption,Oo,⟨h9 0 dd,h9 1 dd,h9 2 dd⟩,⟨h9 3 dd,h9 4 dd,h9 5 dd⟩,h9 6 dd,h9 7 dd,h9 8 dd,h9 9 dd⟩)) (mR rfl) (ho:=((.of [3,3,3,3] rfl):zJ _ _ _)) ((.c (j:=1) rfl .n):q9 _ _ _)
 rintro g9 hC
 refine ZN rfl (fun b6=> ?_) (fun b6=> ?_)
 refine Zn 1 rfl<|qz<|zD<|zD<|qz<|zD ?_
 exact zq rfl false (fun k=>by cases k) (zj rfl) rfl oN sN
 have hok:=hC (by simpa using b6)
 refine qN<|zG<|zi<|zv<|zE (qj rfl rfl)<|qY 1 rfl<|zW (i+1) (by refine ⟨Oo,fun k hk=> ?_⟩;by_cases e:k=i;rw [e];exact hok;exact hall k om) om (mR rfl) ((.of [0,0,0,0] rfl):zJ _ _ _) (s0 rfl)
 refine z7<|ze<|ze<|zn<|zi<|vU 1 rfl (.s .z)<|ji (X:=Bool) (fun x=>(x=true→(s.ok∧t.ok)∧¬(s.x=t.x∧s.y=t.y∧s.z=t.z)∧nP≤14∧∀jj,jj<nP→(yp (lP.getD jj (0,0,0)).1∧yp (lP.getD jj (0,0,0)).2.1∧yp (lP.getD jj (0,0,0)).2.2))) (fun x=>[(6,.bool x)]) (fun x=>[]) (fun x=>[]) ?_ ?_
 refine zv<|zE (zb ye rfl VS rfl rfl)<|zw (za 3 zfQ rfl rfl (.t2 (.take .nil)))<|zE (zb ye rfl VS rfl rfl)<|zw (za 2 zfQ rfl rfl (.t2 (.take .nil)))<|zE (zhx (p:=s.x=t.x∧s.y=t.y∧s.z=t.z) kr rfl rfl (V7 yf kr (Zm dd v8 rfl rfl (Zl yg) (Zm dd v8 rfl rfl (Zl yg) (Zm dd v8 rfl rfl (Zl yg) zac)))) (by simp [Bool.decide_and]))<|q8 (qU rfl) (fun c3=> ?_) (fun c3=> ?_)
 refine qJ rfl<|zE (vL yq rfl)<|kS 2 rfl<|q8 (qU rfl) (fun c4=> ?_) (fun c4=> ?_)
 refine qJ rfl<|zE (v6 .n (.c rfl .n))<|zm (q7 rfl rfl) zP (ziJ qB) (vj 1 0 rfl rfl) ?_
 rintro c5 hsp
 refine zE (Zo rfl)<|qY 2 rfl ?_
 exact qL (!c5) (by first|(intro e;cases e;done)|(intro e;exact ⟨Ro.zhT (fun k hk=>hall k om),by assumption,Oo,hsp (by simpa using e)⟩)) ((.c rfl .n)) oN sN
 refine qY 6 rfl ?_
 exact qL false (show (false=true→(s.ok∧t.ok)∧¬(s.x=t.x∧s.y=t.y∧s.z=t.z)∧nP≤14∧∀jj,jj<nP→(yp (lP.getD jj (0,0,0)).1∧yp (lP.getD jj (0,0,0)).2.1∧yp (lP.getD jj (0,0,0)).2.2)) from by first|(intro e;cases e;done)|(intro e;exact ⟨Ro.zhT (fun k hk=>hall k om),by assumption,Oo,hsp (by simpa using e)⟩)) ((.e rfl (congrArg Value.bool JS) .n):vQ _ _) (ho:=oN) sN
 refine qY 11 rfl ?_
 exact qL false (by first|(intro e;cases e;done)|(intro e;exact ⟨Ro.zhT (fun k hk=>hall k om),by assumption,Oo,hsp (by simpa using e)⟩)) ((.e rfl (congrArg Value.bool JS) .n)) oN sN
 rintro g9 hC
 refine vv ?_
 exact zq rfl g9 hC (zj rfl) rfl oN sN
theorem zqT {s:Bool} {p:Option Addr} {n:Nat} {cap:Nat} {l:List Int} (hn:l.length=n) (hln:yi (Big.raw s l)≤4398046511104):CB 235 [.agg #[.bool s,.slice p n cap]] [zI (rI .u32) p cap l] (Y:=(Option Addr)×Nat) (fun y=> .agg #[.bool (decide ((((Big.raw s l).natAbs:Nat):Int)<0)),.slice (y.1) ((Big.zd ((((Big.raw s l).natAbs:Nat):Int).natAbs)).length) (y.2)]) (fun y=>[zI (rI .u32) (y.1) (y.2) (Big.zd ((((Big.raw s l).natAbs:Nat):Int).natAbs))]):=by
 refine zg Tryz.func235 rfl rfl (fun c=> ?_)
 refine zN 0 rfl (fun hL0=> ?_)
 refine jZ 0 rfl (fun a0=> ?_)
 have hnn:Big.nn l:=fun g hg=>(zO.1 (a0 g hg)).1
 unfold yi at hln
 refine vg<|zB (zX rfl rfl) (fun b1=> ?_)
 refine zB (zo jo rfl) (fun b2=> ?_)
 refine Vj<|zw (za 1 z4 rfl rfl (.t2 .nil))<|zm (qS rfl) zP (j7 qB) (qX 0 rfl) ?_
 rintro ⟨p23,c24⟩ -
 refine zm (qS rfl) zP (zas Kw) (qX 0) ?_
 rintro ⟨p25,c26⟩ -
 refine zm (q7 rfl rfl) zP jG (qX 0) ?_
 rintro ⟨a1,a2⟩ -
 refine zh 0 rfl rfl rfl rfl z8 (.t2 .nil) .z<|Va ?_
 have hz:Big.sg false ((Big.raw s l).natAbs:Int)=(((Big.raw s l).natAbs:Nat):Int):=rfl
 exact zq rfl (a1,a2) trivial (zy 0 z4 rfl rfl (.t2 .nil)) (by rw [hz]) oN ((.e (j:=0) rfl (by rw [hz]) .n))
theorem zoR {z:Int} {p:Option Addr} {cap:Nat} (hln:yi z≤4398046511104):jI yv 235 [.agg #[.bool (decide ((z)<0)),.slice (p) ((Big.zd ((z).natAbs)).length) (cap)]] [] [zI (rI .u32) (p) (cap) (Big.zd ((z).natAbs))] (Y:=(Option Addr)×(Nat)) (fun y=>True) (fun y=> .agg #[.bool (decide ((((z.natAbs:Nat):Int))<0)),.slice (y.1) ((Big.zd ((((z.natAbs:Nat):Int)).natAbs)).length) (y.2)]) (fun y=>[]) (fun y=>[zI (rI .u32) (y.1) (y.2) (Big.zd ((((z.natAbs:Nat):Int)).natAbs))]):=by
  have h:= @zqT (decide ((z)<0)) p (Big.zd (z).natAbs).length cap (Big.zd (z).natAbs) rfl (by rw [Big.vl];exact hln)
  rw [Big.vl] at h
  exact h
theorem zoS {w1:Wd} {x1:Int} (hln:yi x1≤4398046511104):jI yv 235 [.agg #[w1.b,w1.l]] [] [zF w1 (x1)] (Y:=(Wd)) (fun y=>True) (fun y=> .agg #[y.b,y.l]) (fun y=>[]) (fun y=>[zF y (((x1.natAbs:Nat):Int))]):=by
  exact Vn (WP (fun p c=>zoR hln))
theorem zoT {k1:Bool} {u1:Wd} {v1:Wd} {q1:Rat} (hl:Big.hq q1≤1099511627776):CB 178 [.agg #[u1.b,u1.l,v1.b,v1.l]] [qF k1 u1 v1 q1] (Y:=Wd×Wd) (fun y=> .agg #[y.1.b,y.1.l,y.2.b,y.2.l]) (fun y=>[qF true y.1 y.2 (Big.jd q1)]):=by
 refine zg Tryz.func178 rfl rfl (fun c=> ?_)
 have a1:=Big.v9 q1
 have a2:=Big.jm q1
 refine vg<|zB (zX rfl rfl) (fun b1=> ?_)
 refine zB (zo vh rfl) (fun b2=> ?_)
 refine Vj<|zw (za 1 qp rfl rfl (.t4 .nil))<|zm (qS rfl) zP jv (qX 0 rfl) ?_
 rintro ⟨w33,a0⟩ -
 refine zh 1 rfl rfl rfl rfl qk (.t4 .nil) (.s .z)<|ZI<|Vk 6<|zC 0 rfl (zb yr rfl z8 rfl rfl)<|qy 1 rfl (za 1 z4 rfl rfl (.t2 .nil))<|zC 3 rfl (zb yr rfl z8 rfl rfl)<|qy 4 rfl (za 1 z4 rfl rfl (.s2 (.t2 .nil)))<|ZG (jp 0 rfl) (fun _ _=> ?_)
 refine zt 2 (zp rfl (qS rfl) zP (zoS zL) (qX 0 rfl) ?_)
 rintro a3 -
 refine zC 5 rfl (qr vh rfl yr (.c z8 (.c z8 .n)) (.c rfl (.c rfl .n)) (.c rfl rfl rfl (.t2 .nil) (.c rfl rfl rfl (.s2 (.t2 .nil)) .n)))<|zt 6 (zH rfl rfl rfl rfl qk (.t4 .nil) ?_)
 refine zU kr<|zi<|vv<|Vm (qF true a3 a0 (Big.jd q1)) (QZ 0 2 rfl rfl (by exact ⟨(Big.zmM q1).symm,by rw [Big.zmN],by rw [Big.zeK];exact hl⟩)) ?_
 exact zq rfl (a3,a0) trivial (zy 0 qp rfl rfl (.t4 .nil)) rfl oN (s0 rfl)
theorem zqU {i0:Nat} {j0:Nat} {bq:Nat} {pL:Option Addr} {nL:Nat} {cL:Nat} {LL:List (List Int)} (hnL:LL.length=nL) (hi0:i0<nL) (hj0:j0<(LL.getD i0 []).length):CB 136 [Vi i0,Vi j0,Vp bq] [j8 bq 0 [.slice pL nL cL],zI (rS (rI .i64)) pL cL LL] (Y:=Wd×Wd) (fun y=> .agg #[y.1.b,y.1.l,y.2.b,y.2.l]) (fun y=>[qF true y.1 y.2 (Mx.eI LL i0 j0)]):=by
 refine zg Tryz.func136 rfl rfl (fun c=> ?_)
 refine zN 1 rfl (fun hL1=> ?_)
 refine vg<|zB (zo vh rfl) (fun b1=> ?_)
 refine Vj<|zw (zf (j:=0) 0 zaf rfl rfl rfl rfl)<|qJ rfl<|vX (zM (x0:=(LL.getD i0 [])) 1 i0 rfl Tryz.underlying106 zhB rfl zL rfl rfl (gD (d:=[]) om)) ?_
 rintro ⟨b2,o3,p4,c5⟩ -
 refine zw (zf (j:=0) 0 zhA rfl rfl rfl rfl)<|qJ rfl<|qH 1 j0 rfl yk je rfl zL rfl rfl (gD (d:=0) om) (fun b6 o7 a0=> ?_) (x0:=((LL.getD i0 []).getD j0 0))
 replace a0:=zu.1 a0
 refine zw (zf (j:=0) 0 v8 rfl rfl rfl rfl)<|zm (qS rfl) zP (j4 zL) (.n) ?_
 rintro ⟨a1,a2⟩ -
 refine zh 0 rfl rfl rfl rfl qk (.t4 .nil) .z<|Va ?_
 exact zq rfl (a1,a2) trivial (zy 0 qp rfl rfl (.t4 .nil)) rfl oN (s0 rfl)
theorem ziK {bq:Nat} {pL:Option Addr} {nL:Nat} {cL:Nat} {LL:List (List Int)} (hK:K≤64) (hN:N≤70) (hnL:LL.length=nL) (hKL:K=nL) (hrL:∀i,i<nL→(LL.getD i []).length=N):jI yv 86 [Vi K,Vi N,.func (.func 136) #[] #[Vp bq]] [] [j8 bq 0 [.slice pL nL cL],zI (rS (rI .i64)) pL cL LL] (Y:=(Option Addr)×Nat×HP) (fun y=>y.2.2.length=K) (fun y=> .slice (y.1) K (y.2.1)) (fun y=>[rowA 62 rV (y.1) (y.2.1) (oh y.2.2 N),vp 32 rQ (y.2.2) (yl K N (fun ii jj=>Mx.eI LL ii jj))]) (fun y=>[]):=by
 refine zg Tryz.func86 rfl rfl (fun c=> ?_)
 refine zN 1 rfl (fun hL1=> ?_)
 refine jS 1 rfl<|qJ rfl<|qZ (vS (r:=rV) (k:=K) (x0:=(none,0,0)) (γ0:=()) yc Z2 rfl rfl rfl rfl om om rfl (fun g _=>by trivial) dd) (fun b1 _=> ?_)
 refine jn 1 rfl<|qe<|JO (fun w mm=>mm.rmNil 32 rQ) ?_
 have e2:(yT K (none,0,0):List (Option Addr×Nat×Nat))=(Mx.oz ([]:HP) N K):=by exact Mx.Jf N K
 rw [e2]
 refine k22 3 rfl<|zk<|z5 (X:=Nat×HP) (fun x=>x.1≤K∧x.2.length=x.1) (fun x=>[(14,Vi x.1)]) [13,7,1,2] (fun x=>[vp 32 rQ (x.2) (yl x.1 N (fun ii jj=>Mx.eI LL ii jj)),rowA 62 rV (Sb b1) K (Mx.oz x.2 N K)]) (fun x=>[]) [0,1] (fun x=>K - x.1) (0,([]:HP)) (by exact ⟨yN _,rfl⟩) (.e rfl vA .n) ((.e (i:=0) rfl (by rfl) (.c (i:=0) rfl .n)):zJ _ _ _) sN ?_
 rintro ⟨i,hs⟩ hI
 dsimp only at hI
 try dsimp only
 obtain ⟨hi,hlen⟩:=hI
 refine jg 1 rfl<|zx rfl (fun h3=> ?_) (fun h3=> ?_)
 refine qN<|zi<|qe<|zk<|jS 2 rfl<|kS 3 rfl<|Zy rfl rfl (vS (r:=rE) (k:=N) (x0:=(none:Option Rat)) (γ0:=(wz,wz)) yd jf rfl rfl rfl rfl om om rfl (fun g _=>JT g) dd) (fun b4 _=> ?_)
 refine zE (zZ (j:=i) yc vC rfl rfl rfl om)<|Zz 2 rfl rfl rfl (qh (j:=i) (x0:=(some ⟨b4,0,none⟩,N,N)) (γ0:=()) rfl rfl (by first|omega|(rw [Mx.Q4 om];omega)|(rw [Mx.jW];omega)) rfl rfl vC (fun _ _=>by trivial)) (fun _=>(.s (.s .z))) (fun _ _=> ?_)
 refine ZI ?_
 have e5:(((Mx.oz hs N K).set i (Sb b4,N,N)):List (Option Addr×Nat×Nat))=(Mx.oz (hs++[((Sb b4:Option Addr),N)]) N K):=by exact Mx.Jg hlen om
 rw [e5]
 have e6:(yT N (none:Option Rat):List (Option Rat))=(Mx.Wz 0 N (fun jj=>Mx.eI LL i jj)):=by exact Mx.Qo N _
 rw [e6]
 refine vM 2 rfl<|zE (zZ (j:=i) yc vC rfl rfl rfl om)<|vX (qi (x0:=(Sb b4,N,N)) (v:= .slice (Sb b4) N N) 2 i rfl vF rfl rfl (by exact Mx.Z3 (K:=K) om) rfl) (fun _ a4=> ?_)
 refine vZ 2 rfl<|zk<|z5 (X:=Nat) (fun x=>x≤N) (fun x=>[(27,Vi x)]) [26,8,14,13,7,1,2] (fun x=>[rowA 32 rE (Sb b4) N (Mx.Wz x N (fun jj=>Mx.eI LL i jj)),vp 32 rQ hs (yl i N (fun ii jj=>Mx.eI LL ii jj)),rowA 62 rV (Sb b1) K (Mx.oz (hs++[((Sb b4:Option Addr),N)]) N K)]) (fun x=>[]) [0,1] (fun x=>N - x) 0 (by exact yN _) (.e rfl vA .n) ((.of [0,0,0] rfl):zJ _ _ _) sN ?_
 rintro j hJ
 refine jg 1 rfl<|zx rfl (fun h8=> ?_) (fun h8=> ?_)
 refine vY<|zk<|k12 2 rfl<|Vk 10 ?_
 have hrw:=hrL i om
 refine zQ 0 rfl rfl<|zQ 1 rfl rfl<|zC 2 rfl (zZ (j:=i) yc vC rfl rfl rfl om)<|QM 3 rfl (qi (x0:=(Sb b4,N,N)) (v:= .slice (Sb b4) N N) 2 i rfl vF rfl rfl (by exact Mx.Z3 (K:=K) om) rfl) (fun _ a5=> ?_)
 refine zQ 4 rfl rfl<|zQ 5 rfl rfl<|zQ 6 rfl rfl<|zQ 7 rfl rfl<|zt 8 (V6 rfl rfl (.c rfl (.c rfl .n)) zP (zqU qB zL zL) (.c (j:=0) rfl (.c (j:=1) rfl .n)) (first:=[]) (cap:=[Vp bq]) ?_)
 rintro ⟨a0,a1⟩ -
 dsimp only [aq,nq,cq]
 refine zC 9 rfl (zZ (j:=j) yd qk rfl rfl rfl om) ?_
 refine zt 10 (VH (A':=fun _=>rowA 32 rE (Sb b4) N ((Mx.Wz j N (fun jj=>Mx.eI LL i jj)).set j (some (Mx.eI LL i j)))) kr rfl (qh (r:=rE) (j:=j) (x0:=(some (Mx.eI LL i j))) (γ0:=(a0,a1)) rfl rfl (by first|omega|(rw [Mx.Q4 om];omega)|(rw [Mx.jW];omega)) rfl rfl qk (fun g hr=>Kz (Holds.get 0 rfl hr))) (hw':=rfl) (hd:=rfl) (fun _ _=> ?_))
 refine zU kr<|zG<|zi<|zv<|zE (qj rfl rfl)<|qY 1 rfl<|zW (j+1) (show (j+1)≤N from by show j+1≤N;omega) (by show N - (j+1)<N - j;omega) (mR rfl) (ho:=((.e (i:=0) rfl (by first|rfl|(rw [Mx.VL om])) (.of [0,0] rfl)):zJ _ _ _)) ((.of [1,2] rfl):q9 _ _ _)
 refine z7<|ze<|ze<|zn<|zG<|zi<|zv<|zE (qj rfl rfl)<|qY 1 rfl<|ZH (fun w mm=>mm.rowEQ (l2:=((yZ N).map (fun jj=>Mx.eI LL i jj))) 0 rfl (by rw [show j=N by omega];exact Mx.Jw N _)) ?_
 try dsimp only [yav]
 refine ZH (fun w mm=>mm.rmSnoc 0 0 rfl rfl (by rw [Mx.ja];exact hlen)) ?_
 try dsimp only [yav]
 refine zW ((i+1),(hs++[((Sb b4:Option Addr),N)])) (by dsimp only;exact ⟨Oo,by rw [yO,hlen];rfl⟩) (by dsimp only;omega) (mR rfl) (ho:=((.e (i:=0) rfl (by first|rfl|(rw [Mx.zpJ])) (.c (i:=0) rfl .n)):zJ _ _ _)) ((.of [0,1] rfl):q9 _ _ _)
 refine z7<|ze<|ze<|zn<|zi<|Zn 2 rfl ?_
 have a2:((Mx.oz hs N K):List (Option Addr×Nat×Nat))=(oh hs N):=by exact Mx.WS (hlen.trans om)
 rw [a2]
 have a3:(yl i N (fun ii jj=>Mx.eI LL ii jj))=(yl K N (fun ii jj=>Mx.eI LL ii jj)):=by rw [show i=K by omega]
 rw [a3]
 exact zq rfl (Sb b1,K,hs) (hlen.trans om) (zj rfl) rfl ((.of [1,0] rfl):zJ _ _ _) sN
theorem zgZ {i0:Nat} {j0:Nat} {bA:Nat} {pA:Option Addr} {nA:Nat} {cA:Nat} {A:List (List Rat)} {bB:Nat} {pB:Option Addr} {nB:Nat} {cB:Nat} {B:List (List Rat)} {n9:Nat} (hn9:n9≤64) (hnA:A.length=nA) (hnB:B.length=nB) (hA0:(A.getD 0 []).length=n9) (hi0:i0<nA) (hAB:nB=nA) (hAi:(A.getD i0 []).length=n9) (hBi:j0<n9+(B.getD i0 []).length) (hj9:j0≤200):CB 216 [Vi i0,Vi j0,Vp bA,Vp bB] [j8 bA 0 [.slice pA nA cA],zI (rS rQ) pA cA A,j8 bB 0 [.slice pB nB cB],zI (rS rQ) pB cB B] (Y:=Wd×Wd) (fun y=> .agg #[y.1.b,y.1.l,y.2.b,y.2.l]) (fun y=>[qF true y.1 y.2 (Mx.eB A B n9 i0 j0)]):=by
 refine zg Tryz.func216 rfl rfl (fun c=> ?_)
 refine zN 1 rfl (fun hL1=> ?_)
 refine zN 3 rfl (fun hL3=> ?_)
 refine vg<|zB (zo vh rfl) (fun b1=> ?_)
 refine ZI<|jK 1 rfl<|zw (zf (j:=0) 0 Qx rfl rfl rfl rfl)<|vX (zM (x0:=(A.getD 0 [])) 1 0 rfl yc vC rfl zL rfl rfl (gD (d:=[]) om)) ?_
 rintro ⟨b2,o3,p4,c5⟩ -
 refine zw (zf (j:=0) 0 vF rfl rfl rfl rfl)<|vZ 2 rfl<|zx rfl (fun hlt=> ?_) (fun hlt=> ?_)
 refine vg<|zw (zf (j:=0) 2 Qx rfl rfl rfl rfl)<|qJ rfl<|vX (zM (x0:=(A.getD i0 [])) 3 i0 rfl yc vC rfl zL rfl rfl (gD (d:=[]) om)) ?_
 rintro ⟨b6,o7,p8,c9⟩ -
 refine zw (zf (j:=0) 0 vF rfl rfl rfl rfl)<|qJ rfl<|vX (zM (x0:=((A.getD i0 []).getD j0 (0:Rat))) 1 j0 rfl yd qk rfl zL rfl rfl (gD (d:=(0:Rat)) om)) ?_
 rintro ⟨b10,o11,a0,a1⟩ -
 refine vd qR<|zw (zA (j:=0) 0 qp rfl rfl rfl (.t4 .nil))<|zh 0 rfl rfl rfl rfl qk (.t4 .nil) .z<|Va<|zD ?_
 exact zq rfl (a0,a1) trivial (zy 0 qp rfl rfl (.t4 .nil)) rfl oN ((.e (j:=1) rfl (by rw [show Mx.eB A B n9 i0 j0=(A.getD i0 []).getD j0 0 from if_pos om]) .n))
 refine vY<|Vk 12<|vE 0 rfl (zf (j:=0) 4 Qx rfl rfl rfl rfl)<|zQ 1 rfl rfl<|jc 2 rfl (zM (x0:=(B.getD i0 [])) 5 i0 rfl yc vC rfl zL rfl rfl (gD (d:=[]) om)) ?_
 rintro ⟨b14,o15,p16,c17⟩ -
 refine vE 3 rfl (zf (j:=0) 0 vF rfl rfl rfl rfl)<|zQ 4 rfl rfl<|vE 5 rfl (zf (j:=0) 4 Qx rfl rfl rfl rfl)<|jc 6 rfl (zM (x0:=(A.getD 0 [])) 5 0 rfl yc vC rfl zL rfl rfl (gD (d:=[]) om)) ?_
 rintro ⟨b18,o19,p20,c21⟩ -
 refine vE 7 rfl (zf (j:=0) 0 vF rfl rfl rfl rfl)<|zC 8 rfl (vL yd rfl)<|zC 9 rfl (qx (z:=(((j0 - n9):Nat):Int)) rfl rfl (Q9 om))<|jc 10 rfl (zM (x0:=((B.getD i0 []).getD (j0 - n9) (0:Rat))) 3 (j0 - n9) rfl yd qk rfl zL rfl rfl (gD (d:=(0:Rat)) om)) ?_
 rintro ⟨b22,o23,a2,a3⟩ -
 refine vi qR<|vE 11 rfl (zA (j:=0) 0 qp rfl rfl rfl (.t4 .nil))<|zt 12 (zH rfl rfl rfl rfl qk (.t4 .nil) ?_)
 refine zU kr<|zi<|vv ?_
 exact zq rfl (a2,a3) trivial (zy 0 qp rfl rfl (.t4 .nil)) rfl oN ((.e (j:=1) rfl (by rw [show Mx.eB A B n9 i0 j0=(B.getD i0 []).getD (j0 - n9) 0 from if_neg om]) .n))
theorem ziL {bA:Nat} {pA:Option Addr} {nA:Nat} {cA:Nat} {A:List (List Rat)} {bB:Nat} {pB:Option Addr} {nB:Nat} {cB:Nat} {B:List (List Rat)} {n9:Nat} (hK:K≤64) (hN:N≤70) (hn9:n9≤64) (hnA:A.length=nA) (hnB:B.length=nB) (hA0:(A.getD 0 []).length=n9) (hKA:K=nA) (hAB:nB=nA) (hAr:∀i,i<nA→(A.getD i []).length=n9) (hBr:∀i,i<nA→N=n9+(B.getD i []).length):jI yv 86 [Vi K,Vi N,.func (.func 216) #[] #[Vp bA,Vp bB]] [] [j8 bA 0 [.slice pA nA cA],zI (rS rQ) pA cA A,j8 bB 0 [.slice pB nB cB],zI (rS rQ) pB cB B] (Y:=(Option Addr)×Nat×HP) (fun y=>y.2.2.length=K) (fun y=> .slice (y.1) K (y.2.1)) (fun y=>[rowA 62 rV (y.1) (y.2.1) (oh y.2.2 N),vp 32 rQ (y.2.2) (yl K N (fun ii jj=>Mx.eB A B n9 ii jj))]) (fun y=>[]):=by
 refine zg Tryz.func86 rfl rfl (fun c=> ?_)
 refine zN 1 rfl (fun hL1=> ?_)
 refine zN 3 rfl (fun hL3=> ?_)
 refine jS 1 rfl<|qJ rfl<|qZ (vS (r:=rV) (k:=K) (x0:=(none,0,0)) (γ0:=()) yc Z2 rfl rfl rfl rfl om om rfl (fun g _=>by trivial) dd) (fun b1 _=> ?_)
 refine jn 1 rfl<|qe<|JO (fun w mm=>mm.rmNil 32 rQ) ?_
 have e2:(yT K (none,0,0):List (Option Addr×Nat×Nat))=(Mx.oz ([]:HP) N K):=by exact Mx.Jf N K
 rw [e2]
 refine k22 3 rfl<|zk<|z5 (X:=Nat×HP) (fun x=>x.1≤K∧x.2.length=x.1) (fun x=>[(14,Vi x.1)]) [13,7,1,2] (fun x=>[vp 32 rQ (x.2) (yl x.1 N (fun ii jj=>Mx.eB A B n9 ii jj)),rowA 62 rV (Sb b1) K (Mx.oz x.2 N K)]) (fun x=>[]) [0,1,2,3] (fun x=>K - x.1) (0,([]:HP)) (by exact ⟨yN _,rfl⟩) (.e rfl vA .n) ((.e (i:=0) rfl (by rfl) (.c (i:=0) rfl .n)):zJ _ _ _) sN ?_
 rintro ⟨i,hs⟩ hI
 dsimp only at hI
 try dsimp only
 obtain ⟨hi,hlen⟩:=hI
 refine jg 1 rfl<|zx rfl (fun h3=> ?_) (fun h3=> ?_)
 refine qN<|zi<|qe<|zk<|jS 2 rfl<|kS 3 rfl<|Zy rfl rfl (vS (r:=rE) (k:=N) (x0:=(none:Option Rat)) (γ0:=(wz,wz)) yd jf rfl rfl rfl rfl om om rfl (fun g _=>JT g) dd) (fun b4 _=> ?_)
 refine zE (zZ (j:=i) yc vC rfl rfl rfl om)<|Zz 2 rfl rfl rfl (qh (j:=i) (x0:=(some ⟨b4,0,none⟩,N,N)) (γ0:=()) rfl rfl (by first|omega|(rw [Mx.Q4 om];omega)|(rw [Mx.jW];omega)) rfl rfl vC (fun _ _=>by trivial)) (fun _=>(.s (.s .z))) (fun _ _=> ?_)
 refine ZI ?_
 have e5:(((Mx.oz hs N K).set i (Sb b4,N,N)):List (Option Addr×Nat×Nat))=(Mx.oz (hs++[((Sb b4:Option Addr),N)]) N K):=by exact Mx.Jg hlen om
 rw [e5]
 have e6:(yT N (none:Option Rat):List (Option Rat))=(Mx.Wz 0 N (fun jj=>Mx.eB A B n9 i jj)):=by exact Mx.Qo N _
 rw [e6]
 refine vM 2 rfl<|zE (zZ (j:=i) yc vC rfl rfl rfl om)<|vX (qi (x0:=(Sb b4,N,N)) (v:= .slice (Sb b4) N N) 2 i rfl vF rfl rfl (by exact Mx.Z3 (K:=K) om) rfl) (fun _ a4=> ?_)
 refine vZ 2 rfl<|zk<|z5 (X:=Nat) (fun x=>x≤N) (fun x=>[(27,Vi x)]) [26,8,14,13,7,1,2] (fun x=>[rowA 32 rE (Sb b4) N (Mx.Wz x N (fun jj=>Mx.eB A B n9 i jj)),vp 32 rQ hs (yl i N (fun ii jj=>Mx.eB A B n9 ii jj)),rowA 62 rV (Sb b1) K (Mx.oz (hs++[((Sb b4:Option Addr),N)]) N K)]) (fun x=>[]) [0,1,2,3] (fun x=>N - x) 0 (by exact yN _) (.e rfl vA .n) ((.of [0,0,0] rfl):zJ _ _ _) sN ?_
 rintro j hJ
 refine jg 1 rfl<|zx rfl (fun h8=> ?_) (fun h8=> ?_)
 refine vY<|zk<|k12 2 rfl<|Vk 10 ?_
 have hrw:=hAr i om
 have a5:=hBr i om
 refine zQ 0 rfl rfl<|zQ 1 rfl rfl<|zC 2 rfl (zZ (j:=i) yc vC rfl rfl rfl om)<|QM 3 rfl (qi (x0:=(Sb b4,N,N)) (v:= .slice (Sb b4) N N) 2 i rfl vF rfl rfl (by exact Mx.Z3 (K:=K) om) rfl) (fun _ a6=> ?_)
 refine zQ 4 rfl rfl<|zQ 5 rfl rfl<|zQ 6 rfl rfl<|zQ 7 rfl rfl<|zt 8 (V6 rfl rfl (.c rfl (.c rfl .n)) zP (zgZ (n9:=n9) qB qB qB qB zL qB zL zL zL) (.c (j:=0) rfl (.c (j:=1) rfl (.c (j:=2) rfl (.c (j:=3) rfl .n)))) (first:=[]) (cap:=[Vp bA,Vp bB]) ?_)
 rintro ⟨a0,a1⟩ -
 dsimp only [aq,nq,cq]
 refine zC 9 rfl (zZ (j:=j) yd qk rfl rfl rfl om) ?_
 refine zt 10 (VH (A':=fun _=>rowA 32 rE (Sb b4) N ((Mx.Wz j N (fun jj=>Mx.eB A B n9 i jj)).set j (some (Mx.eB A B n9 i j)))) kr rfl (qh (r:=rE) (j:=j) (x0:=(some (Mx.eB A B n9 i j))) (γ0:=(a0,a1)) rfl rfl (by first|omega|(rw [Mx.Q4 om];omega)|(rw [Mx.jW];omega)) rfl rfl qk (fun g hr=>Kz (Holds.get 0 rfl hr))) (hw':=rfl) (hd:=rfl) (fun _ _=> ?_))
 refine zU kr<|zG<|zi<|zv<|zE (qj rfl rfl)<|qY 1 rfl<|zW (j+1) (show (j+1)≤N from by show j+1≤N;omega) (by show N - (j+1)<N - j;omega) (mR rfl) (ho:=((.e (i:=0) rfl (by first|rfl|(rw [Mx.VL om])) (.of [0,0] rfl)):zJ _ _ _)) ((.of [1,2,3,4] rfl):q9 _ _ _)
 refine z7<|ze<|ze<|zn<|zG<|zi<|zv<|zE (qj rfl rfl)<|qY 1 rfl<|ZH (fun w mm=>mm.rowEQ (l2:=((yZ N).map (fun jj=>Mx.eB A B n9 i jj))) 0 rfl (by rw [show j=N by omega];exact Mx.Jw N _)) ?_
 try dsimp only [yav]
 refine ZH (fun w mm=>mm.rmSnoc 0 0 rfl rfl (by rw [Mx.ja];exact hlen)) ?_
 try dsimp only [yav]
 refine zW ((i+1),(hs++[((Sb b4:Option Addr),N)])) (by dsimp only;exact ⟨Oo,by rw [yO,hlen];rfl⟩) (by dsimp only;omega) (mR rfl) (ho:=((.e (i:=0) rfl (by first|rfl|(rw [Mx.zpJ])) (.c (i:=0) rfl .n)):zJ _ _ _)) ((.of [0,1,2,3] rfl):q9 _ _ _)
 refine z7<|ze<|ze<|zn<|zi<|Zn 2 rfl ?_
 have a2:((Mx.oz hs N K):List (Option Addr×Nat×Nat))=(oh hs N):=by exact Mx.WS (hlen.trans om)
 rw [a2]
 have a3:(yl i N (fun ii jj=>Mx.eB A B n9 ii jj))=(yl K N (fun ii jj=>Mx.eB A B n9 ii jj)):=by rw [show i=K by omega]
 rw [a3]
 exact zq rfl (Sb b1,K,hs) (hlen.trans om) (zj rfl) rfl ((.of [1,0] rfl):zJ _ _ _) sN
theorem zg0 {q1:Rat}:jI yv 88 [.agg #[u1.b,u1.l,v1.b,v1.l]] [] [qF true u1 v1 (q1)] (Y:=Unit) (fun y=>True) (fun y=> .bool true) (fun y=>[]) (fun y=>[]):=by
  exact zhN (fun x hx hk h1 h2=>by have h:= @zcT x.1.1 u1.p _ u1.c x.1.2 x.2.1 v1.p _ v1.c x.2.2 rfl rfl h1 h2;rw [decide_eq_true (hk rfl)] at h;exact h)
theorem ziM {u1:Wd} {v1:Wd} {q1:Rat}:CA 161 [.agg #[u1.b,u1.l,v1.b,v1.l]] [qF true u1 v1 q1] (.bool false):=by
 refine zg Tryz.func161 rfl rfl (fun c=> ?_)
 refine vg<|zB (zX rfl rfl) (fun b1=> ?_)
 refine jD 1 rfl<|zw (za 0 qp rfl rfl (.t4 .nil))<|qg (qS rfl) zP zg0 (qX 0 rfl)<|zE (Zo rfl)<|Zp 1 rfl ?_
 exact zq rfl () trivial (zj rfl) rfl oN sN
theorem zlt {p:Option Addr} {n:Nat} {cap:Nat} {l:List Rat} (hn:l.length=n):CA 211 [.slice p n cap,.func (.func 161) #[] #[]] [zI rQ p cap l] (.int .i64 (-1)):=by
 refine zg Tryz.func211 rfl rfl (fun c=> ?_)
 refine zN 0 rfl (fun hL0=> ?_)
 refine jg 1 rfl<|k12 3 rfl<|zk<|z5 (X:=Nat) (fun x=>x≤n) (fun x=>[(8,Vi x)]) [7,0,1] (fun x=>[]) (fun x=>[]) [0] (fun x=>n - x) 0 (by exact yN _) (.e rfl vA .n) oN sN ?_
 rintro i hI
 refine jg 1 rfl<|zx rfl (fun h1=> ?_) (fun h1=> ?_)
 refine vY<|zk<|jS 2 rfl<|kS 3 rfl<|vX (zM (x0:=(gQ l i)) 0 i rfl yd qk rfl zL rfl rfl (gD (d:=(0:Rat)) om)) ?_
 rintro ⟨b2,o3,w4,w5⟩ -
 refine vd qR<|zw (zA (j:=0) 0 qp rfl rfl rfl (.t4 .nil))<|ZP rfl (.c rfl .n) zP ziM (.c (j:=1) rfl .n) (first:=[]) (cap:=[]) ?_
 rintro ⟨⟩ -
 refine Vc<|qW rfl<|qN<|zG<|zi<|zv<|zE (qj rfl rfl)<|qY 1 rfl<|zW (i+1) (by show i+1≤n;omega) om (mR rfl) oN ((.c (j:=2) rfl .n))
 refine z7<|ze<|ze<|zn<|zi<|Zn 1 rfl ?_
 exact zq rfl () trivial (zj rfl) rfl oN sN
theorem zlu {p:Option Addr} {n:Nat} {cap:Nat} {l:List Rat} (hn:l.length=n):CA 132 [.slice p n cap,.func (.func 161) #[] #[]] [zI rQ p cap l] (.bool false):=by
 refine zg Tryz.func132 rfl rfl (fun c=> ?_)
 refine zN 0 rfl (fun hL0=> ?_)
 refine jS 1 rfl<|kS 2 rfl<|qg (q7 rfl rfl) zP (zlt qB) (qX 0 rfl)<|Zp 2 rfl ?_
 exact zq rfl () trivial (zj rfl) (congrArg Value.bool (decide_eq_false (show ¬(0:Int)≤ -1 by decide)).symm) oN sN
theorem zdk {p:Option Addr} {n:Nat} {cap:Nat} {l:List Rat} (hn:l.length=n):CA 74 [.slice p n cap] [zI rQ p cap l] (.bool true):=by
 refine zg Tryz.func74 rfl rfl (fun c=> ?_)
 refine zN 0 rfl (fun hL0=> ?_)
 refine jS 1 rfl<|qJ rfl<|qg (q7 rfl rfl) zP (zlu qB) (qX 0 rfl)<|zE (Zo rfl)<|Zp 1 rfl ?_
 exact zq rfl () trivial (zj rfl) rfl oN sN
theorem zg1 {p:Option Addr} {n:Nat} {cap:Nat} {l:List Rat} {bM:Nat} {pM:Option Addr} {nM:Nat} {cM:Nat} {M:List (List Rat)} (hn:l.length=n) (hnM:M.length=nM) (hM1:1≤nM) (heq:n=(M.getD 0 []).length):CA 73 [.slice p n cap,Vp bM] [zI rQ p cap l,j8 bM 0 [.slice pM nM cM],zI (rS rQ) pM cM M] (.bool false):=by
 refine zg Tryz.func73 rfl rfl (fun c=> ?_)
 refine zN 0 rfl (fun hL0=> ?_)
 refine zN 2 rfl (fun hL2=> ?_)
 refine jS 1 rfl<|kS 2 rfl<|zw (zf (j:=0) 1 Qx rfl rfl rfl rfl)<|vX (zM (x0:=(M.getD 0 [])) 2 0 rfl yc vC rfl zL rfl rfl (gD (d:=[]) om)) ?_
 rintro ⟨b1,o2,p3,c4⟩ -
 refine zw (zf (j:=0) 0 vF rfl rfl rfl rfl)<|zE (vL yd rfl)<|zE (zhs rfl rfl) ?_
 rw [show (decide (((n:Nat):Int)≠(((M.getD 0 []).length:Nat):Int)))=false from by exact decide_eq_false om]
 refine kS 2 rfl<|qg (qS rfl) zP (zdk qB) (qX 2 rfl)<|zE (Zo rfl)<|Zp 2 rfl ?_
 exact zq rfl () trivial (zj rfl) rfl oN sN
theorem zlv {bM:Nat} {pM:Option Addr} {nM:Nat} {cM:Nat} {M:List (List Rat)} (hnM:M.length=nM) (hM1:1≤nM) (hU:∀i,i<nM→(M.getD i []).length=(M.getD 0 []).length):CA 160 [.slice pM nM cM,.func (.func 73) #[] #[Vp bM]] [j8 bM 0 [.slice pM nM cM],zI (rS rQ) pM cM M] (.int .i64 (-1)):=by
 refine zg Tryz.func160 rfl rfl (fun c=> ?_)
 refine zN 1 rfl (fun hL1=> ?_)
 refine jg 1 rfl<|k12 3 rfl<|zk<|z5 (X:=Nat) (fun x=>x≤nM) (fun x=>[(8,Vi x)]) [7,0,1] (fun x=>[]) (fun x=>[]) [0,1] (fun x=>nM - x) 0 (by exact yN _) (.e rfl vA .n) oN sN ?_
 rintro i hI
 refine jg 1 rfl<|zx rfl (fun h1=> ?_) (fun h1=> ?_)
 refine vY<|zk<|jS 2 rfl<|kS 3 rfl<|vX (zM (x0:=(M.getD i [])) 1 i rfl yc vC rfl zL rfl rfl (gD (d:=[]) om)) ?_
 rintro ⟨b2,o3,p4,c5⟩ -
 dsimp only [aq,nq,cq]
 refine zw (zf (j:=0) 0 vF rfl rfl rfl rfl)<|ZP rfl (.c rfl .n) zP (zg1 (by first|rfl|assumption|omega|exact hU _ om) qB qB (by first|rfl|assumption|omega|exact hU _ om)) (.c (j:=1) rfl (.c (j:=2) rfl (.c (j:=3) rfl .n))) (first:=[]) (cap:=[Vp bM]) ?_
 rintro ⟨⟩ -
 refine Vc<|qW rfl<|qN<|zG<|zi<|zv<|zE (qj rfl rfl)<|qY 1 rfl<|zW (i+1) (by show i+1≤nM;omega) om (mR rfl) oN ((.of [2,3] rfl))
 refine z7<|ze<|ze<|zn<|zi<|Zn 1 rfl ?_
 exact zq rfl () trivial (zj rfl) rfl oN sN
theorem zlw {bM:Nat} {pM:Option Addr} {nM:Nat} {cM:Nat} {M:List (List Rat)} (hnM:M.length=nM) (hM1:1≤nM) (hU:∀i,i<nM→(M.getD i []).length=(M.getD 0 []).length):CA 72 [.slice pM nM cM,.func (.func 73) #[] #[Vp bM]] [j8 bM 0 [.slice pM nM cM],zI (rS rQ) pM cM M] (.bool false):=by
 refine zg Tryz.func72 rfl rfl (fun c=> ?_)
 refine zN 1 rfl (fun hL1=> ?_)
 refine jS 1 rfl<|kS 2 rfl<|qg (q7 rfl rfl) zP (zlv qB qB qB) (vj 0 1 rfl rfl)<|Zp 2 rfl ?_
 exact zq rfl () trivial (zj rfl) (congrArg Value.bool (decide_eq_false (show ¬(0:Int)≤ -1 by decide)).symm) oN sN
theorem Kr {pM:Option Addr} {nM:Nat} {cM:Nat} {M:List (List Rat)} (hnM:M.length=nM) (hM1:1≤nM) (hU:∀i,i<nM→(M.getD i []).length=(M.getD 0 []).length) (hK:nM≤64) (hN:1≤(M.getD 0 []).length∧(M.getD 0 []).length≤64):CA 19 [.slice pM nM cM] [zI (rS rQ) pM cM M] (.int .i64 0):=by
 refine zg Tryz.func19 rfl rfl (fun c=> ?_)
 refine zN 0 rfl (fun hL0=> ?_)
 refine vg<|zB (zX rfl rfl) (fun b1=> ?_)
 refine zE (zT rfl)<|ZI<|vg<|zw (zc 0 Qx rfl rfl rfl)<|zE (vL yc rfl)<|zE (zhq rfl rfl) ?_
 rw [show (decide (((nM:Nat):Int)<1))=false from by exact decide_eq_false om]
 refine qJ rfl<|zw (zc 0 Qx rfl rfl rfl)<|zE (vL yc rfl)<|zE (zhr rfl rfl) ?_
 rw [show (decide (64<((nM:Nat):Int)))=false from by exact decide_eq_false om]
 refine kS 2 rfl<|zw (zc 0 Qx rfl rfl rfl)<|vX (zM (x0:=(M.getD 0 [])) 0 0 rfl yc vC rfl zL rfl rfl (gD (d:=[]) om)) ?_
 rintro ⟨b2,o3,p4,c5⟩ -
 refine zw (zf (j:=0) 0 vF rfl rfl rfl rfl)<|zE (vL yd rfl)<|zE (zhq rfl rfl) ?_
 rw [show (decide ((((M.getD 0 []).length:Nat):Int)<1))=false from by exact decide_eq_false om]
 refine kS 2 rfl<|zw (zc 0 Qx rfl rfl rfl)<|vX (zM (x0:=(M.getD 0 [])) 2 0 rfl yc vC rfl zL rfl rfl (gD (d:=[]) om)) ?_
 rintro ⟨b6,o7,p8,c9⟩ -
 refine zw (zf (j:=0) 0 vF rfl rfl rfl rfl)<|zE (vL yd rfl)<|kS 1 rfl ?_
 rw [show (decide (64<(((M.getD 0 []).length:Nat):Int)))=false from by exact decide_eq_false om]
 refine vZ 1 rfl<|qW rfl<|vY<|qe<|vU 0 rfl .z<|zv<|zw (zf (j:=0) 0 Qx rfl rfl rfl rfl)<|zE (v6 .n (.c rfl .n))<|qg (q7 rfl rfl) zP (zlw qB qB qB) (vj 0 5 rfl rfl)<|Vc<|qW rfl<|k85 1 rfl ?_
 exact zq rfl () trivial (zj rfl) rfl oN sN
theorem zfy {u1:Wd} {v1:Wd} {q1:Rat} {u2:Wd} {v2:Wd} {q2:Rat} (hl:Big.hq q1+Big.hq q2+1≤1099511627776) (h0:q2≠0):CB 82 [.agg #[u1.b,u1.l,v1.b,v1.l],.agg #[u2.b,u2.l,v2.b,v2.l]] [qF true u1 v1 q1,qF true u2 v2 q2] (Y:=Wd×Wd) (fun y=> .agg #[y.1.b,y.1.l,y.2.b,y.2.l]) (fun y=>[qF true y.1 y.2 (q1 / q2)]):=by
 refine zg Tryz.func82 rfl rfl (fun c=> ?_)
 refine vg<|zB (zX rfl rfl) (fun b1=> ?_)
 refine zB (zX rfl rfl) (fun b2=> ?_)
 refine zB (zo vh rfl) (fun b3=> ?_)
 refine Vj<|zw (za 2 qp rfl rfl (.t4 .nil))<|zw (za 1 qp rfl rfl (.t4 .nil))<|zm (q7 rfl rfl) zP (ZE qB qB) (vj 0 1 rfl rfl) ?_
 rintro ⟨a0,a1⟩ -
 refine kS 3 rfl<|zB (zo vh rfl) (fun b6=> ?_)
 refine zh 0 rfl rfl rfl rfl qk (.t4 .nil) .z<|jD 1 rfl<|zw (za 0 qp rfl rfl (.t4 .nil))<|zh 1 rfl rfl rfl rfl qk (.t4 .nil) (.s .z)<|Va ?_
 exact zq rfl (a0,a1) trivial (zy 1 qp rfl rfl (.t4 .nil)) rfl oN (s0 rfl)
theorem zfz {hs:HP} {M:List (List Rat)}   {ii:Nat} {rr:Nat}   {xk:Rat} {j0:Nat} (hSm:Mx.Sm hs M K N) (hii:ii<K) (hrr:rr<K) (hne:rr≠ii) (hj0:j0≤N) (hN:N≤70) (hx:Big.hq xk≤100000000) (hb:yn M 100000000):jI yv 81 [.slice (rp hs ii) N (rc hs ii),.slice (rp hs rr) N (rc hs rr),.agg #[u1.b,u1.l,v1.b,v1.l],Vi j0] [vp 32 rQ hs M] [qF true u1 v1 xk] (Y:=Unit) (fun y=>True) (fun y=> .tuple #[]) (fun y=>[vp 32 rQ hs (M.set ii (Mx.sb (M.getD ii []) (M.getD rr []) xk j0 N))]) (fun y=>[]):=by
 refine zg Tryz.func81 rfl rfl (fun c=> ?_)
 have hil:=hSm.mk' hii
 have hirow:=hSm.row hii
 refine vg<|zB (zX rfl rfl) (fun b1=> ?_)
 refine k42 2 rfl<|zk<|Qr (X:=Nat) (fun x:Nat=>j0≤x∧x≤N) (fun x=>[(8,yaz yba ((x:Nat):Int)),(6,ybb (some ⟨b1,0,none⟩)),(0,.slice (rp hs ii) N (rc hs ii)),(1,.slice (rp hs rr) N (rc hs rr))]) (fun x=>[zK b1 32 (cw [u1,v1]),vp 32 rQ hs (M.set ii (Mx.sb (M.getD ii []) (M.getD rr []) xk j0 x))]) (fun x=>[qF true u1 v1 xk]) (fun x:Nat=>N - x) j0 (show j0≤j0∧j0≤N from by exact ⟨yJ _,hj0⟩) (mR rfl) (ho:=((.c (i:=0) rfl (.e (i:=0) rfl (by first|rfl|(rw [Mx.zkW hil])) .n)):zJ _ _ _)) (s0 rfl) ?_
 rintro t hI
 obtain ⟨ht0,htN⟩:=hI
 have hSmt:Mx.Sm hs (M.set ii (Mx.sb (M.getD ii []) (M.getD rr []) xk j0 t)) K N:=hSm.setSb hii
 refine qe<|k12 4 rfl<|zx rfl (fun h2=> ?_) (fun h2=> ?_)
 have hba:=hb ii t
 have hbb:=hb rr t
 refine vY<|zk<|jK 2 rfl<|zw (jJ 1 rr t rfl (hSmt.hk om) (hSmt.mk' om) (hSmt.row om) yd qk rfl rfl rfl om)<|vX (Qc (x0:=(Mx.e (M.set ii (Mx.sb (M.getD ii []) (M.getD rr []) xk j0 t)) rr t)) 1 rr t rfl (hSmt.hk om) (hSmt.mk' om) qp rfl rfl (gD (d:=(0:Rat)) (by rw [hSmt.row om];omega))) ?_
 rintro ⟨w3,w4⟩ -
 refine vd VK ?_
 have e5:Mx.e (M.set ii (Mx.sb (M.getD ii []) (M.getD rr []) xk j0 t)) rr t=Mx.e M rr t:=by exact Mx.zga hil hne
 rw [e5]
 refine qg (qS rfl) zP Vt (qX 0 rfl)<|vZ 1 rfl<|zx rfl (fun hz=> ?_) (fun hz=> ?_)
 refine vk (.c (i:=1) rfl (.c (i:=0) rfl .n))<|Vk 14<|zQ 0 rfl rfl<|zQ 1 rfl rfl<|zQ 2 rfl rfl<|zQ 3 rfl rfl<|qy 4 rfl (jJ 0 ii t rfl (hSmt.hk om) (hSmt.mk' om) (hSmt.row om) yd qk rfl rfl rfl om)<|QM 5 rfl (Qc (x0:=(Mx.e (M.set ii (Mx.sb (M.getD ii []) (M.getD rr []) xk j0 t)) ii t)) 0 ii t rfl (hSmt.hk om) (hSmt.mk' om) qp rfl rfl (gD (d:=(0:Rat)) (by rw [hSmt.row om];omega))) ?_
 rintro ⟨w6,w7⟩ -
 refine vi VK ?_
 have e8:Mx.e (M.set ii (Mx.sb (M.getD ii []) (M.getD rr []) xk j0 t)) ii t=Mx.e M ii t:=by exact Mx.zkV hil om (yJ _)
 rw [e8]
 refine qy 6 rfl (za 1 qp rfl rfl (.t4 .nil))<|zQ 7 rfl rfl<|zQ 8 rfl rfl<|qy 9 rfl (jJ 0 rr t rfl (hSmt.hk om) (hSmt.mk' om) (hSmt.row om) yd qk rfl rfl rfl om)<|QM 10 rfl (Qc (x0:=(Mx.e (M.set ii (Mx.sb (M.getD ii []) (M.getD rr []) xk j0 t)) rr t)) 0 rr t rfl (hSmt.hk om) (hSmt.mk' om) qp rfl rfl (gD (d:=(0:Rat)) (by rw [hSmt.row om];omega))) ?_
 rintro ⟨w9,w10⟩ -
 refine vi VK ?_
 have a0:Mx.e (M.set ii (Mx.sb (M.getD ii []) (M.getD rr []) xk j0 t)) rr t=Mx.e M rr t:=by exact Mx.zga hil hne
 rw [a0]
 have hmm:=Big.jB xk (Mx.e M rr t)
 refine zt 11 (zp rfl (q7 rfl rfl) zP (Jj zL) (vj 3 0 rfl rfl) ?_)
 rintro ⟨a5,a6⟩ -
 refine zt 12 (zp rfl (q7 rfl rfl) zP (zgl zL) (vj 2 0 rfl rfl) ?_)
 rintro ⟨a1,a2⟩ -
 refine qy 13 rfl (jJ 0 ii t rfl (hSmt.hk om) (hSmt.mk' om) (hSmt.row om) yd qk rfl rfl rfl om)<|zt 14 (VH (A':=fun _=>vp 32 rQ hs ((M.set ii (Mx.sb (M.getD ii []) (M.getD rr []) xk j0 t)).set ii (((M.set ii (Mx.sb (M.getD ii []) (M.getD rr []) xk j0 t)).getD ii []).set t ((Mx.e M ii t) - (xk*(Mx.e M rr t)))))) kr rfl (Jv (r:=rQ) (k:=ii) (j:=t) (x0:=((Mx.e M ii t) - (xk*(Mx.e M rr t)))) (γ0:=(a1,a2)) (hSmt.hk om) (hSmt.mk' om) rfl rfl (by rw [hSmt.row om];omega) rfl rfl qk (fun g hr=>Holds.get 0 rfl hr)) (hw':=rfl) (hd:=rfl) (fun _ _=> ?_))
 refine zU kr<|zG<|zi<|vM 1 rfl<|zE (qj rfl rfl)<|qY 1 rfl<|zW (t+1) (show j0≤(t+1)∧(t+1)≤N from by exact ⟨Oo,Oo⟩) (by show N - (t+1)<N - t;omega) (mR rfl) (ho:=((.c (i:=1) rfl (.e (i:=0) rfl (by first|rfl|(rw [Mx.zmJ hil om om])) .n)):zJ _ _ _)) ((.c (j:=5) rfl .n):q9 _ _ _)
 have a3:Mx.e M rr t=0:=Rat.num_eq_zero.1 (Big.ZX.1 (Decidable.not_not.1 hz))
 refine qN<|zG<|zi<|vM 1 rfl<|zE (qj rfl rfl)<|qY 1 rfl<|zW (t+1) (show j0≤(t+1)∧(t+1)≤N from by exact ⟨Oo,Oo⟩) (by show N - (t+1)<N - t;omega) (mR rfl) (ho:=((.c (i:=0) rfl (.e (i:=0) rfl (by first|rfl|(rw [Mx.zmK om om a3])) .n)):zJ _ _ _)) ((.c (j:=1) rfl .n):q9 _ _ _)
 refine z7<|ze<|ze<|zn<|zje ?_
 have a4:(M.set ii (Mx.sb (M.getD ii []) (M.getD rr []) xk j0 t))=(M.set ii (Mx.sb (M.getD ii []) (M.getD rr []) xk j0 N)):=by rw [show t=N by omega]
 rw [a4]
 exact zeg Tryz.results81 () trivial rfl ((.c (i:=1) rfl .n):zJ _ _ _) sN
end Sp
namespace Sp
open Go
theorem vR.rowSome {c:Cx} {O:List As} {R:List Fa} {α:Type} {T:TypeId} {r:Rp α} {p:Option Addr} {cap:Nat} {l:List α} {w:World} (i:Nat) (hi:O[i]? =some (rowA T r p cap l)) (hl:l≠[]) (mm:vR c w O R):∃y:Nat×Nat,p=some ⟨y.1,y.2,none⟩∧vR c w O R:=by
  obtain ⟨hh,g,m0⟩:=mm.perm (qP hi)
  obtain ⟨h1,h2,a,eh,s,y⟩:=m0.sep
  rcases s with ⟨e1,e2,e3,e4⟩|⟨b,off,cells,e1,e2,e3,e4,e5,e6⟩
  · exact absurd (by assumption) hl
  · exact ⟨(b,off),by assumption,mm⟩
section
variable {P : Program} {Q : Exit → Act → World → Prop} {c : Cx} {n : Sz} {ops : Array Oper} {m : Fm} {OW O : List As} {R : List Fa} {k wi : Nat} {L : Array Bool}
end
end Sp
end Go.Proofs.YtpdbimfnhglhpaaGreat
