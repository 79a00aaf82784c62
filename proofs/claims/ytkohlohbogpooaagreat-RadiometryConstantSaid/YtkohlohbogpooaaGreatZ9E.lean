/- Lemmas on the walk and plain lemmas that the claim of this folder uses; each states its own conditions. Lines were printed by a program of ours. -/
import Derived.Test.YtkohlohbogpooaaGreatZ9D
set_option linter.unusedVariables false
set_option linter.unusedSimpArgs false
set_option linter.unusedSectionVars false
open Go.Value renaming int → ya, pointer → yc
open Go.IntKind renaming i64 → yb
open Go.Proofs.Tryz renaming underlying42 → yd, underlying44 → ye, underlying68 → yf, underlying88 → yg, underlying55 → yh, underlying102 → yi, results42 → yk, prog → yl, results31 → ym, underlying56 → yn
open Go.Proofs.YtkohlohbogpooaaGreat.Big renaming getD_mem → yj
namespace Go.Proofs.YtkohlohbogpooaaGreat.Rd
open Mx
set_option linter.unusedVariables false
abbrev Fi:=Nat→Nat→Int
def add1 (f:Fi) (a b:Nat) (v:Int):Fi:=fun i j=>if i=a∧j=b then f i j+v else f i j
def uf (f:Fi) (c:Cm):Fi:=add1 (add1 (add1 (add1 f c.a.toNat c.a.toNat c.w) c.b.toNat c.b.toNat c.w) c.a.toNat c.b.toNat (-c.w)) c.b.toNat c.a.toNat (-c.w)
def J0 (p:List Int):Fi:=fun i j=>if p.getD i 0=p.getD j 0 then 1 else 0
def FK (p:List Int) (l:List Cm):Fi:=l.foldl uf (J0 p)
def rs (r:List Int) (c:Cm):List Int:=
  let r1:=r.set c.a.toNat (r.getD c.a.toNat 0+c.w*c.d)
  r1.set c.b.toNat (r1.getD c.b.toNat 0 - c.w*c.d)
def RK (n:Nat) (l:List Cm):List Int:=l.foldl rs (List.replicate n 0)
def mkI (K N:Nat) (f:Fi):List (List Int):=(List.range K).map fun i=>(List.range N).map (f i)
theorem mkI_len (K N:Nat) (f:Fi):(mkI K N f).length=K:=by unfold mkI;simp
theorem mkI_row {K N i:Nat} {f:Fi} (h:i<K):(mkI K N f).getD i []=(List.range N).map (f i):=by
  unfold mkI;rw [List.getD_eq_getElem?_getD,List.getElem?_map,List.getElem?_range h];rfl
theorem mapI_get {N j:Nat} {g:Nat→Int} (h:j<N):((List.range N).map g).getD j 0=g j:=by
  rw [List.getD_eq_getElem?_getD,List.getElem?_map,List.getElem?_range h];rfl
theorem mkI_get {K N i j:Nat} {f:Fi} (h:i<K) (hj:j<N):((mkI K N f).getD i []).getD j 0=f i j:=by rw [mkI_row h,mapI_get hj]
theorem mkI_rl {K N i:Nat} {f:Fi} (h:i<K):((mkI K N f).getD i []).length=N:=by rw [mkI_row h];simp
theorem mkI_set {K N a b:Nat} {f:Fi} {v:Int} (ha:a<K) (hb:b<N):(mkI K N f).set a (((mkI K N f).getD a []).set b (f a b+v))=mkI K N (add1 f a b v):=by
  refine ext_getD [] (by rw [List.length_set,mkI_len,mkI_len]) fun i hi=> ?_
  rw [List.length_set,mkI_len] at hi
  rw [getD_set (by rw [mkI_len];exact ha),mkI_row (f:=add1 f a b v) hi]
  by_cases e:i=a
  · subst e
    rw [if_pos rfl]
    refine ext_getD 0 (by rw [List.length_set,mkI_rl hi];simp) fun j hj=> ?_
    rw [List.length_set,mkI_rl hi] at hj
    rw [getD_set (by rw [mkI_rl hi];exact hb),mapI_get hj,mkI_get hi hj]
    unfold add1
    by_cases k:j=b
    · subst k;rw [if_pos rfl,if_pos ⟨rfl,rfl⟩]
    · rw [if_neg k,if_neg (fun z=>k z.2)]
  · rw [if_neg e, mkI_row hi]
    exact List.map_congr_left fun j _=>by unfold add1;rw [if_neg (fun z=>e z.1)]
theorem mkI_sub {K N a b:Nat} {f:Fi} {v:Int} (ha:a<K) (hb:b<N):(mkI K N f).set a (((mkI K N f).getD a []).set b (f a b - v))=mkI K N (add1 f a b (-v)):=by rw [Int.sub_eq_add_neg];exact mkI_set ha hb
theorem take_fold {α:Type} {β:Type} (g:β→α→β) (z:β) {l:List α} {i:Nat} (d:α) (h:i<l.length):(l.take (i+1)).foldl g z=g ((l.take i).foldl g z) (l.getD i d):=by
  rw [List.take_add_one,List.getElem?_eq_getElem h,List.foldl_append,List.getD_eq_getElem?_getD,List.getElem?_eq_getElem h];rfl
theorem mkI_succ (K N:Nat) (f:Fi):mkI (K+1) N f=mkI K N f++[(List.range N).map (f K)]:=by unfold mkI;rw [List.range_succ,List.map_append];rfl
def fz (i n:Nat) (f:Nat→Int):List Int:=(List.range n).map fun c=>if c<i then f c else 0
theorem fz_len (i n:Nat) (f:Nat→Int):(fz i n f).length=n:=by unfold fz;simp
theorem fz_start (n:Nat) (f:Nat→Int):List.replicate n 0=fz 0 n f:=by
  refine ext_getD 0 (by rw [fz_len,List.length_replicate]) fun c hc=> ?_
  rw [List.length_replicate] at hc
  unfold fz
  rw [mapI_get hc,if_neg (by omega),List.getD_eq_getElem?_getD,List.getElem?_replicate,if_pos hc];rfl
theorem fz_step {i n:Nat} {f:Nat→Int} (hi:i<n):(fz i n f).set i (f i)=fz (i+1) n f:=by
  refine ext_getD 0 (by rw [List.length_set,fz_len,fz_len]) fun c hc=> ?_
  rw [List.length_set,fz_len] at hc
  rw [getD_set (by rw [fz_len];exact hi)]
  unfold fz
  rw [mapI_get hc,mapI_get hc]
  by_cases k:c=i
  · subst k;rw [if_pos rfl,if_pos (by omega)]
  · rw [if_neg k]
    by_cases q:c<i
    · rw [if_pos q,if_pos (by omega)]
    · rw [if_neg q,if_neg (by omega)]
theorem fz_step' {i n:Nat} {f:Nat→Int} {v:Int} (hi:i<n) (hv:f i=v):(fz i n f).set i v=fz (i+1) n f:=by rw [← hv];exact fz_step hi
theorem fz_skip {i n:Nat} {f:Nat→Int} (hi:i<n) (h0:f i=0):fz i n f=fz (i+1) n f:=by
  rw [← fz_step hi,h0]
  refine ext_getD 0 (by rw [List.length_set]) fun c hc=> ?_
  rw [fz_len] at hc
  rw [getD_set (by rw [fz_len];exact hi)]
  by_cases k:c=i
  · subst k;rw [if_pos rfl];unfold fz;rw [mapI_get hc,if_neg (by omega)]
  · rw [if_neg k]
theorem fz_end (n:Nat) (f:Nat→Int):fz n n f=(List.range n).map f:=by
  unfold fz;exact List.map_congr_left fun c hc=>by rw [if_pos (List.mem_range.1 hc)]
theorem rnd_take {l:List Cm} {i:Nat} {p:List Int} (h:i<l.length):rnd (l.take (i+1)) p=st (rnd (l.take i) p) (l.getD i c0):=take_fold st p c0 h
theorem FK_take {l:List Cm} {i:Nat} {p:List Int} (h:i<l.length):FK p (l.take (i+1))=uf (FK p (l.take i)) (l.getD i c0):=take_fold uf _ c0 h
theorem RK_take {l:List Cm} {i n:Nat} (h:i<l.length):RK n (l.take (i+1))=rs (RK n (l.take i)) (l.getD i c0):=take_fold rs _ c0 h
theorem J0_1 {p:List Int} {i j:Nat} (h:p.getD i 0=p.getD j 0):J0 p i j=1:=if_pos h
theorem J0_0 {p:List Int} {i j:Nat} (h:¬p.getD i 0=p.getD j 0):J0 p i j=0:=if_neg h
def fb (f:Fi) (B:Int):Prop:=∀i j,-B≤f i j∧f i j≤B
theorem fb_add {f:Fi} {B v W:Int} {a b:Nat} (h:fb f B) (hv: -W≤v∧v≤W):fb (add1 f a b v) (B+W):=fun i j=>by
  have:=h i j
  unfold add1;split <;> omega
theorem fb_uf {f:Fi} {B:Int} {c:Cm} (h:fb f B) (hw:1≤c.w∧c.w≤4096):fb (uf f c) (B+16384):=fun i j=>by
  have:=fb_add (W:=4096) (v:= -c.w) (a:=c.b.toNat) (b:=c.a.toNat) (fb_add (W:=4096) (v:= -c.w) (a:=c.a.toNat) (b:=c.b.toNat) (fb_add (W:=4096) (v:=c.w) (a:=c.b.toNat) (b:=c.b.toNat) (fb_add (W:=4096) (v:=c.w) (a:=c.a.toNat) (b:=c.a.toNat) h (by omega)) (by omega)) (by omega)) (by omega) i j
  unfold uf;omega
theorem fb_J0 (p:List Int):fb (J0 p) 1:=fun i j=>by unfold J0;split <;> omega
theorem mul_wd {w d:Int} (hw:1≤w∧w≤4096) (hd: -65535≤d∧d≤65535): -268431360≤w*d∧w*d≤268431360:=by
  have h1:0≤w*(65535 - d):=Int.mul_nonneg (by omega) (by omega)
  have h2:0≤w*(d+65535):=Int.mul_nonneg (by omega) (by omega)
  rw [Int.mul_sub] at h1
  rw [Int.mul_add] at h2
  omega
def rb (r:List Int) (B:Int):Prop:=∀i,-B≤r.getD i 0∧r.getD i 0≤B
theorem rb_set {r:List Int} {B v:Int} {k:Nat} (h:rb r B) (hv: -B≤v∧v≤B):rb (r.set k v) B:=fun i=>by
  by_cases hk:k<r.length
  · rw [getD_set hk]; split
    · exact hv
    · exact h i
  · rw [List.set_eq_of_length_le (by omega)];exact h i
theorem rb_up {r:List Int} {B C:Int} (h:rb r B) (k:B≤C):rb r C:=fun i=>by have:=h i;omega
theorem rb_rs {r:List Int} {B:Int} {c:Cm} (h:rb r B) (hw:1≤c.w∧c.w≤4096) (hd: -65535≤c.d∧c.d≤65535):rb (rs r c) (B+536862720):=by
  have h1:=mul_wd hw hd
  have h2:=h c.a.toNat
  have ha:rb (r.set c.a.toNat (r.getD c.a.toNat 0+c.w*c.d)) (B+268431360):=rb_set (rb_up h (by omega)) (by omega)
  have h3:=ha c.b.toNat
  exact rb_set (rb_up ha (by omega)) (by omega)
theorem rb_zero (n:Nat):rb (List.replicate n 0) 0:=fun i=>by
  rw [List.getD_eq_getElem?_getD,List.getElem?_replicate];split <;> exact ⟨Int.le_refl _,Int.le_refl _⟩
theorem FK_fb {p:List Int} {l:List Cm} {n:Nat} (h:Oks n l):∀k,k≤l.length→fb (FK p (l.take k)) (1+16384*k)
  |0,_=>fun i j=>by have:=fb_J0 p i j;show _≤J0 p i j∧J0 p i j≤_;omega
  |k+1,hk=>by
    have ih:=FK_fb (p:=p) h k (by omega)
    unfold FK at ih ⊢
    rw [take_fold uf (J0 p) c0 (by omega)]
    have:=fb_uf ih (h.getD (show k<l.length by omega)).w
    intro i j
    have:=this i j
    omega
theorem RK_rb {l:List Cm} {n:Nat} (h:Oks n l):∀k,k≤l.length→rb (RK n (l.take k)) (536862720*k)
  |0,_=>by have:=rb_zero n;exact rb_up this (by omega)
  |k+1,hk=>by
    have ih:=RK_rb h k (by omega)
    unfold RK at ih ⊢
    rw [take_fold rs _ c0 (by omega)]
    have ho:=h.getD (show k<l.length by omega)
    exact rb_up (rb_rs ih ho.w ho.d) (by omega)
theorem rs_len (r:List Int) (c:Cm):(rs r c).length=r.length:=by unfold rs;simp
theorem RKf_len:∀(l:List Cm) (r:List Int),(l.foldl rs r).length=r.length
  |[],r=>rfl
  |c :: l,r=>by show (l.foldl rs (rs r c)).length=_;rw [RKf_len l,rs_len]
theorem RK_len (n:Nat) (l:List Cm):(RK n l).length=n:=by unfold RK;rw [RKf_len];simp
def S (f:Cm→Rat):List Cm→Rat
  |[]=>0
  |c :: l=>f c+S f l
theorem S_cons (f:Cm→Rat) (c:Cm) (l:List Cm):S f (c :: l)=f c+S f l:=rfl
theorem S_congr {f g:Cm→Rat}:∀{l:List Cm},(∀c∈l,f c=g c)→S f l=S g l
  |[],_=>rfl
  |c :: l,h=>by unfold S;rw [h c (List.mem_cons_self ..),S_congr fun x hx=>h x (List.mem_cons_of_mem _ hx)]
theorem S_add (f g:Cm→Rat):∀l,S (fun c=>f c+g c) l=S f l+S g l
  |[]=>by unfold S;grind
  |c :: l=>by unfold S;rw [S_add f g l];grind
theorem S_mul (k:Rat) (f:Cm→Rat):∀l,S (fun c=>k*f c) l=k*S f l
  |[]=>by unfold S;grind
  |c :: l=>by unfold S;rw [S_mul k f l];grind
theorem S_zero {f:Cm→Rat}:∀{l:List Cm},(∀c∈l,f c=0)→S f l=0
  |[],_=>rfl
  |c :: l,h=>by unfold S;rw [h c (List.mem_cons_self ..),S_zero fun x hx=>h x (List.mem_cons_of_mem _ hx)];grind
theorem S_nn {f:Cm→Rat}:∀{l:List Cm},(∀c∈l,0≤f c)→0≤S f l
  |[],_=>by unfold S;grind
  |c :: l,h=>by
    have h1:=h c (List.mem_cons_self ..)
    have h2:=S_nn fun x hx=>h x (List.mem_cons_of_mem _ hx)
    unfold S;grind
theorem S_all0 {f:Cm→Rat}:∀{l:List Cm},(∀c∈l,0≤f c)→S f l≤0→∀c∈l,f c=0
  |[],_,_,c,hc=>by cases hc
  |x :: l,h,h0,c,hc=>by
    have h1:=h x (List.mem_cons_self ..)
    have h2:=S_nn fun y hy=>h y (List.mem_cons_of_mem _ hy)
    unfold S at h0
    rcases List.mem_cons.1 hc with e|e
    · rw [e];grind
    · exact S_all0 (fun y hy=>h y (List.mem_cons_of_mem _ hy)) (by grind) c e
theorem S_sm (n:Nat) (g:Nat→Cm→Rat):∀l,sm n (fun i=>S (g i) l)=S (fun c=>sm n (fun i=>g i c)) l
  |[]=>sm_zero fun _ _=>rfl
  |c :: l=>by
    unfold S
    rw [← S_sm n g l,←sm_add]
def dl (i:Nat) (k:Int):Rat:=if i=k.toNat then 1 else 0
def xa (x:Nat→Rat) (k:Int):Rat:=x k.toNat
theorem sm_dl {n:Nat} {k:Int} {x:Nat→Rat} (h:k.toNat<n):sm n (fun i=>x i*dl i k)=xa x k:=by
  have:=sm_one (n:=n) (p:=k.toNat) (v:=0) (f:=x) h
  rw [xa,←this]
  exact sm_congr fun i _=>by unfold dl;split <;> grind
theorem add1_sm {n a b i:Nat} {f:Fi} {v:Int} {x:Nat→Rat} (hb:b<n):sm n (fun j=>((add1 f a b v i j:Int):Rat)*x j)=sm n (fun j=>((f i j:Int):Rat)*x j)+(if i=a then (v:Rat)*x b else 0):=by
  by_cases e:i=a
  · rw [if_pos e]
    have:=sm_one (n:=n) (p:=b) (v:=0) (f:=fun j=>(v:Rat)*x j) hb
    rw [← this,←sm_add]
    refine sm_congr fun j _=> ?_
    unfold add1
    by_cases k:j=b
    · rw [if_pos ⟨e,k⟩,if_pos k,Rat.intCast_add];grind
    · rw [if_neg (fun z=>k z.2),if_neg k];grind
  · rw [if_neg e]
    rw [sm_congr fun j _=>by unfold add1;rw [if_neg (fun z=>e z.1)]]
    grind
theorem uf_sm {n i:Nat} {f:Fi} {c:Cm} {x:Nat→Rat} (hc:Ok n c):sm n (fun j=>((uf f c i j:Int):Rat)*x j)=sm n (fun j=>((f i j:Int):Rat)*x j)+(c.w:Rat)*(dl i c.a - dl i c.b)*(xa x c.a - xa x c.b):=by
  have h1:=hc.a;have h2:=hc.b;have h3:=hc.ne
  unfold uf
  rw [add1_sm h1,add1_sm h2,add1_sm h2,add1_sm h1,Rat.intCast_neg]
  unfold dl xa
  by_cases e:i=c.a.toNat
  · have : ¬ i = c.b.toNat := by omega
    rw [if_pos e,if_neg this,if_pos e,if_neg this,if_pos e,if_neg this];grind
  · by_cases k : i = c.b.toNat
    · rw [if_neg e,if_pos k,if_neg e,if_pos k,if_neg e,if_pos k];grind
    · rw [if_neg e,if_neg k,if_neg e,if_neg k,if_neg e,if_neg k];grind
theorem foldl_sm {n i:Nat} {x:Nat→Rat}:∀{l:List Cm} {f:Fi},Oks n l→sm n (fun j=>((l.foldl uf f i j:Int):Rat)*x j)=sm n (fun j=>((f i j:Int):Rat)*x j)+S (fun c=>(c.w:Rat)*(dl i c.a - dl i c.b)*(xa x c.a - xa x c.b)) l
  |[],f,_=>by unfold S;show sm n (fun j=>((f i j:Int):Rat)*x j)=_;grind
  |c :: l,f,h=>by
    show sm n (fun j=>((l.foldl uf (uf f c) i j:Int):Rat)*x j)=_
    rw [foldl_sm (l:=l) (f:=uf f c) (fun y hy=>h y (List.mem_cons_of_mem _ hy)),uf_sm (h c (List.mem_cons_self ..)),S_cons]
    grind
def T (n:Nat) (p:List Int) (x:Nat→Rat) (v:Int):Rat:=sm n fun j=>if p.getD j 0=v then x j else 0
theorem J0_sm {n i:Nat} {p:List Int} {x:Nat→Rat}:sm n (fun j=>((J0 p i j:Int):Rat)*x j)=T n p x (p.getD i 0):=by
  refine sm_congr fun j _=> ?_
  unfold J0
  by_cases e:p.getD i 0=p.getD j 0
  · rw [if_pos e,if_pos e.symm];have:((1:Int):Rat)=1:=rfl;rw [this];grind
  · rw [if_neg e,if_neg (fun z=>e z.symm)];have:((0:Int):Rat)=0:=rfl;rw [this];grind
theorem FK_sm {n i:Nat} {p:List Int} {l:List Cm} {x:Nat→Rat} (h:Oks n l):sm n (fun j=>((FK p l i j:Int):Rat)*x j)=T n p x (p.getD i 0)+S (fun c=>(c.w:Rat)*(dl i c.a - dl i c.b)*(xa x c.a - xa x c.b)) l:=by
  unfold FK;rw [foldl_sm h,J0_sm]
theorem add1_symm {f:Fi} {c:Cm} (h:∀i j,f i j=f j i) (i j:Nat):uf f c i j=uf f c j i:=by
  unfold uf add1
  have:=h i j
  by_cases h1:i=c.a.toNat <;> by_cases h2:i=c.b.toNat <;> by_cases h3:j=c.a.toNat <;> by_cases h4:j=c.b.toNat <;> simp [h1,h2,h3,h4] <;> simp_all <;> omega
theorem FK_symm {p:List Int} (l:List Cm) (i j:Nat):FK p l i j=FK p l j i:=by
  have key:∀(l:List Cm) (f:Fi),(∀i j,f i j=f j i)→∀i j,l.foldl uf f i j=l.foldl uf f j i:=by
    intro l
    induction l with
    |nil=>intro f h i j;exact h i j
    |cons c l ih=>intro f h i j;exact ih (uf f c) (add1_symm h) i j
  exact key l _ (fun i j=>by unfold J0;split <;> split <;> omega) i j
end Go.Proofs.YtkohlohbogpooaaGreat.Rd
namespace Go.Proofs.YtkohlohbogpooaaGreat.Sp
open Go
set_option linter.unusedVariables false
abbrev Cm:=Rd.Cm
def okC (k:IntKind) (z:Cm):Prop:=InK k z.a∧InK k z.b∧InK k z.d∧InK k z.w
def rI4 (k:IntKind):Rp Cm:=fl 4 (fun z=>[.int k z.a,.int k z.b,.int k z.d,.int k z.w]) (okC k) (fun _=>rfl) (fun _=>rfl)
section
variable {P : Program} {n : Sz} {m : Fm} {O : List As} {R : List Fa} {d : Option Tmp} {ty : TypeId} {ps : String} {af : Array Edge} {gd : Option (Nat × Bool)} {T : TypeId} {hs : HP} {M : List (List Int)}
theorem zwb {t:TypeId} {x:Operand} {o:Nat} {x0:Int} (i k j:Nat) (hi:O[i]? =some (rowsM T (rI .i64) hs M)) (hk:k<hs.length) (hM:k<M.length) (ht:Ty P t 1 false) (h:evo m x=some (rowPtr (rp hs k) o)) (ho:o=j*1) (hx:(M.getD k [])[j]? =some x0):
    Vl P n ⟨d,.load t x,ty,ps,af,gd⟩ m O R (Y:=Unit) (fun _=>InK .i64 x0) (fun _=> .int .i64 x0) (fun _=>[]):=fun a f hh g sp hr=>by
  obtain ⟨k1,k2,ap,e0,hA,_,_⟩:=Sep.pick i hi sp
  have hA2:Sep g (List.zipWith (rmA T (rI .i64)) hs M) k1:=hA
  obtain ⟨y,hok,hR,hrun⟩:=zG (P:=P) (n:=n) (d:=d) (ty:=ty) (ps:=ps) (af:=af) (gd:=gd) (O:=List.zipWith (rmA T (rI .i64)) hs M) (R:=R) (v:= .int .i64 x0) k j (zip_at hk hM) ht h ho hx rfl a f k1 g hA2 hr
  exact ⟨(),hok,trivial,fun w hw hg=>hrun w (Has.mono hw (by rw [e0];exact Hp.le_joinL _ _)) hg⟩
end
theorem mkI_sm {hs:HP} (K N:Nat) (f:Rd.Fi) (hh:hs.length=K):Mx.Sm hs (Rd.mkI K N f) K N:=⟨hh,Rd.mkI_len ..,fun i hi=>Rd.mkI_rl hi⟩
end Go.Proofs.YtkohlohbogpooaaGreat.Sp
namespace Go.Proofs.YtkohlohbogpooaaGreat.Rd
open Mx
set_option linter.unusedVariables false
def A0 (n:Nat) (l:List Cm):Mt:=mk n n fun i j=>eI (mkI n n (FK (prt n l) l)) i j
theorem A0_e {n:Nat} {l:List Cm} {i j:Nat} (hi:i<n) (hj:j<n):e (A0 n l) i j=((FK (prt n l) l i j:Int):Rat):=by
  unfold A0;rw [mk_e hi hj];unfold eI;rw [mkI_get hi hj]
def rr (n:Nat) (l:List Cm):List Rat:=(RK n l).map fun z:Int=>(z:Rat)
theorem rr_get {n:Nat} {l:List Cm} {i:Nat}:(rr n l).getD i 0=(((RK n l).getD i 0:Int):Rat):=by
  unfold rr
  rw [List.getD_eq_getElem?_getD,List.getElem?_map,List.getD_eq_getElem?_getD]
  cases (RK n l)[i]? <;> rfl
theorem rs_get {r:List Int} {c:Cm} {n i:Nat} (hr:r.length=n) (hc:Ok n c):(((rs r c).getD i 0:Int):Rat)=((r.getD i 0:Int):Rat)+(c.w:Rat)*(c.d:Rat)*(dl i c.a - dl i c.b):=by
  have h1:=hc.a;have h2:=hc.b;have h3:=hc.ne
  unfold rs dl
  dsimp only
  rw [getD_set (by rw [List.length_set];omega),getD_set (by omega),getD_set (by omega)]
  by_cases e:i=c.b.toNat
  · have k : ¬ i = c.a.toNat := by omega
    have k2:¬c.b.toNat=c.a.toNat:=by omega
    rw [if_pos e,if_neg k2,if_neg k,if_pos e,e,Rat.intCast_sub,Rat.intCast_mul];grind
  · rw [if_neg e]
    by_cases k:i=c.a.toNat
    · rw [if_pos k,if_pos k,if_neg e,k,Rat.intCast_add,Rat.intCast_mul];grind
    · rw [if_neg k,if_neg k,if_neg e];grind
theorem RKf_get {n i:Nat}:∀{l:List Cm} {r:List Int},Oks n l→r.length=n→(((l.foldl rs r).getD i 0:Int):Rat)=((r.getD i 0:Int):Rat)+S (fun c=>(c.w:Rat)*(c.d:Rat)*(dl i c.a - dl i c.b)) l
  |[],r,_,_=>by unfold S;show ((r.getD i 0:Int):Rat)=_;grind
  |c :: l,r,h,hr=>by
    show (((l.foldl rs (rs r c)).getD i 0:Int):Rat)=_
    rw [RKf_get (l:=l) (r:=rs r c) (fun y hy=>h y (List.mem_cons_of_mem _ hy)) ((rs_len r c).trans hr),rs_get hr (h c (List.mem_cons_self ..)),S_cons]
    grind
theorem RK_get {n i:Nat} {l:List Cm} (h:Oks n l):(((RK n l).getD i 0:Int):Rat)=S (fun c=>(c.w:Rat)*(c.d:Rat)*(dl i c.a - dl i c.b)) l:=by
  unfold RK
  rw [RKf_get h (by simp)]
  have:(List.replicate n (0:Int)).getD i 0=0:=by rw [List.getD_eq_getElem?_getD,List.getElem?_replicate];split <;> rfl
  rw [this];have:((0:Int):Rat)=0:=rfl;rw [this];grind
theorem rr_len (n:Nat) (l:List Cm):(rr n l).length=n:=by unfold rr;rw [List.length_map,RK_len]
theorem rr_take {n i:Nat} {l:List Cm} (h:i<n):(rr n l).take (i+1)=(rr n l).take i++[(((RK n l).getD i 0:Int):Rat)]:=by
  rw [List.take_add_one,List.getElem?_eq_getElem (by rw [rr_len];exact h)]
  congr 1
  rw [← rr_get,List.getD_eq_getElem?_getD,List.getElem?_eq_getElem (by rw [rr_len];exact h)];rfl
theorem A0_hq {n:Nat} {l:List Cm} (h:Oks n l) (hl:l.length≤12) (i c:Nat):Big.hq (e (A0 n l) i c)≤3:=by
  by_cases hi:i<n
  · by_cases hj : c < n
    · rw [A0_e hi hj]
      have:=FK_fb (p:=prt n l) h l.length (Nat.le_refl _) i c
      rw [List.take_length] at this
      exact Big.hq_64 (by omega) (by omega)
    · unfold e A0;rw [mk_row hi,range_getD,if_neg hj,Big.hq_zero];decide
  · unfold e
    have:(A0 n l).getD i []=[]:=by rw [List.getD_eq_getElem?_getD,List.getElem?_eq_none (by unfold A0;rw [mk_len];omega)];rfl
    rw [this];show Big.hq (0:Rat)≤3;rw [Big.hq_zero];decide
theorem rr_hq {n:Nat} {l:List Cm} (h:Oks n l) (hl:l.length≤12) (i:Nat):Big.hq ((rr n l).getD i 0)≤3:=by
  rw [rr_get]
  have:=RK_rb h l.length (Nat.le_refl _) i
  rw [List.take_length] at this
  exact Big.hq_64 (by omega) (by omega)
theorem H6 {n:Nat} (h:n≤6):H 3 n≤200000:=Nat.le_trans (H_mono 3 h) (by decide)
section
variable {n : Nat} {l : List Cm}
theorem sm_rr (h:Oks n l) (y:Nat→Rat):sm n (fun t=>y t*(rr n l).getD t 0)=S (fun c=>(c.w:Rat)*(c.d:Rat)*(xa y c.a - xa y c.b)) l:=by
  rw [sm_congr fun t _=>by rw [rr_get,RK_get h,←S_mul],S_sm]
  refine S_congr fun c hc=> ?_
  have ho:=h c hc
  rw [← sm_dl (x:=y) ho.a,←sm_dl (x:=y) ho.b,←sm_sub,←sm_mul]
  exact sm_congr fun t _=>by grind
theorem sm_A (h:Oks n l) (y x:Nat→Rat):sm n (fun i=>y i*sm n (fun j=>e (A0 n l) i j*x j))=sm n (fun i=>y i*T n (prt n l) x ((prt n l).getD i 0))+S (fun c=>(c.w:Rat)*(xa y c.a - xa y c.b)*(xa x c.a - xa x c.b)) l:=by
  have e1:sm n (fun i=>y i*sm n (fun j=>e (A0 n l) i j*x j))=sm n (fun i=>y i*T n (prt n l) x ((prt n l).getD i 0)+S (fun c=>y i*((c.w:Rat)*(dl i c.a - dl i c.b)*(xa x c.a - xa x c.b))) l):=by
    refine sm_congr fun i hi=> ?_
    rw [sm_congr fun j hj=>by rw [A0_e hi hj],FK_sm h,S_mul];grind
  rw [e1,sm_add,S_sm]
  congr 1
  refine S_congr fun c hc=> ?_
  have ho:=h c hc
  rw [← sm_dl (x:=y) ho.a,←sm_dl (x:=y) ho.b,←sm_sub]
  rw [show (c.w:Rat)*sm n (fun i=>y i*dl i c.a - y i*dl i c.b)*(xa x c.a - xa x c.b)=(c.w:Rat)*(xa x c.a - xa x c.b)*sm n (fun i=>y i*dl i c.a - y i*dl i c.b) by grind,←sm_mul]
  exact sm_congr fun t _=>by grind
theorem sq_nn (x:Rat):0≤x*x:=by
  rcases Rat.le_total (a:=0) (b:=x) with h|h
  · exact Rat.mul_nonneg h h
  · have:=Rat.mul_nonneg (show 0≤ -x by grind) (show 0≤ -x by grind);grind
theorem sm_nn {m:Nat} {f:Nat→Rat} (h:∀i,i<m→0≤f i):0≤sm m f:=by
  induction m with
  |zero=>unfold sm;grind
  |succ m ih=>rw [sm_succ];have a:=ih fun i hi=>h i (by omega);have b:=h m (by omega);grind
theorem T_sq (h:Oks n l) (y:Nat→Rat):sm n (fun i=>y i*T n (prt n l) y ((prt n l).getD i 0))=sm n (fun v=>T n (prt n l) y (v:Int)*T n (prt n l) y (v:Int)):=by
  have e1:sm n (fun v=>T n (prt n l) y (v:Int)*T n (prt n l) y (v:Int))=sm n (fun v=>sm n (fun i=>if v=((prt n l).getD i 0).toNat then y i*T n (prt n l) y (v:Int) else 0)):=by
    refine sm_congr fun v hv=> ?_
    conv=>lhs;rw [show T n (prt n l) y (v:Int)*T n (prt n l) y (v:Int)=T n (prt n l) y (v:Int)*sm n (fun j=>if (prt n l).getD j 0=(v:Int) then y j else 0) from rfl]
    rw [← sm_mul]
    refine sm_congr fun i hi=> ?_
    have h0:=rds_nn h n i
    have h0':0≤(prt n l).getD i 0:=h0
    by_cases k:(prt n l).getD i 0=(v:Int)
    · rw [if_pos k,if_pos (by omega)];grind
    · rw [if_neg k,if_neg (by omega)];grind
  rw [e1,sm_swap]
  refine sm_congr fun i hi=> ?_
  have h0:0≤(prt n l).getD i 0:=rds_nn h n i
  have h1:(prt n l).getD i 0<n:=rds_lt h n i hi
  rw [sm_one (n:=n) (p:=((prt n l).getD i 0).toNat) (v:=0) (f:=fun v=>y i*T n (prt n l) y (v:Int)) (by omega)]
  rw [show ((((prt n l).getD i 0).toNat:Nat):Int)=(prt n l).getD i 0 by omega]
theorem A0_symm {i j:Nat} (hi:i<n) (hj:j<n):e (A0 n l) i j=e (A0 n l) j i:=by rw [A0_e hi hj,A0_e hj hi,FK_symm]
theorem w_pos (h:Oks n l) {c:Cm} (hc:c∈l):(0:Rat)<(c.w:Rat):=by
  have:=(h c hc).w
  have h1:((1:Int):Rat)≤(c.w:Rat):=Rat.intCast_le_intCast.2 this.1
  have h2:((1:Int):Rat)=1:=rfl
  grind
theorem cons (h:Oks n l):Cons (A0 n l) (rr n l) n n:=fun y hy=>by
  have h1:sm n (fun c=>y c*sm n (fun t=>e (A0 n l) c t*y t))=0:=sm_zero fun c hc=>by
    rw [sm_congr fun t ht=>by rw [A0_symm hc ht,Rat.mul_comm],hy c hc];grind
  rw [sm_A h,T_sq h] at h1
  have h2:=sm_nn (m:=n) (f:=fun v=>T n (prt n l) y (v:Int)*T n (prt n l) y (v:Int)) fun v _=>sq_nn _
  have hp:∀c∈l,0≤(c.w:Rat)*(xa y c.a - xa y c.b)*(xa y c.a - xa y c.b):=fun c hc=>by
    have hw:=w_pos h hc
    have:=Rat.mul_nonneg (show 0≤(c.w:Rat) by grind) (sq_nn (xa y c.a - xa y c.b));grind
  have h3:=S_all0 hp (by grind)
  rw [sm_rr h]
  refine S_zero fun c hc=> ?_
  have h4:=h3 c hc
  have hw:=w_pos h hc
  have:xa y c.a - xa y c.b=0:=by
    rcases Rat.mul_eq_zero.1 h4 with k|k
    · rcases Rat.mul_eq_zero.1 k with q | q
      · grind
      · exact q
    · exact k
  rw [this];grind
structure Lv (n:Nat) (l:List Cm) (o:Nat→Rat):Prop where
  t:∀v,T n (prt n l) o v=0
  g:∀i,i<n→S (fun c=>(c.w:Rat)*(xa o c.b - xa o c.a+(c.d:Rat))*(dl i c.b - dl i c.a)) l=0
theorem lv_of (h:Oks n l) (hn:1≤n) {o:Nat→Rat} (ho:∀i,i<n→sm n (fun c=>e (A0 n l) i c*o c)=(rr n l).getD i 0):Lv n l o:=by
  have ht:∀v,T n (prt n l) o v=0:=fun v=>by
    have h1:=sm_A h (fun i=>if (prt n l).getD i 0=v then 1 else 0) o
    rw [sm_congr fun i hi=>by rw [ho i hi],sm_rr h] at h1
    have ez:∀c∈l,xa (fun i=>if (prt n l).getD i 0=v then (1:Rat) else 0) c.a - xa (fun i=>if (prt n l).getD i 0=v then (1:Rat) else 0) c.b=0:=fun c hc=>by
      unfold xa;dsimp only;rw [prt_eq h hn hc];grind
    rw [S_zero fun c hc=>by rw [ez c hc];grind,S_zero fun c hc=>by rw [ez c hc];grind] at h1
    have h2:sm n (fun i=>(if (prt n l).getD i 0=v then (1:Rat) else 0)*T n (prt n l) o ((prt n l).getD i 0))=T n (prt n l) o v*sm n (fun i=>if (prt n l).getD i 0=v then (1:Rat) else 0):=by
      rw [← sm_mul]
      refine sm_congr fun i hi=> ?_
      split
      · rename_i k;rw [k];grind
      · grind
    rw [h2] at h1
    by_cases k:∃i,i<n∧(prt n l).getD i 0=v
    · obtain ⟨i, hi, hv⟩ := k
      have h3:(1:Rat)≤sm n (fun i=>if (prt n l).getD i 0=v then (1:Rat) else 0):=by
        have a:=sm_one (n:=n) (p:=i) (v:=0) (f:=fun _=>(1:Rat)) hi
        have b:=sm_nn (m:=n) (f:=fun c=>(if (prt n l).getD c 0=v then (1:Rat) else 0) - (if c=i then 1 else 0)) fun c hc=>by
          by_cases q:c=i
          · subst q;rw [if_pos hv,if_pos rfl];grind
          · rw [if_neg q];split <;> grind
        rw [sm_sub,a] at b;grind
      have h4:T n (prt n l) o v*sm n (fun i=>if (prt n l).getD i 0=v then (1:Rat) else 0)=0:=by grind
      rcases Rat.mul_eq_zero.1 h4 with q|q
      · exact q
      · grind
    · exact sm_zero fun i hi=>if_neg fun z=>k ⟨i,hi,z⟩
  refine ⟨ht,fun i hi=> ?_⟩
  have h1:=ho i hi
  rw [rr_get,RK_get h,sm_congr fun j hj=>by rw [A0_e hi hj],FK_sm h,ht] at h1
  have h2:S (fun c=>(c.w:Rat)*(xa o c.b - xa o c.a+(c.d:Rat))*(dl i c.b - dl i c.a)) l=S (fun c=>(c.w:Rat)*(dl i c.a - dl i c.b)*(xa o c.a - xa o c.b)) l+(-1)*S (fun c=>(c.w:Rat)*(c.d:Rat)*(dl i c.a - dl i c.b)) l:=by
    rw [← S_mul,←S_add];exact S_congr fun c _=>by grind
  rw [h2];grind
def loss (l:List Cm) (o:Nat→Rat):Rat:=S (fun c=>(c.w:Rat)*((xa o c.b - xa o c.a+(c.d:Rat))*(xa o c.b - xa o c.a+(c.d:Rat)))) l
theorem loss_le (h:Oks n l) {o:Nat→Rat} (ho:Lv n l o) (r:Nat→Rat):loss l o≤loss l r:=by
  have key:S (fun c=>(c.w:Rat)*(xa o c.b - xa o c.a+(c.d:Rat))*((xa r c.b - xa o c.b) - (xa r c.a - xa o c.a))) l=0:=by
    have h1:sm n (fun i=>(r i - o i)*S (fun c=>(c.w:Rat)*(xa o c.b - xa o c.a+(c.d:Rat))*(dl i c.b - dl i c.a)) l)=0:=sm_zero fun i hi=>by rw [ho.g i hi];grind
    rw [sm_congr fun i _=>by rw [← S_mul],S_sm] at h1
    rw [← h1]
    refine S_congr fun c hc=> ?_
    have hk:=h c hc
    have a:=sm_dl (x:=fun i=>r i - o i) hk.a
    have b:=sm_dl (x:=fun i=>r i - o i) hk.b
    have d:sm n (fun i=>(r i - o i)*((c.w:Rat)*(xa o c.b - xa o c.a+(c.d:Rat))*(dl i c.b - dl i c.a)))=((c.w:Rat)*(xa o c.b - xa o c.a+(c.d:Rat)))*(sm n (fun i=>(r i - o i)*dl i c.b) - sm n (fun i=>(r i - o i)*dl i c.a)):=by
      rw [← sm_sub,←sm_mul];exact sm_congr fun i _=>by grind
    rw [d,a,b];unfold xa;grind
  have h2:loss l r=loss l o+2*S (fun c=>(c.w:Rat)*(xa o c.b - xa o c.a+(c.d:Rat))*((xa r c.b - xa o c.b) - (xa r c.a - xa o c.a))) l+S (fun c=>(c.w:Rat)*(((xa r c.b - xa o c.b) - (xa r c.a - xa o c.a))*((xa r c.b - xa o c.b) - (xa r c.a - xa o c.a)))) l:=by
    unfold loss;rw [← S_mul,←S_add,←S_add];exact S_congr fun c _=>by grind
  have h3:=S_nn (l:=l) (f:=fun c=>(c.w:Rat)*(((xa r c.b - xa o c.b) - (xa r c.a - xa o c.a))*((xa r c.b - xa o c.b) - (xa r c.a - xa o c.a)))) fun c hc=>by
    have hw:=w_pos h hc
    exact Rat.mul_nonneg (by grind) (sq_nn _)
  rw [h2,key];grind
theorem exact (h:Oks n l) {o t:Nat→Rat} (ho:Lv n l o) (ht:∀c∈l,xa t c.b - xa t c.a+(c.d:Rat)=0):∀c∈l,xa o c.b - xa o c.a+(c.d:Rat)=0:=fun c hc=>by
  have h1:=loss_le h ho t
  have h2:loss l t=0:=S_zero fun c hc=>by rw [ht c hc];grind
  have h3:=S_all0 (l:=l) (f:=fun c=>(c.w:Rat)*((xa o c.b - xa o c.a+(c.d:Rat))*(xa o c.b - xa o c.a+(c.d:Rat)))) (fun c hc=>by
    have hw:=w_pos h hc
    exact Rat.mul_nonneg (by grind) (sq_nn _)) (by rw [h2] at h1;exact h1) c hc
  have hw:=w_pos h hc
  rcases Rat.mul_eq_zero.1 h3 with k|k
  · grind
  · rcases Rat.mul_eq_zero.1 k with q|q <;> exact q
end
end Go.Proofs.YtkohlohbogpooaaGreat.Rd
namespace Go.Proofs.YtkohlohbogpooaaGreat.Sp
open Go
set_option linter.unusedVariables false
set_option maxRecDepth 100000
set_option maxHeartbeats 8000000
theorem zUc {n:Nat} {pL:Option Addr} {nL:Nat} {cL:Nat} {L:List Cm} (hnL:L.length=nL) (hn:1≤n∧n≤16) (hok:Rd.Oks n L):Con yl 67 [ya yb ((n:Nat):Int),.slice pL nL cL] [] [slF (rI4 .i64) pL cL L] (Y:=(Option Addr)×Nat) (fun y=>True) (fun y=> .slice (y.1) n (y.2)) (fun y=>[]) (fun y=>[slF (rI .i64) (y.1) (y.2) (Rd.prt n L)]):=by
 refine zn Tryz.func67 rfl rfl rfl (fun c=> ?_)
 show RunC _ _ _ _ _ [(0,ya yb ((n:Nat):Int)),(1,.slice pL nL cL)] [] [slF (rI4 .i64) pL cL L]
 refine zY 0 rfl (fun hL0=> ?_)
 refine zf<|za<|e_p (zb rfl)<|zh<|zc<|zf<|za<|e_mv rfl<|zsa rfl rfl (zCa (r:=rI .i64) (k:=n) (x0:=0) (γ0:=()) yd inf3 rfl rfl rfl rfl om om rfl (fun g _=>by exact zE.2 dd) dd) (fun b1 _=> ?_)
 refine e_p (zb rfl)<|zh<|zc<|zf<|zf ?_
 have e2:(List.replicate n 0:List Int)=(Rd.fz 0 n (fun jj=>((jj:Nat):Int))):=by exact Rd.fz_start _ _
 rw [e2]
 refine za<|e_mv rfl<|e_p (zB yd rfl)<|e_mv rfl<|zh<|zc<|zt<|zfa (X:=Nat) (fun x:Nat=>x≤n) (fun x=>[(14,ya yb ((x:Nat):Int)),(13,ya yb ((n:Nat):Int)),(5,.slice (some ⟨b1,0,none⟩) n n),(4,.slice none 0 0),(0,ya yb ((n:Nat):Int)),(1,.slice pL nL cL)]) (fun x=>[rowA 3 (rI .i64) (some ⟨b1,0,none⟩) n (Rd.fz x n (fun jj=>((jj:Nat):Int)))]) (fun x=>[slF (rI4 .i64) pL cL L]) (fun x:Nat=>n - x) 0 (show 0≤n from by exact Nat.zero_le _) ((.e rfl (by first|rfl|(congr 1;omega)|simp_all) (.of rfl)):SubM _ _) (ho:=((.c (i:=0) rfl .n):PickO _ _ _)) ((.c (j:=0) rfl .n):SelR _ _ _) ?_
 rintro i hI
 replace hI:i≤n:=hI
 try dsimp only
 refine zf<|za<|e_p (zT rfl rfl)<|zh<|zc<|zf<|zx rfl (fun h3=> ?_) (fun h3=> ?_)
 ·
  refine zu<|zc<|zf<|zt<|zf<|za<|e_mv rfl<|e_p (zb rfl)<|zh<|zc<|za<|e_mv rfl<|e_mv rfl<|e_mv rfl<|e_p (zK (j:=i) yd sz3 rfl rfl rfl om)<|zya 0 rfl rfl rfl (zP (j:=i) (x0:=((i:Nat):Int)) (γ0:=()) rfl rfl (by first|omega|(rw [Rd.fz_len];omega)|(rw [List.length_set];omega)) rfl rfl sz3 (fun _ _=>by exact zE.2 om)) (fun _=> .z) (fun _ _=> ?_)
  refine zh<|zO<|zc<|za<|e_p (zH (z:=(((i+1):Nat):Int)) rfl rfl (w64 om))<|e_mv rfl<|zh<|zca (i+1) (show (i+1)≤n from by show i+1≤n;omega) (by show n - (i+1)<n - i;omega) ((.of rfl):SubM _ _) (ho:=((.e (i:=0) rfl (by first|rfl|(rw [Rd.fz_step (f:=fun jj=>((jj:Nat):Int)) om])) .n):PickO _ _ _)) ((.c (j:=0) rfl .n):SelR _ _ _)
 ·
  refine zea<|zj<|zj<|zr<|zc<|zf<|zf ?_
  have e4:((Rd.fz i n (fun jj=>((jj:Nat):Int))):List Int)=(Rd.rds n L 0):=by rw [show i=n by omega];exact Rd.fz_end _ _
  rw [e4]
  refine za<|e_mv rfl<|e_mv rfl<|zh<|zc<|zt<|zfa (X:=Nat) (fun x:Nat=>x≤n) (fun x=>[(23,ya yb ((x:Nat):Int)),(22,ya yb ((n:Nat):Int)),(5,.slice (some ⟨b1,0,none⟩) n n),(4,.slice none 0 0),(1,.slice pL nL cL)]) (fun x=>[rowA 3 (rI .i64) (some ⟨b1,0,none⟩) n (Rd.rds n L x)]) (fun x=>[slF (rI4 .i64) pL cL L]) (fun x:Nat=>n - x) 0 (show 0≤n from by exact Nat.zero_le _) ((.e rfl (by first|rfl|(congr 1;omega)|simp_all) (.of rfl)):SubM _ _) (ho:=((.c (i:=0) rfl .n):PickO _ _ _)) ((.c (j:=0) rfl .n):SelR _ _ _) ?_
  rintro k hK
  replace hK:k≤n:=hK
  try dsimp only
  refine zf<|za<|e_p (zT rfl rfl)<|zh<|zc<|zf<|zx rfl (fun h5=> ?_) (fun h5=> ?_)
  ·
   refine zu<|zc<|zf<|zt<|zf<|za<|e_mv rfl<|e_p (zB yh rfl)<|e_mv rfl<|zh<|zc<|zt<|zfa (X:=Nat) (fun x:Nat=>x≤nL) (fun x=>[(27,ya yb ((x:Nat):Int)),(26,ya yb ((nL:Nat):Int)),(25,.slice pL nL cL),(23,ya yb ((k:Nat):Int)),(22,ya yb ((n:Nat):Int)),(5,.slice (some ⟨b1,0,none⟩) n n),(4,.slice none 0 0),(1,.slice pL nL cL)]) (fun x=>[rowA 3 (rI .i64) (some ⟨b1,0,none⟩) n (Rd.rnd (L.take x) (Rd.rds n L k))]) (fun x=>[slF (rI4 .i64) pL cL L]) (fun x:Nat=>nL - x) 0 (show 0≤nL from by exact Nat.zero_le _) ((.e rfl (by first|rfl|(congr 1;omega)|simp_all) (.of rfl)):SubM _ _) (ho:=((.e (i:=0) rfl (by rfl) .n):PickO _ _ _)) ((.c (j:=0) rfl .n):SelR _ _ _) ?_
   rintro i hI3
   replace hI3:i≤nL:=hI3
   try dsimp only
   refine zf<|za<|e_p (zT rfl rfl)<|zh<|zc<|zf<|zx rfl (fun h6=> ?_) (fun h6=> ?_)
   ·
    have hoi:=hok.getD (show i<L.length by omega)
    have hoa:=hoi.a
    have hob:=hoi.b
    have hoa0:=hoi.a0
    have hob0:=hoi.b0
    have hone:=hoi.ne
    have hod:=hoi.d
    have how:=hoi.w
    have hrl:(Rd.rnd (L.take i) (Rd.rds n L k)).length=n:=(Rd.rnd_len _ _).trans (Rd.rds_len _ _ _)
    refine zu<|zc<|zf<|zt<|zf<|za<|zW (x0:=(L.getD i Rd.c0)) 0 i rfl yh sz68 rfl rfl rfl (by first|rfl|assumption|omega|exact Rd.fz_len _ _ _|exact Rd.rds_len _ _ _) rfl rfl (gD (d:=Rd.c0) om) (fun b7 o8 hok9=> ?_)
    obtain ⟨hok90,hok91,hok92,hok93⟩:=hok9
    replace hok90:=zE.1 hok90
    replace hok91:=zE.1 hok91
    replace hok92:=zE.1 hok92
    replace hok93:=zE.1 hok93
    refine e_ru (zoa (j:=0) 0 ty68 rfl rfl rfl (.t4 .nil))<|zL rfl rfl (zw zr68 rfl) (fun b10=> ?_)
    refine zl 0 rfl rfl rfl rfl rfl sz68 rfl (.t4 .nil) .z<|zh<|zc<|zf<|zaa (OW:=[]) (O:=[boxA b10 68 [ya yb ((L.getD i Rd.c0).a),ya yb ((L.getD i Rd.c0).b),ya yb ((L.getD i Rd.c0).d),ya yb ((L.getD i Rd.c0).w)],rowA 3 (rI .i64) (some ⟨b1,0,none⟩) n (Rd.rnd (L.take i) (Rd.rds n L k))]) 100000 mixed (.then (.block (.then (.then (.block (.block (.then (.then (.block (.then .ret)))))))))) kr<|e_dm 0 rfl rfl rfl<|e_pv 1 rfl rfl (zg yf rfl sz3 rfl rfl)<|e_u 2 rfl rfl (ze 0 ty3 rfl rfl rfl)<|e_pv 3 rfl rfl (zK (j:=((L.getD i Rd.c0).a).toNat) yd sz3 rfl rfl om om)<|d_vl 4 rfl rfl kr kr rfl rfl (zG 1 (((L.getD i Rd.c0).a).toNat) rfl ty3 rfl rfl (gD (d:=0) om) rfl) (fun _ hok11=> ?_)
    replace hok11:=zE.1 hok11
    refine e_dm 5 rfl rfl rfl<|e_pv 6 rfl rfl (zg yf rfl sz3 rfl rfl)<|e_u 7 rfl rfl (ze 0 ty3 rfl rfl rfl)<|e_pv 8 rfl rfl (zK (j:=((L.getD i Rd.c0).b).toNat) yd sz3 rfl rfl om om)<|d_vl 9 rfl rfl kr kr rfl rfl (zG 1 (((L.getD i Rd.c0).b).toNat) rfl ty3 rfl rfl (gD (d:=0) om) rfl) (fun _ hok12=> ?_)
    replace hok12:=zE.1 hok12
    refine e_pv 10 rfl rfl (zgg rfl rfl)<|e_pv 11 rfl rfl (zb rfl)<|zZ kr<|zc<|zna (.c (i:=1) rfl (.c (i:=0) rfl .n))<|zaa (OW:=[rowA 3 (rI .i64) (some ⟨b1,0,none⟩) n (Rd.rnd (L.take i) (Rd.rds n L k))]) (O:=[boxA b10 68 [ya yb ((L.getD i Rd.c0).a),ya yb ((L.getD i Rd.c0).b),ya yb ((L.getD i Rd.c0).d),ya yb ((L.getD i Rd.c0).w)]]) 9 mixed (.block (.then (.then (.block (.block (.then (.then (.block (.then .ret))))))))) kr<|e_dm 0 rfl rfl rfl<|e_pv 1 rfl rfl (zg yf rfl sz3 rfl rfl)<|e_uw 2 rfl rfl (ze 1 ty3 rfl rfl rfl)<|e_dm 3 rfl rfl rfl<|e_pv 4 rfl rfl (zg yf rfl sz3 rfl rfl)<|e_u 5 rfl rfl (ze 0 ty3 rfl rfl rfl)<|e_dm 6 rfl rfl rfl<|e_dm 7 rfl rfl rfl<|e_pv 8 rfl rfl (zK (j:=((L.getD i Rd.c0).a).toNat) yd sz3 rfl rfl om om)<|e_one 9 (zrb (A':=fun _=>rowA 3 (rI .i64) (some ⟨b1,0,none⟩) n ((Rd.rnd (L.take i) (Rd.rds n L k)).set (((L.getD i Rd.c0).a).toNat) (min ((Rd.rnd (L.take i) (Rd.rds n L k)).getD (((L.getD i Rd.c0).a).toNat) 0) ((Rd.rnd (L.take i) (Rd.rds n L k)).getD (((L.getD i Rd.c0).b).toNat) 0)))) kr rfl rfl rfl (zP (j:=((L.getD i Rd.c0).a).toNat) (x0:=(min ((Rd.rnd (L.take i) (Rd.rds n L k)).getD (((L.getD i Rd.c0).a).toNat) 0) ((Rd.rnd (L.take i) (Rd.rds n L k)).getD (((L.getD i Rd.c0).b).toNat) 0))) (γ0:=()) rfl rfl (by first|omega|(rw [Rd.fz_len];omega)|(rw [List.length_set];omega)) rfl rfl sz3 (fun _ _=>by exact zE.2 om)) (fun _ _=> ?_))
    refine e_pv 10 rfl rfl (zK (j:=((L.getD i Rd.c0).b).toNat) yd sz3 rfl rfl om om)<|e_one 11 (zrb (A':=fun _=>rowA 3 (rI .i64) (some ⟨b1,0,none⟩) n (((Rd.rnd (L.take i) (Rd.rds n L k)).set (((L.getD i Rd.c0).a).toNat) (min ((Rd.rnd (L.take i) (Rd.rds n L k)).getD (((L.getD i Rd.c0).a).toNat) 0) ((Rd.rnd (L.take i) (Rd.rds n L k)).getD (((L.getD i Rd.c0).b).toNat) 0))).set (((L.getD i Rd.c0).b).toNat) (min ((Rd.rnd (L.take i) (Rd.rds n L k)).getD (((L.getD i Rd.c0).a).toNat) 0) ((Rd.rnd (L.take i) (Rd.rds n L k)).getD (((L.getD i Rd.c0).b).toNat) 0)))) kr rfl rfl rfl (zP (j:=((L.getD i Rd.c0).b).toNat) (x0:=(min ((Rd.rnd (L.take i) (Rd.rds n L k)).getD (((L.getD i Rd.c0).a).toNat) 0) ((Rd.rnd (L.take i) (Rd.rds n L k)).getD (((L.getD i Rd.c0).b).toNat) 0))) (γ0:=()) rfl rfl (by first|omega|(rw [Rd.fz_len];omega)|(rw [List.length_set];omega)) rfl rfl sz3 (fun _ _=>by exact zE.2 om)) (fun _ _=> ?_))
    refine zZ kr<|zO<|zc<|za<|e_p (zH (z:=(((i+1):Nat):Int)) rfl rfl (w64 om))<|e_mv rfl<|zh<|zca (i+1) (show (i+1)≤nL from by show i+1≤nL;omega) (by show nL - (i+1)<nL - i;omega) ((.of rfl):SubM _ _) (ho:=((.e (i:=0) rfl (by first|rfl|(rw [Rd.rnd_take om];rfl)) .n):PickO _ _ _)) ((.c (j:=1) rfl .n):SelR _ _ _)
   ·
    refine zea<|zj<|zj<|zr<|zO<|zc<|za<|e_p (zH (z:=(((k+1):Nat):Int)) rfl rfl (w64 om))<|e_mv rfl<|zh ?_
    have e13:((Rd.rnd (L.take i) (Rd.rds n L k)):List Int)=(Rd.rds n L (k+1)):=by rw [show L.take i=L from List.take_of_length_le om];rfl
    rw [e13]
    refine zca (k+1) (show (k+1)≤n from by show k+1≤n;omega) (by show n - (k+1)<n - k;omega) ((.of rfl):SubM _ _) (ho:=((.c (i:=0) rfl .n):PickO _ _ _)) ((.c (j:=0) rfl .n):SelR _ _ _)
  ·
   refine zea<|zj<|zj<|zr<|zc<|zf<|za<|e_mv rfl<|e_p (zb rfl)<|zh<|zc<|zI ?_
   have e14:((Rd.rds n L k):List Int)=(Rd.prt n L):=by rw [show k=n by omega];rfl
   rw [e14]
   refine zWa 0 rfl .z ?_
   exact zy Tryz.results67 (some ⟨b1,0,none⟩,n) trivial (zo rfl) rfl (ho:=(.n:PickO _ _ _)) ((.c (j:=0) rfl .n):SelR _ _ _)
end Go.Proofs.YtkohlohbogpooaaGreat.Sp
namespace Go.Proofs.YtkohlohbogpooaaGreat.Sp
open Go
set_option linter.unusedVariables false
set_option maxRecDepth 100000
set_option maxHeartbeats 8000000
theorem zle {ni:Int} {pL:Option Addr} {nL:Nat} {cL:Nat} {L:List Cm} (hnL:L.length=nL) (hsm:Rd.offC ni L=0→ni≤6∧nL≤12):Con yl 31 [ya yb ni,.slice pL nL cL] [] [slF (rI4 .i64) pL cL L] (Y:=(Option Addr)×Nat×(List Rat)) (fun y=>(Rd.offC ni L=0→y.2.2.length=(ni:Int).toNat∧Rd.Lv (ni:Int).toNat L (fun c=>y.2.2.getD c 0)∧(∀c,Big.hq (y.2.2.getD c 0)≤200000))∧(Rd.offC ni L≠0→y.2.2=[])) (fun y=> .tuple #[.slice (y.1) (y.2.2.length) (y.2.1),ya yb (Rd.offC ni L)]) (fun y=>[]) (fun y=>[slF rQ (y.1) (y.2.1) (y.2.2)]):=by
 refine zn Tryz.func31 rfl rfl rfl (fun c=> ?_)
 show RunC _ _ _ _ _ [(0,ya yb ni),(1,.slice pL nL cL)] [] [slF (rI4 .i64) pL cL L]
 refine zY 0 rfl (fun hL0=> ?_)
 refine zf<|za<|e_p (zb rfl)<|e_p (zb rfl)<|zh<|zc<|zf<|zBa (X:=Unit) (fun x=>True) (fun x=>[(30,.bool (decide (((ni<1)∨(16<ni))∨(64<((nL:Nat):Int))))),(5,ya yb 0),(4,.slice none 0 0),(0,ya yb ni),(1,.slice pL nL cL)]) (fun x=>[]) (fun x=>[slF (rI4 .i64) pL cL L]) ?_ ?_
 ·
  refine za<|e_mv rfl<|e_p (zT rfl rfl)<|zR rfl rfl (zV rfl) (fun h1=> ?_) (fun h1=> ?_)
  ·
   refine e_no<|e_no<|e_p (zk rfl rfl)<|e_mv rfl<|e_no<|e_no<|e_no<|e_p (zk rfl rfl)<|zh ?_
   exact zda () (show True from by first|trivial|omega|simp_all) ((.e rfl (congrArg Value.bool cbu) (.of rfl)):SubM _ _) (ho:=(.n:PickO _ _ _)) ((.c (j:=0) rfl .n):SelR _ _ _)
  ·
   refine e_mv rfl<|e_p (zma rfl rfl)<|e_p (zk rfl rfl)<|zR rfl rfl (zV rfl) (fun h2=> ?_) (fun h2=> ?_)
   ·
    refine e_no<|e_no<|e_no<|e_p (zk rfl rfl)<|zh ?_
    exact zda () (show True from by first|trivial|omega|simp_all) ((.e rfl (congrArg Value.bool cbu) (.of rfl)):SubM _ _) (ho:=(.n:PickO _ _ _)) ((.c (j:=0) rfl .n):SelR _ _ _)
   ·
    refine e_mv rfl<|e_p (zB yh rfl)<|e_p (zma rfl rfl)<|e_p (zk rfl rfl)<|zh ?_
    exact zda () (show True from by first|trivial|omega|simp_all) ((.e rfl (congrArg Value.bool cbu) (.of rfl)):SubM _ _) (ho:=(.n:PickO _ _ _)) ((.c (j:=0) rfl .n):SelR _ _ _)
 ·
  rintro ⟨⟩ -
  try dsimp only
  refine zx rfl (fun h30=> ?_) (fun h30=> ?_)
  ·
   refine zf<|za<|e_p (zb rfl)<|e_p (zb rfl)<|zh<|zc<|zI<|zm<|zab rQ ?_
   exact zpa ym (none,0,([]:List Rat)) (⟨fun k=>absurd ((show Rd.offC ni L=3 from if_pos om).symm.trans k) dd,fun _=>rfl⟩) (zo rfl) (zo rfl) (by rw [show Rd.offC ni L=3 from if_pos om];rfl) (ho:=(.n:PickO _ _ _)) ((.c (j:=0) rfl .n):SelR _ _ _)
  ·
   refine zu<|zc<|zf<|zf<|za<|e_mv rfl<|e_p (zB yh rfl)<|e_mv rfl<|zh<|zc<|zt<|zfa (X:=Nat) (fun x:Nat=>x≤nL∧∀j,j<x→Rd.cc ni (L.getD j Rd.c0)=0) (fun x=>[(33,ya yb ((x:Nat):Int)),(32,ya yb ((nL:Nat):Int)),(31,.slice pL nL cL),(0,ya yb ni),(1,.slice pL nL cL)]) (fun x=>[]) (fun x=>[slF (rI4 .i64) pL cL L]) (fun x:Nat=>nL - x) 0 (show 0≤nL∧∀j,j<0→Rd.cc ni (L.getD j Rd.c0)=0 from by exact ⟨Nat.zero_le _,fun j h=>by omega⟩) ((.e rfl (by first|rfl|(congr 1;omega)|simp_all) (.of rfl)):SubM _ _) (ho:=(.n:PickO _ _ _)) ((.c (j:=0) rfl .n):SelR _ _ _) ?_
   rintro i hI
   replace hI:i≤nL∧∀j,j<i→Rd.cc ni (L.getD j Rd.c0)=0:=hI
   try dsimp only
   obtain ⟨hi,hall⟩:=hI
   refine zf<|za<|e_p (zT rfl rfl)<|zh<|zc<|zf<|zx rfl (fun h3=> ?_) (fun h3=> ?_)
   ·
    refine zu<|zc<|zf<|zt<|zf<|za<|zW (x0:=(L.getD i Rd.c0)) 0 i rfl yh sz68 rfl rfl rfl (by first|rfl|assumption|omega|exact Rd.fz_len _ _ _|exact Rd.RK_len _ _|exact Rd.prt_len _ _|(rw [Mx.oz_len om];done)|(rw [Mx.oz_len (by rw [List.length_append];simp;omega)];done)|(rw [oh_len];assumption)|(simp;done)) rfl rfl (gD (d:=Rd.c0) om) (fun b4 o5 hok6=> ?_)
    obtain ⟨hok60,hok61,hok62,hok63⟩:=hok6
    replace hok60:=zE.1 hok60
    replace hok61:=zE.1 hok61
    replace hok62:=zE.1 hok62
    replace hok63:=zE.1 hok63
    refine e_ru (zoa (j:=0) 0 ty68 rfl rfl rfl (.t4 .nil))<|zL rfl rfl (zw zr68 rfl) (fun b7=> ?_)
    refine zl 0 rfl rfl rfl rfl rfl sz68 rfl (.t4 .nil) .z<|zh<|zc<|zt<|zBa (X:=Unit) (fun x=>True) (fun x=>[(37,.bool (decide (((((((((L.getD i Rd.c0).a<0)∨(ni≤(L.getD i Rd.c0).a))∨((L.getD i Rd.c0).b<0))∨(ni≤(L.getD i Rd.c0).b))∨((L.getD i Rd.c0).d<(-65535)))∨(65535<(L.getD i Rd.c0).d))∨((L.getD i Rd.c0).w<1))∨(4096<(L.getD i Rd.c0).w)))),(7,yc (some ⟨b7,0,none⟩)),(33,ya yb ((i:Nat):Int)),(32,ya yb ((nL:Nat):Int)),(31,.slice pL nL cL),(0,ya yb ni),(1,.slice pL nL cL)]) (fun x=>[boxA b7 68 [ya yb ((L.getD i Rd.c0).a),ya yb ((L.getD i Rd.c0).b),ya yb ((L.getD i Rd.c0).d),ya yb ((L.getD i Rd.c0).w)]]) (fun x=>[atF b4 o5 [ya yb ((L.getD i Rd.c0).a),ya yb ((L.getD i Rd.c0).b),ya yb ((L.getD i Rd.c0).d),ya yb ((L.getD i Rd.c0).w)],slF (rI4 .i64) pL cL L]) ?_ ?_
    ·
     refine za<|e_p (zg yf rfl sz3 rfl rfl)<|e_ru (ze 0 ty3 rfl rfl rfl)<|e_p (zT rfl rfl)<|zR rfl rfl (zV rfl) (fun h8=> ?_) (fun h8=> ?_)
     ·
      refine e_no<|e_no<|e_no<|e_no<|e_p (zk rfl rfl)<|e_mv rfl<|e_no<|e_no<|e_no<|e_p (zk rfl rfl)<|e_mv rfl<|e_no<|e_no<|e_no<|e_no<|e_p (zk rfl rfl)<|e_mv rfl<|e_no<|e_no<|e_no<|e_p (zk rfl rfl)<|e_mv rfl<|e_no<|e_no<|e_no<|e_p (zk rfl rfl)<|e_mv rfl<|e_no<|e_no<|e_no<|e_p (zk rfl rfl)<|e_mv rfl<|e_no<|e_no<|e_no<|e_p (zk rfl rfl)<|e_p (zb rfl)<|zh ?_
      exact zda () (show True from by first|trivial|omega|simp_all) ((.e rfl (congrArg Value.bool cbu) (.of rfl)):SubM _ _) (ho:=((.c (i:=0) rfl .n):PickO _ _ _)) ((.of [0,1] rfl):SelR _ _ _)
     ·
      refine e_p (zg yf rfl sz3 rfl rfl)<|e_ru (ze 0 ty3 rfl rfl rfl)<|e_mv rfl<|e_p (zJa rfl rfl)<|e_p (zk rfl rfl)<|zR rfl rfl (zV rfl) (fun h9=> ?_) (fun h9=> ?_)
      ·
       refine e_no<|e_no<|e_no<|e_p (zk rfl rfl)<|e_mv rfl<|e_no<|e_no<|e_no<|e_no<|e_p (zk rfl rfl)<|e_mv rfl<|e_no<|e_no<|e_no<|e_p (zk rfl rfl)<|e_mv rfl<|e_no<|e_no<|e_no<|e_p (zk rfl rfl)<|e_mv rfl<|e_no<|e_no<|e_no<|e_p (zk rfl rfl)<|e_mv rfl<|e_no<|e_no<|e_no<|e_p (zk rfl rfl)<|e_p (zb rfl)<|zh ?_
       exact zda () (show True from by first|trivial|omega|simp_all) ((.e rfl (congrArg Value.bool cbu) (.of rfl)):SubM _ _) (ho:=((.c (i:=0) rfl .n):PickO _ _ _)) ((.of [0,1] rfl):SelR _ _ _)
      ·
       refine e_p (zg yf rfl sz3 rfl rfl)<|e_ru (ze 0 ty3 rfl rfl rfl)<|e_p (zT rfl rfl)<|e_p (zk rfl rfl)<|zR rfl rfl (zV rfl) (fun h10=> ?_) (fun h10=> ?_)
       ·
        refine e_no<|e_no<|e_no<|e_no<|e_p (zk rfl rfl)<|e_mv rfl<|e_no<|e_no<|e_no<|e_p (zk rfl rfl)<|e_mv rfl<|e_no<|e_no<|e_no<|e_p (zk rfl rfl)<|e_mv rfl<|e_no<|e_no<|e_no<|e_p (zk rfl rfl)<|e_mv rfl<|e_no<|e_no<|e_no<|e_p (zk rfl rfl)<|e_p (zb rfl)<|zh ?_
        exact zda () (show True from by first|trivial|omega|simp_all) ((.e rfl (congrArg Value.bool cbu) (.of rfl)):SubM _ _) (ho:=((.c (i:=0) rfl .n):PickO _ _ _)) ((.of [0,1] rfl):SelR _ _ _)
       ·
        refine e_p (zg yf rfl sz3 rfl rfl)<|e_ru (ze 0 ty3 rfl rfl rfl)<|e_mv rfl<|e_p (zJa rfl rfl)<|e_p (zk rfl rfl)<|zR rfl rfl (zV rfl) (fun h11=> ?_) (fun h11=> ?_)
        ·
         refine e_no<|e_no<|e_no<|e_p (zk rfl rfl)<|e_mv rfl<|e_no<|e_no<|e_no<|e_p (zk rfl rfl)<|e_mv rfl<|e_no<|e_no<|e_no<|e_p (zk rfl rfl)<|e_mv rfl<|e_no<|e_no<|e_no<|e_p (zk rfl rfl)<|e_p (zb rfl)<|zh ?_
         exact zda () (show True from by first|trivial|omega|simp_all) ((.e rfl (congrArg Value.bool cbu) (.of rfl)):SubM _ _) (ho:=((.c (i:=0) rfl .n):PickO _ _ _)) ((.of [0,1] rfl):SelR _ _ _)
        ·
         refine e_p (zg yf rfl sz3 rfl rfl)<|e_ru (ze 0 ty3 rfl rfl rfl)<|e_p (zT rfl rfl)<|e_p (zk rfl rfl)<|zR rfl rfl (zV rfl) (fun h12=> ?_) (fun h12=> ?_)
         ·
          refine e_no<|e_no<|e_no<|e_p (zk rfl rfl)<|e_mv rfl<|e_no<|e_no<|e_no<|e_p (zk rfl rfl)<|e_mv rfl<|e_no<|e_no<|e_no<|e_p (zk rfl rfl)<|e_p (zb rfl)<|zh ?_
          exact zda () (show True from by first|trivial|omega|simp_all) ((.e rfl (congrArg Value.bool cbu) (.of rfl)):SubM _ _) (ho:=((.c (i:=0) rfl .n):PickO _ _ _)) ((.of [0,1] rfl):SelR _ _ _)
         ·
          refine e_p (zg yf rfl sz3 rfl rfl)<|e_ru (ze 0 ty3 rfl rfl rfl)<|e_p (zma rfl rfl)<|e_p (zk rfl rfl)<|zR rfl rfl (zV rfl) (fun h13=> ?_) (fun h13=> ?_)
          ·
           refine e_no<|e_no<|e_no<|e_p (zk rfl rfl)<|e_mv rfl<|e_no<|e_no<|e_no<|e_p (zk rfl rfl)<|e_p (zb rfl)<|zh ?_
           exact zda () (show True from by first|trivial|omega|simp_all) ((.e rfl (congrArg Value.bool cbu) (.of rfl)):SubM _ _) (ho:=((.c (i:=0) rfl .n):PickO _ _ _)) ((.of [0,1] rfl):SelR _ _ _)
          ·
           refine e_p (zg yf rfl sz3 rfl rfl)<|e_ru (ze 0 ty3 rfl rfl rfl)<|e_p (zT rfl rfl)<|e_p (zk rfl rfl)<|zR rfl rfl (zV rfl) (fun h14=> ?_) (fun h14=> ?_)
           ·
            refine e_no<|e_no<|e_no<|e_p (zk rfl rfl)<|e_p (zb rfl)<|zh ?_
            exact zda () (show True from by first|trivial|omega|simp_all) ((.e rfl (congrArg Value.bool cbu) (.of rfl)):SubM _ _) (ho:=((.c (i:=0) rfl .n):PickO _ _ _)) ((.of [0,1] rfl):SelR _ _ _)
           ·
            refine e_p (zg yf rfl sz3 rfl rfl)<|e_ru (ze 0 ty3 rfl rfl rfl)<|e_p (zma rfl rfl)<|e_p (zk rfl rfl)<|e_p (zb rfl)<|zh ?_
            exact zda () (show True from by first|trivial|omega|simp_all) ((.e rfl (congrArg Value.bool cbu) (.of rfl)):SubM _ _) (ho:=((.c (i:=0) rfl .n):PickO _ _ _)) ((.of [0,1] rfl):SelR _ _ _)
    ·
     rintro ⟨⟩ -
     try dsimp only
     refine zx rfl (fun h37=> ?_) (fun h37=> ?_)
     ·
      refine zf<|za<|e_p (zb rfl)<|e_p (zb rfl)<|zh<|zc<|zI<|zN<|zN<|zm<|zm<|zN<|zm<|zab rQ ?_
      have hc2:Rd.cc ni (L.getD i Rd.c0)=2:=if_pos (by unfold Rd.bad;omega)
      have hof:Rd.offC ni L=2:=by unfold Rd.offC;rw [if_neg om,Rd.cfst_at hall om (by rw [hc2];decide)];exact hc2
      exact zpa ym (none,0,([]:List Rat)) (⟨fun k=>absurd (hof.symm.trans k) dd,fun _=>rfl⟩) (zo rfl) (zo rfl) (by rw [hof];rfl) (ho:=(.n:PickO _ _ _)) ((.c (j:=0) rfl .n):SelR _ _ _)
     ·
      refine zf<|za<|e_p (zg yf rfl sz3 rfl rfl)<|e_ru (ze 0 ty3 rfl rfl rfl)<|e_p (zg yf rfl sz3 rfl rfl)<|e_ru (ze 0 ty3 rfl rfl rfl)<|e_p (zua rfl rfl)<|e_p (zb rfl)<|zh<|zc<|zx rfl (fun h78=> ?_) (fun h78=> ?_)
      ·
       refine zf<|za<|e_p (zb rfl)<|e_p (zb rfl)<|zh<|zc<|zI<|zN<|zN<|zm<|zm<|zN<|zm<|zab rQ ?_
       have hc2:Rd.cc ni (L.getD i Rd.c0)=1:=by unfold Rd.cc;rw [if_neg (by unfold Rd.bad;omega),if_pos h78]
       have hof:Rd.offC ni L=1:=by unfold Rd.offC;rw [if_neg om,Rd.cfst_at hall om (by rw [hc2];decide)];exact hc2
       exact zpa ym (none,0,([]:List Rat)) (⟨fun k=>absurd (hof.symm.trans k) dd,fun _=>rfl⟩) (zo rfl) (zo rfl) (by rw [hof];rfl) (ho:=(.n:PickO _ _ _)) ((.c (j:=0) rfl .n):SelR _ _ _)
      ·
       refine zu<|zO<|zO<|zc<|za<|e_p (zH (z:=(((i+1):Nat):Int)) rfl rfl (w64 om))<|e_mv rfl<|zh<|zca (i+1) (show (i+1)≤nL∧∀j,j<(i+1)→Rd.cc ni (L.getD j Rd.c0)=0 from by refine ⟨by omega,fun j hj=> ?_⟩;by_cases e:j=i;subst e;unfold Rd.cc;rw [if_neg (by unfold Rd.bad;omega),if_neg h78];exact hall j om) (by show nL - (i+1)<nL - i;omega) ((.of rfl):SubM _ _) (ho:=(.n:PickO _ _ _)) ((.c (j:=1) rfl .n):SelR _ _ _)
   ·
    refine zea<|zj<|zj<|zr<|zc<|zf ?_
    have hof:Rd.offC ni L=0:=by unfold Rd.offC;rw [if_neg om];exact Rd.cfst_all (fun j hj=>hall j om)
    obtain ⟨n,e15⟩:∃q:Nat,ni=(q:Int):=⟨ni.toNat,by omega⟩
    subst e15
    have hko:=Rd.offC_ok hof
    have hok:=hko.2.2.2
    have hs6:=hsm hof
    have hn16:1≤n∧n≤16:=⟨hko.1,hko.2.1⟩
    have hpl:=Rd.prt_len n L
    refine za<|e_mv rfl<|zsa rfl rfl (zCa (r:=rV) (k:=n) (x0:=(none,0,0)) (γ0:=()) yg inf42 rfl rfl rfl rfl om om rfl (fun g _=>by trivial) dd) (fun b16 _=> ?_)
    refine e_p (zb rfl)<|zh<|zc<|zf<|za<|e_mv rfl<|zsa rfl rfl (zCa (r:=rI .i64) (k:=n) (x0:=0) (γ0:=()) yd inf3 rfl rfl rfl rfl om om rfl (fun g _=>by exact zE.2 dd) dd) (fun b17 _=> ?_)
    refine e_p (zb rfl)<|zh<|zc<|zf ?_
    have e18:(List.replicate n 0:List Int)=(Rd.RK n (L.take 0)):=by rfl
    rw [e18]
    refine za<|e_mv rfl<|e_mv rfl<|zv rfl rfl (.c rfl (.c rfl .n)) ce67 (zUc (n:=n) (pL:=pL) (nL:=nL) (cL:=cL) (L:=L) (hnL:=ass) (hn:=by first|rfl|assumption|omega|exact Rd.mkI_len _ _ _|(rw [Rd.mkI_rl om];done)|(intro i hi;rw [Rd.mkI_rl hi,Rd.mkI_rl om];done)) (hok:=by first|rfl|assumption|omega|exact Rd.mkI_len _ _ _|(rw [Rd.mkI_rl om];done)|(intro i hi;rw [Rd.mkI_rl hi,Rd.mkI_rl om];done))) (.c (j:=0) rfl .n) ?_
    rintro ⟨p319,c320⟩ -
    dsimp only [aq,nq,cq]
    refine e_p (zb rfl)<|zh<|zc<|zf<|zf<|zBd (fun w mm=>mm.rmNil 3 (rI .i64)) ?_
    have e21:(List.replicate n (none,0,0):List (Option Addr×Nat×Nat))=(Mx.oz ([]:HP) n n):=by exact Mx.oz_start n n
    rw [e21]
    refine za<|e_mv rfl<|e_p (zB yg rfl)<|e_mv rfl<|zh<|zc<|zt<|zfa (X:=Nat×HP) (fun x:Nat×HP=>x.1≤n∧x.2.length=x.1) (fun x=>[(94,ya yb ((x.1:Nat):Int)),(93,ya yb ((n:Nat):Int)),(10,.slice p319 n c320),(9,.slice (some ⟨b17,0,none⟩) n n),(8,.slice (some ⟨b16,0,none⟩) n n),(0,ya yb ((n:Nat):Int)),(1,.slice pL nL cL)]) (fun x=>[rowsM 3 (rI .i64) (x.2) (Rd.mkI x.1 n (Rd.J0 (Rd.prt n L))),rowA 3 (rI .i64) (some ⟨b17,0,none⟩) n (Rd.RK n (L.take 0)),rowA 42 rV (some ⟨b16,0,none⟩) n (Mx.oz x.2 n n)]) (fun x=>[slF (rI .i64) p319 c320 (Rd.prt n L),slF (rI4 .i64) pL cL L]) (fun x:Nat×HP=>n - x.1) (0,([]:HP)) (show 0≤n∧([]:HP).length=0 from by exact ⟨Nat.zero_le _,rfl⟩) ((.e rfl (by first|rfl|(congr 1;omega)|simp_all) (.of rfl)):SubM _ _) (ho:=((.e (i:=0) rfl (by rfl) (.of [0,0] rfl)):PickO _ _ _)) ((.of [0,1] rfl):SelR _ _ _) ?_
    rintro ⟨i,hs⟩ hI2
    replace hI2:i≤n∧hs.length=i:=hI2
    try dsimp only
    obtain ⟨hi2,hlen⟩:=hI2
    refine zf<|za<|e_p (zT rfl rfl)<|zh<|zc<|zf<|zx rfl (fun h22=> ?_) (fun h22=> ?_)
    ·
     refine zu<|zc<|zf<|zt<|zf<|za<|e_mv rfl<|e_p (zb rfl)<|zh<|zc<|zf<|za<|e_mv rfl<|e_mv rfl<|e_mv rfl<|zsa rfl rfl (zCa (r:=rI .i64) (k:=n) (x0:=0) (γ0:=()) yd inf3 rfl rfl rfl rfl om om rfl (fun g _=>by exact zE.2 dd) dd) (fun b23 _=> ?_)
     refine e_p (zK (j:=i) yg sz42 rfl rfl rfl om)<|zya 3 rfl rfl rfl (zP (j:=i) (x0:=(some ⟨b23,0,none⟩,n,n)) (γ0:=()) rfl rfl (by first|omega|(rw [Rd.fz_len];omega)|(rw [Mx.oz_len om];omega)|(rw [Rd.RK_len];omega)|(rw [List.length_set,Rd.RK_len];omega)) rfl rfl sz42 (fun _ _=>by trivial)) (fun _=>(.s (.s (.s .z)))) (fun _ _=> ?_)
     refine zh<|zc<|zf ?_
     have e24:(((Mx.oz hs n n).set i (some ⟨b23,0,none⟩,n,n)):List (Option Addr×Nat×Nat))=(Mx.oz (hs++[((some ⟨b23,0,none⟩:Option Addr),n)]) n n):=by exact Mx.oz_step' hlen om
     rw [e24]
     have e25:(List.replicate n 0:List Int)=(Rd.fz 0 n ((Rd.J0 (Rd.prt n L)) i)):=by exact Rd.fz_start _ _
     rw [e25]
     refine za<|e_mv rfl<|e_p (zB yg rfl)<|e_mv rfl<|zh<|zc<|zt<|zfa (X:=Nat) (fun x:Nat=>x≤n) (fun x=>[(104,ya yb ((x:Nat):Int)),(103,ya yb ((n:Nat):Int)),(11,ya yb ((i:Nat):Int)),(94,ya yb ((i:Nat):Int)),(93,ya yb ((n:Nat):Int)),(10,.slice p319 n c320),(9,.slice (some ⟨b17,0,none⟩) n n),(8,.slice (some ⟨b16,0,none⟩) n n),(0,ya yb ((n:Nat):Int)),(1,.slice pL nL cL)]) (fun x=>[rowA 3 (rI .i64) (some ⟨b23,0,none⟩) n (Rd.fz x n ((Rd.J0 (Rd.prt n L)) i)),rowsM 3 (rI .i64) hs (Rd.mkI i n (Rd.J0 (Rd.prt n L))),rowA 3 (rI .i64) (some ⟨b17,0,none⟩) n (Rd.RK n (L.take 0)),rowA 42 rV (some ⟨b16,0,none⟩) n (Mx.oz (hs++[((some ⟨b23,0,none⟩:Option Addr),n)]) n n)]) (fun x=>[slF (rI .i64) p319 c320 (Rd.prt n L),slF (rI4 .i64) pL cL L]) (fun x:Nat=>n - x) 0 (show 0≤n from by exact Nat.zero_le _) ((.e rfl (by first|rfl|(congr 1;omega)|simp_all) (.of rfl)):SubM _ _) (ho:=((.of [0,0,0,0] rfl):PickO _ _ _)) ((.of [0,1] rfl):SelR _ _ _) ?_
     rintro j hJ
     replace hJ:j≤n:=hJ
     try dsimp only
     refine zf<|za<|e_p (zT rfl rfl)<|zh<|zc<|zf<|zx rfl (fun h26=> ?_) (fun h26=> ?_)
     ·
      refine zu<|zc<|zf<|zt<|zf<|za<|e_mv rfl<|e_p (zb rfl)<|zh<|zc<|zf<|zaa (OW:=[]) (O:=[rowA 3 (rI .i64) (some ⟨b23,0,none⟩) n (Rd.fz j n ((Rd.J0 (Rd.prt n L)) i)),rowsM 3 (rI .i64) hs (Rd.mkI i n (Rd.J0 (Rd.prt n L))),rowA 3 (rI .i64) (some ⟨b17,0,none⟩) n (Rd.RK n (L.take 0)),rowA 42 rV (some ⟨b16,0,none⟩) n (Mx.oz (hs++[((some ⟨b23,0,none⟩:Option Addr),n)]) n n)]) 100000 mixed (.then (.block (.then (.then (.block (.block (.then (.then (.block (.then .ret)))))))))) kr<|e_dm 0 rfl rfl rfl<|e_dm 1 rfl rfl rfl<|zia (x0:=((Rd.prt n L).getD i 0)) 2 rfl rfl kr kr 0 i rfl yd sz3 rfl rfl rfl (by first|rfl|assumption|omega|exact Rd.fz_len _ _ _|exact Rd.RK_len _ _|exact Rd.prt_len _ _|(rw [Mx.oz_len om];done)|(rw [Mx.oz_len (by rw [List.length_append];simp;omega)];done)|(rw [oh_len];assumption)|(simp;done)) rfl rfl (gD (d:=0) om) (fun b27 o28 hok29=> ?_)
      replace hok29:=zE.1 hok29
      refine e_u 3 rfl rfl (zi (j:=0) 0 ty3 rfl rfl rfl rfl)<|e_dm 4 rfl rfl rfl<|e_dm 5 rfl rfl rfl<|zia (x0:=((Rd.prt n L).getD j 0)) 6 rfl rfl kr kr 1 j rfl yd sz3 rfl rfl rfl (by first|rfl|assumption|omega|exact Rd.fz_len _ _ _|exact Rd.RK_len _ _|exact Rd.prt_len _ _|(rw [Mx.oz_len om];done)|(rw [Mx.oz_len (by rw [List.length_append];simp;omega)];done)|(rw [oh_len];assumption)|(simp;done)) rfl rfl (gD (d:=0) om) (fun b30 o31 hok32=> ?_)
      replace hok32:=zE.1 hok32
      refine e_u 7 rfl rfl (zi (j:=0) 0 ty3 rfl rfl rfl rfl)<|e_pv 8 rfl rfl (zua rfl rfl)<|zZ kr<|zc<|zx rfl (fun h115=> ?_) (fun h115=> ?_)
      ·
       refine za<|e_mv rfl<|e_mv rfl<|e_p (zK (j:=i) yg sz42 rfl rfl rfl om)<|r_vl rfl rfl (zG (x0:=(some ⟨b23,0,none⟩,n,n)) (v:= .slice (some ⟨b23,0,none⟩) n n) 3 i rfl ty42 rfl rfl (by exact Mx.oz_last (K:=n) om) rfl) (fun _ hok33=> ?_)
       refine e_mv rfl<|e_p (zK (j:=j) yd sz3 rfl rfl rfl om)<|zya 0 rfl rfl rfl (zP (j:=j) (x0:=1) (γ0:=()) rfl rfl (by first|omega|(rw [Rd.fz_len];omega)|(rw [Mx.oz_len om];omega)|(rw [Rd.RK_len];omega)|(rw [List.length_set,Rd.RK_len];omega)) rfl rfl sz3 (fun _ _=>by exact zE.2 om)) (fun _=> .z) (fun _ _=> ?_)
       refine zh<|zO<|zc<|za<|e_p (zH (z:=(((j+1):Nat):Int)) rfl rfl (w64 om))<|e_mv rfl<|zh<|zca (j+1) (show (j+1)≤n from by show j+1≤n;omega) (by show n - (j+1)<n - j;omega) ((.of rfl):SubM _ _) (ho:=((.e (i:=0) rfl (by first|rfl|(rw [Rd.fz_step' om (Rd.J0_1 h115)])) (.of [0,0,0] rfl)):PickO _ _ _)) ((.of [2,3] rfl):SelR _ _ _)
      ·
       refine zu<|zO<|zc<|za<|e_p (zH (z:=(((j+1):Nat):Int)) rfl rfl (w64 om))<|e_mv rfl<|zh<|zca (j+1) (show (j+1)≤n from by show j+1≤n;omega) (by show n - (j+1)<n - j;omega) ((.of rfl):SubM _ _) (ho:=((.e (i:=0) rfl (by first|rfl|(rw [Rd.fz_skip om (Rd.J0_0 h115)])) (.of [0,0,0] rfl)):PickO _ _ _)) ((.of [2,3] rfl):SelR _ _ _)
     ·
      refine zea<|zj<|zj<|zr<|zO<|zc<|za<|e_p (zH (z:=(((i+1):Nat):Int)) rfl rfl (w64 om))<|e_mv rfl<|zh ?_
      have e34:((Rd.fz j n ((Rd.J0 (Rd.prt n L)) i)):List Int)=((List.range n).map ((Rd.J0 (Rd.prt n L)) i)):=by rw [show j=n by omega];exact Rd.fz_end _ _
      rw [e34]
      refine zRc (fun w mm=>mm.rmSnoc 0 0 rfl rfl (by rw [Rd.mkI_len];exact hlen)) ?_
      try dsimp only [List.eraseIdx]
      refine zca ((i+1),(hs++[((some ⟨b23,0,none⟩:Option Addr),n)])) (show (i+1)≤n∧(hs++[((some ⟨b23,0,none⟩:Option Addr),n)]).length=(i+1) from by exact ⟨by omega,by rw [List.length_append,hlen];rfl⟩) (by show n - (i+1)<n - i;omega) ((.of rfl):SubM _ _) (ho:=((.e (i:=0) rfl (by first|rfl|(rw [Rd.mkI_succ])) (.of [0,0] rfl)):PickO _ _ _)) ((.of [0,1] rfl):SelR _ _ _)
    ·
     refine zea<|zj<|zj<|zr<|zc<|zf<|zf ?_
     have hlen2:hs.length=n:=hlen.trans om
     have e35:((Mx.oz hs n n):List (Option Addr×Nat×Nat))=(oh hs n):=by exact Mx.oz_end hlen2
     rw [e35]
     have e36:((Rd.mkI i n (Rd.J0 (Rd.prt n L))):List (List Int))=(Rd.mkI n n (Rd.J0 (Rd.prt n L))):=by rw [show i=n by omega]
     rw [e36]
     refine za<|e_mv rfl<|e_p (zB yh rfl)<|e_mv rfl<|zh<|zc<|zt<|zfa (X:=Nat) (fun x:Nat=>x≤nL) (fun x=>[(126,ya yb ((x:Nat):Int)),(125,ya yb ((nL:Nat):Int)),(124,.slice pL nL cL),(9,.slice (some ⟨b17,0,none⟩) n n),(8,.slice (some ⟨b16,0,none⟩) n n)]) (fun x=>[rowsM 3 (rI .i64) hs (Rd.mkI n n (Rd.FK (Rd.prt n L) (L.take x))),rowA 3 (rI .i64) (some ⟨b17,0,none⟩) n (Rd.RK n (L.take x)),rowA 42 rV (some ⟨b16,0,none⟩) n (oh hs n)]) (fun x=>[slF (rI .i64) p319 c320 (Rd.prt n L),slF (rI4 .i64) pL cL L]) (fun x:Nat=>nL - x) 0 (show 0≤nL from by exact Nat.zero_le _) ((.e rfl (by first|rfl|(congr 1;omega)|simp_all) (.of rfl)):SubM _ _) (ho:=((.e (i:=0) rfl (by rfl) (.of [0,0] rfl)):PickO _ _ _)) ((.of [0,1] rfl):SelR _ _ _) ?_
     rintro i hI4
     replace hI4:i≤nL:=hI4
     try dsimp only
     refine zf<|za<|e_p (zT rfl rfl)<|zh<|zc<|zf<|zx rfl (fun h37=> ?_) (fun h37=> ?_)
     ·
      refine zu<|zc<|zf<|zt<|zf<|za<|zW (x0:=(L.getD i Rd.c0)) 1 i rfl yh sz68 rfl rfl rfl (by first|rfl|assumption|omega|exact Rd.fz_len _ _ _|exact Rd.RK_len _ _|exact Rd.prt_len _ _|(rw [Mx.oz_len om];done)|(rw [Mx.oz_len (by rw [List.length_append];simp;omega)];done)|(rw [oh_len];assumption)|(simp;done)) rfl rfl (gD (d:=Rd.c0) om) (fun b38 o39 hok40=> ?_)
      obtain ⟨hok400,hok401,hok402,hok403⟩:=hok40
      replace hok400:=zE.1 hok400
      replace hok401:=zE.1 hok401
      replace hok402:=zE.1 hok402
      replace hok403:=zE.1 hok403
      refine e_ru (zoa (j:=0) 0 ty68 rfl rfl rfl (.t4 .nil))<|zL rfl rfl (zw zr68 rfl) (fun b41=> ?_)
      refine zl 0 rfl rfl rfl rfl rfl sz68 rfl (.t4 .nil) .z<|zh<|zc<|zf ?_
      obtain ⟨cm,hcm⟩:∃z:Cm,z=(L.getD i Rd.c0):=⟨_,rfl⟩
      rw [← hcm]
      have hoi:Rd.Ok n cm:=by rw [hcm];exact hok.getD (show i<L.length by omega)
      have hoa:=hoi.a
      have hob:=hoi.b
      have hoa0:=hoi.a0
      have hob0:=hoi.b0
      have hone:=hoi.ne
      have hod:=hoi.d
      have how:=hoi.w
      have hmw:=Rd.mul_wd how hod
      obtain ⟨F0,hF0⟩:∃z:Rd.Fi,z=(Rd.FK (Rd.prt n L) (L.take i)):=⟨_,rfl⟩
      rw [← hF0]
      obtain ⟨R0,hR0⟩:∃z:List Int,z=(Rd.RK n (L.take i)):=⟨_,rfl⟩
      rw [← hR0]
      have hfb0:Rd.fb F0 (1+16384*((i:Nat):Int)):=by rw [hF0];exact Rd.FK_fb hok i om
      have hrb0:Rd.rb R0 (536862720*((i:Nat):Int)):=by rw [hR0];exact Rd.RK_rb hok i om
      have hrl0:R0.length=n:=by rw [hR0];exact Rd.RK_len _ _
      have hv1:=hfb0 cm.a.toNat cm.a.toNat
      have hfb1:=Rd.fb_add (W:=4096) (v:=cm.w) (a:=cm.a.toNat) (b:=cm.a.toNat) hfb0 om
      have hv2:=hfb1 cm.b.toNat cm.b.toNat
      have hfb2:=Rd.fb_add (W:=4096) (v:=cm.w) (a:=cm.b.toNat) (b:=cm.b.toNat) hfb1 om
      have hv3:=hfb2 cm.a.toNat cm.b.toNat
      have hfb3:=Rd.fb_add (W:=4096) (v:= -cm.w) (a:=cm.a.toNat) (b:=cm.b.toNat) hfb2 om
      have hv4:=hfb3 cm.b.toNat cm.a.toNat
      have hra:=hrb0 cm.a.toNat
      have hrl1:(R0.set cm.a.toNat (R0.getD cm.a.toNat 0+cm.w*cm.d)).length=n:=by rw [List.length_set];exact hrl0
      have hrb1:=(Rd.rb_set (k:=cm.a.toNat) (v:=R0.getD cm.a.toNat 0+cm.w*cm.d) (Rd.rb_up hrb0 (C:=536862720*((i:Nat):Int)+268431360) om) om) cm.b.toNat
      refine zna (.c (i:=1) rfl (.c (i:=0) rfl (.c (i:=0) rfl (.c (i:=0) rfl .n))))<|zaa (OW:=[rowsM 3 (rI .i64) hs (Rd.mkI n n F0)]) (O:=[boxA b41 68 [ya yb (cm.a),ya yb (cm.b),ya yb (cm.d),ya yb (cm.w)],rowA 3 (rI .i64) (some ⟨b17,0,none⟩) n R0,rowA 42 rV (some ⟨b16,0,none⟩) n (oh hs n)]) 13 mixed (.then (.block (.then (.then (.block (.then .ret)))))) kr<|e_dm 0 rfl rfl rfl<|e_pv 1 rfl rfl (zg yf rfl sz3 rfl rfl)<|e_uw 2 rfl rfl (ze 1 ty3 rfl rfl rfl)<|e_pv 3 rfl rfl (zK (j:=(cm.a).toNat) yg sz42 rfl rfl om om)<|zfb 4 rfl rfl kr kr kr rfl rfl (zG (x0:=((rp hs ((cm.a).toNat)),n,(rc hs ((cm.a).toNat)))) (v:= .slice (rp hs ((cm.a).toNat)) n (rc hs ((cm.a).toNat))) 3 ((cm.a).toNat) rfl ty42 rfl rfl (oh_get ((mkI_sm n n F0 hlen2).hk om)) rfl) (fun _ hok42=> ?_)
      refine e_pv 5 rfl rfl (zg yf rfl sz3 rfl rfl)<|e_uw 6 rfl rfl (ze 1 ty3 rfl rfl rfl)<|e_uw 7 rfl rfl (zla 0 ((cm.a).toNat) ((cm.a).toNat) rfl ((mkI_sm n n F0 hlen2).hk om) ((mkI_sm n n F0 hlen2).mk' om) ((mkI_sm n n F0 hlen2).row om) yd sz3 rfl rfl om om)<|zfb 8 rfl rfl kr kr kr rfl rfl (zwb (x0:=(((Rd.mkI n n F0).getD ((cm.a).toNat) []).getD ((cm.a).toNat) 0)) 0 ((cm.a).toNat) ((cm.a).toNat) rfl ((mkI_sm n n F0 hlen2).hk om) ((mkI_sm n n F0 hlen2).mk' om) ty3 rfl rfl (gD (d:=(0:Int)) (by rw [(mkI_sm n n F0 hlen2).row om];omega))) (fun _ hok43=> ?_)
      replace hok43:=zE.1 hok43
      have e44:((Rd.mkI n n F0).getD ((cm.a).toNat) []).getD ((cm.a).toNat) 0=F0 (cm.a).toNat (cm.a).toNat:=by exact Rd.mkI_get om om
      rw [e44]
      refine e_pv 9 rfl rfl (zg yf rfl sz3 rfl rfl)<|e_uw 10 rfl rfl (ze 1 ty3 rfl rfl rfl)<|e_pv 11 rfl rfl (zH (z:=((F0 (cm.a).toNat (cm.a).toNat)+cm.w)) rfl rfl (w64 om))<|e_uw 12 rfl rfl (zla 0 ((cm.a).toNat) ((cm.a).toNat) rfl ((mkI_sm n n F0 hlen2).hk om) ((mkI_sm n n F0 hlen2).mk' om) ((mkI_sm n n F0 hlen2).row om) yd sz3 rfl rfl om om)<|e_one 13 (zrb (A':=fun _=>rowsM 3 (rI .i64) hs ((Rd.mkI n n F0).set ((cm.a).toNat) (((Rd.mkI n n F0).getD ((cm.a).toNat) []).set ((cm.a).toNat) ((F0 (cm.a).toNat (cm.a).toNat)+cm.w)))) kr rfl rfl rfl (zdb (r:=rI .i64) (k:=((cm.a).toNat)) (j:=(cm.a).toNat) (x0:=((F0 (cm.a).toNat (cm.a).toNat)+cm.w)) (γ0:=()) ((mkI_sm n n F0 hlen2).hk om) ((mkI_sm n n F0 hlen2).mk' om) rfl rfl (by rw [(mkI_sm n n F0 hlen2).row om];omega) rfl rfl sz3 (fun _ _=>by exact zE.2 om)) (fun _ _=> ?_))
      refine zZ kr<|zc<|zf ?_
      have e45:(((Rd.mkI n n F0).set ((cm.a).toNat) (((Rd.mkI n n F0).getD ((cm.a).toNat) []).set ((cm.a).toNat) ((F0 (cm.a).toNat (cm.a).toNat)+cm.w))):List (List Int))=(Rd.mkI n n (Rd.add1 F0 cm.a.toNat cm.a.toNat cm.w)):=by exact Rd.mkI_set om om
      rw [e45]
      refine zaa (OW:=[rowsM 3 (rI .i64) hs (Rd.mkI n n (Rd.add1 F0 cm.a.toNat cm.a.toNat cm.w))]) (O:=[boxA b41 68 [ya yb (cm.a),ya yb (cm.b),ya yb (cm.d),ya yb (cm.w)],rowA 3 (rI .i64) (some ⟨b17,0,none⟩) n R0,rowA 42 rV (some ⟨b16,0,none⟩) n (oh hs n)]) 13 mixed (.then (.block (.then (.then (.block (.then .ret)))))) kr<|e_dm 0 rfl rfl rfl<|e_pv 1 rfl rfl (zg yf rfl sz3 rfl rfl)<|e_uw 2 rfl rfl (ze 1 ty3 rfl rfl rfl)<|e_pv 3 rfl rfl (zK (j:=(cm.b).toNat) yg sz42 rfl rfl om om)<|zfb 4 rfl rfl kr kr kr rfl rfl (zG (x0:=((rp hs ((cm.b).toNat)),n,(rc hs ((cm.b).toNat)))) (v:= .slice (rp hs ((cm.b).toNat)) n (rc hs ((cm.b).toNat))) 3 ((cm.b).toNat) rfl ty42 rfl rfl (oh_get ((mkI_sm n n (Rd.add1 F0 cm.a.toNat cm.a.toNat cm.w) hlen2).hk om)) rfl) (fun _ hok46=> ?_)
      refine e_pv 5 rfl rfl (zg yf rfl sz3 rfl rfl)<|e_uw 6 rfl rfl (ze 1 ty3 rfl rfl rfl)<|e_uw 7 rfl rfl (zla 0 ((cm.b).toNat) ((cm.b).toNat) rfl ((mkI_sm n n (Rd.add1 F0 cm.a.toNat cm.a.toNat cm.w) hlen2).hk om) ((mkI_sm n n (Rd.add1 F0 cm.a.toNat cm.a.toNat cm.w) hlen2).mk' om) ((mkI_sm n n (Rd.add1 F0 cm.a.toNat cm.a.toNat cm.w) hlen2).row om) yd sz3 rfl rfl om om)<|zfb 8 rfl rfl kr kr kr rfl rfl (zwb (x0:=(((Rd.mkI n n (Rd.add1 F0 cm.a.toNat cm.a.toNat cm.w)).getD ((cm.b).toNat) []).getD ((cm.b).toNat) 0)) 0 ((cm.b).toNat) ((cm.b).toNat) rfl ((mkI_sm n n (Rd.add1 F0 cm.a.toNat cm.a.toNat cm.w) hlen2).hk om) ((mkI_sm n n (Rd.add1 F0 cm.a.toNat cm.a.toNat cm.w) hlen2).mk' om) ty3 rfl rfl (gD (d:=(0:Int)) (by rw [(mkI_sm n n (Rd.add1 F0 cm.a.toNat cm.a.toNat cm.w) hlen2).row om];omega))) (fun _ hok47=> ?_)
      replace hok47:=zE.1 hok47
      have e48:((Rd.mkI n n (Rd.add1 F0 cm.a.toNat cm.a.toNat cm.w)).getD ((cm.b).toNat) []).getD ((cm.b).toNat) 0=(Rd.add1 F0 cm.a.toNat cm.a.toNat cm.w) (cm.b).toNat (cm.b).toNat:=by exact Rd.mkI_get om om
      rw [e48]
      refine e_pv 9 rfl rfl (zg yf rfl sz3 rfl rfl)<|e_uw 10 rfl rfl (ze 1 ty3 rfl rfl rfl)<|e_pv 11 rfl rfl (zH (z:=(((Rd.add1 F0 cm.a.toNat cm.a.toNat cm.w) (cm.b).toNat (cm.b).toNat)+cm.w)) rfl rfl (w64 om))<|e_uw 12 rfl rfl (zla 0 ((cm.b).toNat) ((cm.b).toNat) rfl ((mkI_sm n n (Rd.add1 F0 cm.a.toNat cm.a.toNat cm.w) hlen2).hk om) ((mkI_sm n n (Rd.add1 F0 cm.a.toNat cm.a.toNat cm.w) hlen2).mk' om) ((mkI_sm n n (Rd.add1 F0 cm.a.toNat cm.a.toNat cm.w) hlen2).row om) yd sz3 rfl rfl om om)<|e_one 13 (zrb (A':=fun _=>rowsM 3 (rI .i64) hs ((Rd.mkI n n (Rd.add1 F0 cm.a.toNat cm.a.toNat cm.w)).set ((cm.b).toNat) (((Rd.mkI n n (Rd.add1 F0 cm.a.toNat cm.a.toNat cm.w)).getD ((cm.b).toNat) []).set ((cm.b).toNat) (((Rd.add1 F0 cm.a.toNat cm.a.toNat cm.w) (cm.b).toNat (cm.b).toNat)+cm.w)))) kr rfl rfl rfl (zdb (r:=rI .i64) (k:=((cm.b).toNat)) (j:=(cm.b).toNat) (x0:=(((Rd.add1 F0 cm.a.toNat cm.a.toNat cm.w) (cm.b).toNat (cm.b).toNat)+cm.w)) (γ0:=()) ((mkI_sm n n (Rd.add1 F0 cm.a.toNat cm.a.toNat cm.w) hlen2).hk om) ((mkI_sm n n (Rd.add1 F0 cm.a.toNat cm.a.toNat cm.w) hlen2).mk' om) rfl rfl (by rw [(mkI_sm n n (Rd.add1 F0 cm.a.toNat cm.a.toNat cm.w) hlen2).row om];omega) rfl rfl sz3 (fun _ _=>by exact zE.2 om)) (fun _ _=> ?_))
      refine zZ kr<|zc<|zf ?_
      have e49:(((Rd.mkI n n (Rd.add1 F0 cm.a.toNat cm.a.toNat cm.w)).set ((cm.b).toNat) (((Rd.mkI n n (Rd.add1 F0 cm.a.toNat cm.a.toNat cm.w)).getD ((cm.b).toNat) []).set ((cm.b).toNat) (((Rd.add1 F0 cm.a.toNat cm.a.toNat cm.w) (cm.b).toNat (cm.b).toNat)+cm.w))):List (List Int))=(Rd.mkI n n (Rd.add1 (Rd.add1 F0 cm.a.toNat cm.a.toNat cm.w) cm.b.toNat cm.b.toNat cm.w)):=by exact Rd.mkI_set om om
      rw [e49]
      refine zaa (OW:=[rowsM 3 (rI .i64) hs (Rd.mkI n n (Rd.add1 (Rd.add1 F0 cm.a.toNat cm.a.toNat cm.w) cm.b.toNat cm.b.toNat cm.w))]) (O:=[boxA b41 68 [ya yb (cm.a),ya yb (cm.b),ya yb (cm.d),ya yb (cm.w)],rowA 3 (rI .i64) (some ⟨b17,0,none⟩) n R0,rowA 42 rV (some ⟨b16,0,none⟩) n (oh hs n)]) 13 mixed (.then (.block (.then (.then (.block (.then .ret)))))) kr<|e_dm 0 rfl rfl rfl<|e_pv 1 rfl rfl (zg yf rfl sz3 rfl rfl)<|e_uw 2 rfl rfl (ze 1 ty3 rfl rfl rfl)<|e_pv 3 rfl rfl (zK (j:=(cm.a).toNat) yg sz42 rfl rfl om om)<|zfb 4 rfl rfl kr kr kr rfl rfl (zG (x0:=((rp hs ((cm.a).toNat)),n,(rc hs ((cm.a).toNat)))) (v:= .slice (rp hs ((cm.a).toNat)) n (rc hs ((cm.a).toNat))) 3 ((cm.a).toNat) rfl ty42 rfl rfl (oh_get ((mkI_sm n n (Rd.add1 (Rd.add1 F0 cm.a.toNat cm.a.toNat cm.w) cm.b.toNat cm.b.toNat cm.w) hlen2).hk om)) rfl) (fun _ hok50=> ?_)
      refine e_pv 5 rfl rfl (zg yf rfl sz3 rfl rfl)<|e_uw 6 rfl rfl (ze 1 ty3 rfl rfl rfl)<|e_uw 7 rfl rfl (zla 0 ((cm.a).toNat) ((cm.b).toNat) rfl ((mkI_sm n n (Rd.add1 (Rd.add1 F0 cm.a.toNat cm.a.toNat cm.w) cm.b.toNat cm.b.toNat cm.w) hlen2).hk om) ((mkI_sm n n (Rd.add1 (Rd.add1 F0 cm.a.toNat cm.a.toNat cm.w) cm.b.toNat cm.b.toNat cm.w) hlen2).mk' om) ((mkI_sm n n (Rd.add1 (Rd.add1 F0 cm.a.toNat cm.a.toNat cm.w) cm.b.toNat cm.b.toNat cm.w) hlen2).row om) yd sz3 rfl rfl om om)<|zfb 8 rfl rfl kr kr kr rfl rfl (zwb (x0:=(((Rd.mkI n n (Rd.add1 (Rd.add1 F0 cm.a.toNat cm.a.toNat cm.w) cm.b.toNat cm.b.toNat cm.w)).getD ((cm.a).toNat) []).getD ((cm.b).toNat) 0)) 0 ((cm.a).toNat) ((cm.b).toNat) rfl ((mkI_sm n n (Rd.add1 (Rd.add1 F0 cm.a.toNat cm.a.toNat cm.w) cm.b.toNat cm.b.toNat cm.w) hlen2).hk om) ((mkI_sm n n (Rd.add1 (Rd.add1 F0 cm.a.toNat cm.a.toNat cm.w) cm.b.toNat cm.b.toNat cm.w) hlen2).mk' om) ty3 rfl rfl (gD (d:=(0:Int)) (by rw [(mkI_sm n n (Rd.add1 (Rd.add1 F0 cm.a.toNat cm.a.toNat cm.w) cm.b.toNat cm.b.toNat cm.w) hlen2).row om];omega))) (fun _ hok51=> ?_)
      replace hok51:=zE.1 hok51
      have e52:((Rd.mkI n n (Rd.add1 (Rd.add1 F0 cm.a.toNat cm.a.toNat cm.w) cm.b.toNat cm.b.toNat cm.w)).getD ((cm.a).toNat) []).getD ((cm.b).toNat) 0=(Rd.add1 (Rd.add1 F0 cm.a.toNat cm.a.toNat cm.w) cm.b.toNat cm.b.toNat cm.w) (cm.a).toNat (cm.b).toNat:=by exact Rd.mkI_get om om
      rw [e52]
      refine e_pv 9 rfl rfl (zg yf rfl sz3 rfl rfl)<|e_uw 10 rfl rfl (ze 1 ty3 rfl rfl rfl)<|e_pv 11 rfl rfl (zja (z:=(((Rd.add1 (Rd.add1 F0 cm.a.toNat cm.a.toNat cm.w) cm.b.toNat cm.b.toNat cm.w) (cm.a).toNat (cm.b).toNat) - cm.w)) rfl rfl (w64 om))<|e_uw 12 rfl rfl (zla 0 ((cm.a).toNat) ((cm.b).toNat) rfl ((mkI_sm n n (Rd.add1 (Rd.add1 F0 cm.a.toNat cm.a.toNat cm.w) cm.b.toNat cm.b.toNat cm.w) hlen2).hk om) ((mkI_sm n n (Rd.add1 (Rd.add1 F0 cm.a.toNat cm.a.toNat cm.w) cm.b.toNat cm.b.toNat cm.w) hlen2).mk' om) ((mkI_sm n n (Rd.add1 (Rd.add1 F0 cm.a.toNat cm.a.toNat cm.w) cm.b.toNat cm.b.toNat cm.w) hlen2).row om) yd sz3 rfl rfl om om)<|e_one 13 (zrb (A':=fun _=>rowsM 3 (rI .i64) hs ((Rd.mkI n n (Rd.add1 (Rd.add1 F0 cm.a.toNat cm.a.toNat cm.w) cm.b.toNat cm.b.toNat cm.w)).set ((cm.a).toNat) (((Rd.mkI n n (Rd.add1 (Rd.add1 F0 cm.a.toNat cm.a.toNat cm.w) cm.b.toNat cm.b.toNat cm.w)).getD ((cm.a).toNat) []).set ((cm.b).toNat) (((Rd.add1 (Rd.add1 F0 cm.a.toNat cm.a.toNat cm.w) cm.b.toNat cm.b.toNat cm.w) (cm.a).toNat (cm.b).toNat) - cm.w)))) kr rfl rfl rfl (zdb (r:=rI .i64) (k:=((cm.a).toNat)) (j:=(cm.b).toNat) (x0:=(((Rd.add1 (Rd.add1 F0 cm.a.toNat cm.a.toNat cm.w) cm.b.toNat cm.b.toNat cm.w) (cm.a).toNat (cm.b).toNat) - cm.w)) (γ0:=()) ((mkI_sm n n (Rd.add1 (Rd.add1 F0 cm.a.toNat cm.a.toNat cm.w) cm.b.toNat cm.b.toNat cm.w) hlen2).hk om) ((mkI_sm n n (Rd.add1 (Rd.add1 F0 cm.a.toNat cm.a.toNat cm.w) cm.b.toNat cm.b.toNat cm.w) hlen2).mk' om) rfl rfl (by rw [(mkI_sm n n (Rd.add1 (Rd.add1 F0 cm.a.toNat cm.a.toNat cm.w) cm.b.toNat cm.b.toNat cm.w) hlen2).row om];omega) rfl rfl sz3 (fun _ _=>by exact zE.2 om)) (fun _ _=> ?_))
      refine zZ kr<|zc<|zf ?_
      have e53:(((Rd.mkI n n (Rd.add1 (Rd.add1 F0 cm.a.toNat cm.a.toNat cm.w) cm.b.toNat cm.b.toNat cm.w)).set ((cm.a).toNat) (((Rd.mkI n n (Rd.add1 (Rd.add1 F0 cm.a.toNat cm.a.toNat cm.w) cm.b.toNat cm.b.toNat cm.w)).getD ((cm.a).toNat) []).set ((cm.b).toNat) (((Rd.add1 (Rd.add1 F0 cm.a.toNat cm.a.toNat cm.w) cm.b.toNat cm.b.toNat cm.w) (cm.a).toNat (cm.b).toNat) - cm.w))):List (List Int))=(Rd.mkI n n (Rd.add1 (Rd.add1 (Rd.add1 F0 cm.a.toNat cm.a.toNat cm.w) cm.b.toNat cm.b.toNat cm.w) cm.a.toNat cm.b.toNat (-cm.w))):=by exact Rd.mkI_sub om om
      rw [e53]
      refine zaa (OW:=[rowsM 3 (rI .i64) hs (Rd.mkI n n (Rd.add1 (Rd.add1 (Rd.add1 F0 cm.a.toNat cm.a.toNat cm.w) cm.b.toNat cm.b.toNat cm.w) cm.a.toNat cm.b.toNat (-cm.w)))]) (O:=[boxA b41 68 [ya yb (cm.a),ya yb (cm.b),ya yb (cm.d),ya yb (cm.w)],rowA 3 (rI .i64) (some ⟨b17,0,none⟩) n R0,rowA 42 rV (some ⟨b16,0,none⟩) n (oh hs n)]) 13 mixed (.then (.block (.then (.then (.block (.then .ret)))))) kr<|e_dm 0 rfl rfl rfl<|e_pv 1 rfl rfl (zg yf rfl sz3 rfl rfl)<|e_uw 2 rfl rfl (ze 1 ty3 rfl rfl rfl)<|e_pv 3 rfl rfl (zK (j:=(cm.b).toNat) yg sz42 rfl rfl om om)<|zfb 4 rfl rfl kr kr kr rfl rfl (zG (x0:=((rp hs ((cm.b).toNat)),n,(rc hs ((cm.b).toNat)))) (v:= .slice (rp hs ((cm.b).toNat)) n (rc hs ((cm.b).toNat))) 3 ((cm.b).toNat) rfl ty42 rfl rfl (oh_get ((mkI_sm n n (Rd.add1 (Rd.add1 (Rd.add1 F0 cm.a.toNat cm.a.toNat cm.w) cm.b.toNat cm.b.toNat cm.w) cm.a.toNat cm.b.toNat (-cm.w)) hlen2).hk om)) rfl) (fun _ hok54=> ?_)
      refine e_pv 5 rfl rfl (zg yf rfl sz3 rfl rfl)<|e_uw 6 rfl rfl (ze 1 ty3 rfl rfl rfl)<|e_uw 7 rfl rfl (zla 0 ((cm.b).toNat) ((cm.a).toNat) rfl ((mkI_sm n n (Rd.add1 (Rd.add1 (Rd.add1 F0 cm.a.toNat cm.a.toNat cm.w) cm.b.toNat cm.b.toNat cm.w) cm.a.toNat cm.b.toNat (-cm.w)) hlen2).hk om) ((mkI_sm n n (Rd.add1 (Rd.add1 (Rd.add1 F0 cm.a.toNat cm.a.toNat cm.w) cm.b.toNat cm.b.toNat cm.w) cm.a.toNat cm.b.toNat (-cm.w)) hlen2).mk' om) ((mkI_sm n n (Rd.add1 (Rd.add1 (Rd.add1 F0 cm.a.toNat cm.a.toNat cm.w) cm.b.toNat cm.b.toNat cm.w) cm.a.toNat cm.b.toNat (-cm.w)) hlen2).row om) yd sz3 rfl rfl om om)<|zfb 8 rfl rfl kr kr kr rfl rfl (zwb (x0:=(((Rd.mkI n n (Rd.add1 (Rd.add1 (Rd.add1 F0 cm.a.toNat cm.a.toNat cm.w) cm.b.toNat cm.b.toNat cm.w) cm.a.toNat cm.b.toNat (-cm.w))).getD ((cm.b).toNat) []).getD ((cm.a).toNat) 0)) 0 ((cm.b).toNat) ((cm.a).toNat) rfl ((mkI_sm n n (Rd.add1 (Rd.add1 (Rd.add1 F0 cm.a.toNat cm.a.toNat cm.w) cm.b.toNat cm.b.toNat cm.w) cm.a.toNat cm.b.toNat (-cm.w)) hlen2).hk om) ((mkI_sm n n (Rd.add1 (Rd.add1 (Rd.add1 F0 cm.a.toNat cm.a.toNat cm.w) cm.b.toNat cm.b.toNat cm.w) cm.a.toNat cm.b.toNat (-cm.w)) hlen2).mk' om) ty3 rfl rfl (gD (d:=(0:Int)) (by rw [(mkI_sm n n (Rd.add1 (Rd.add1 (Rd.add1 F0 cm.a.toNat cm.a.toNat cm.w) cm.b.toNat cm.b.toNat cm.w) cm.a.toNat cm.b.toNat (-cm.w)) hlen2).row om];omega))) (fun _ hok55=> ?_)
      replace hok55:=zE.1 hok55
      have e56:((Rd.mkI n n (Rd.add1 (Rd.add1 (Rd.add1 F0 cm.a.toNat cm.a.toNat cm.w) cm.b.toNat cm.b.toNat cm.w) cm.a.toNat cm.b.toNat (-cm.w))).getD ((cm.b).toNat) []).getD ((cm.a).toNat) 0=(Rd.add1 (Rd.add1 (Rd.add1 F0 cm.a.toNat cm.a.toNat cm.w) cm.b.toNat cm.b.toNat cm.w) cm.a.toNat cm.b.toNat (-cm.w)) (cm.b).toNat (cm.a).toNat:=by exact Rd.mkI_get om om
      rw [e56]
      refine e_pv 9 rfl rfl (zg yf rfl sz3 rfl rfl)<|e_uw 10 rfl rfl (ze 1 ty3 rfl rfl rfl)<|e_pv 11 rfl rfl (zja (z:=(((Rd.add1 (Rd.add1 (Rd.add1 F0 cm.a.toNat cm.a.toNat cm.w) cm.b.toNat cm.b.toNat cm.w) cm.a.toNat cm.b.toNat (-cm.w)) (cm.b).toNat (cm.a).toNat) - cm.w)) rfl rfl (w64 om))<|e_uw 12 rfl rfl (zla 0 ((cm.b).toNat) ((cm.a).toNat) rfl ((mkI_sm n n (Rd.add1 (Rd.add1 (Rd.add1 F0 cm.a.toNat cm.a.toNat cm.w) cm.b.toNat cm.b.toNat cm.w) cm.a.toNat cm.b.toNat (-cm.w)) hlen2).hk om) ((mkI_sm n n (Rd.add1 (Rd.add1 (Rd.add1 F0 cm.a.toNat cm.a.toNat cm.w) cm.b.toNat cm.b.toNat cm.w) cm.a.toNat cm.b.toNat (-cm.w)) hlen2).mk' om) ((mkI_sm n n (Rd.add1 (Rd.add1 (Rd.add1 F0 cm.a.toNat cm.a.toNat cm.w) cm.b.toNat cm.b.toNat cm.w) cm.a.toNat cm.b.toNat (-cm.w)) hlen2).row om) yd sz3 rfl rfl om om)<|e_one 13 (zrb (A':=fun _=>rowsM 3 (rI .i64) hs ((Rd.mkI n n (Rd.add1 (Rd.add1 (Rd.add1 F0 cm.a.toNat cm.a.toNat cm.w) cm.b.toNat cm.b.toNat cm.w) cm.a.toNat cm.b.toNat (-cm.w))).set ((cm.b).toNat) (((Rd.mkI n n (Rd.add1 (Rd.add1 (Rd.add1 F0 cm.a.toNat cm.a.toNat cm.w) cm.b.toNat cm.b.toNat cm.w) cm.a.toNat cm.b.toNat (-cm.w))).getD ((cm.b).toNat) []).set ((cm.a).toNat) (((Rd.add1 (Rd.add1 (Rd.add1 F0 cm.a.toNat cm.a.toNat cm.w) cm.b.toNat cm.b.toNat cm.w) cm.a.toNat cm.b.toNat (-cm.w)) (cm.b).toNat (cm.a).toNat) - cm.w)))) kr rfl rfl rfl (zdb (r:=rI .i64) (k:=((cm.b).toNat)) (j:=(cm.a).toNat) (x0:=(((Rd.add1 (Rd.add1 (Rd.add1 F0 cm.a.toNat cm.a.toNat cm.w) cm.b.toNat cm.b.toNat cm.w) cm.a.toNat cm.b.toNat (-cm.w)) (cm.b).toNat (cm.a).toNat) - cm.w)) (γ0:=()) ((mkI_sm n n (Rd.add1 (Rd.add1 (Rd.add1 F0 cm.a.toNat cm.a.toNat cm.w) cm.b.toNat cm.b.toNat cm.w) cm.a.toNat cm.b.toNat (-cm.w)) hlen2).hk om) ((mkI_sm n n (Rd.add1 (Rd.add1 (Rd.add1 F0 cm.a.toNat cm.a.toNat cm.w) cm.b.toNat cm.b.toNat cm.w) cm.a.toNat cm.b.toNat (-cm.w)) hlen2).mk' om) rfl rfl (by rw [(mkI_sm n n (Rd.add1 (Rd.add1 (Rd.add1 F0 cm.a.toNat cm.a.toNat cm.w) cm.b.toNat cm.b.toNat cm.w) cm.a.toNat cm.b.toNat (-cm.w)) hlen2).row om];omega) rfl rfl sz3 (fun _ _=>by exact zE.2 om)) (fun _ _=> ?_))
      refine zZ kr<|zc<|zf ?_
      have e57:(((Rd.mkI n n (Rd.add1 (Rd.add1 (Rd.add1 F0 cm.a.toNat cm.a.toNat cm.w) cm.b.toNat cm.b.toNat cm.w) cm.a.toNat cm.b.toNat (-cm.w))).set ((cm.b).toNat) (((Rd.mkI n n (Rd.add1 (Rd.add1 (Rd.add1 F0 cm.a.toNat cm.a.toNat cm.w) cm.b.toNat cm.b.toNat cm.w) cm.a.toNat cm.b.toNat (-cm.w))).getD ((cm.b).toNat) []).set ((cm.a).toNat) (((Rd.add1 (Rd.add1 (Rd.add1 F0 cm.a.toNat cm.a.toNat cm.w) cm.b.toNat cm.b.toNat cm.w) cm.a.toNat cm.b.toNat (-cm.w)) (cm.b).toNat (cm.a).toNat) - cm.w))):List (List Int))=(Rd.mkI n n (Rd.add1 (Rd.add1 (Rd.add1 (Rd.add1 F0 cm.a.toNat cm.a.toNat cm.w) cm.b.toNat cm.b.toNat cm.w) cm.a.toNat cm.b.toNat (-cm.w)) cm.b.toNat cm.a.toNat (-cm.w))):=by exact Rd.mkI_sub om om
      rw [e57]
      refine zna (.c (i:=2) rfl (.c (i:=0) rfl (.c (i:=0) rfl (.c (i:=0) rfl .n))))<|zaa (OW:=[rowA 3 (rI .i64) (some ⟨b17,0,none⟩) n R0]) (O:=[rowsM 3 (rI .i64) hs (Rd.mkI n n (Rd.add1 (Rd.add1 (Rd.add1 (Rd.add1 F0 cm.a.toNat cm.a.toNat cm.w) cm.b.toNat cm.b.toNat cm.w) cm.a.toNat cm.b.toNat (-cm.w)) cm.b.toNat cm.a.toNat (-cm.w))),boxA b41 68 [ya yb (cm.a),ya yb (cm.b),ya yb (cm.d),ya yb (cm.w)],rowA 42 rV (some ⟨b16,0,none⟩) n (oh hs n)]) 12 mixed (.then (.block (.then (.then (.block (.then .ret)))))) kr<|e_dm 0 rfl rfl rfl<|e_pv 1 rfl rfl (zg yf rfl sz3 rfl rfl)<|e_uw 2 rfl rfl (ze 2 ty3 rfl rfl rfl)<|e_pv 3 rfl rfl (zK (j:=(cm.a).toNat) yd sz3 rfl rfl om om)<|zfb 4 rfl rfl kr kr kr rfl rfl (zG 0 ((cm.a).toNat) rfl ty3 rfl rfl (gD (d:=0) om) rfl) (fun _ hok58=> ?_)
      replace hok58:=zE.1 hok58
      refine e_pv 5 rfl rfl (zg yf rfl sz3 rfl rfl)<|e_uw 6 rfl rfl (ze 2 ty3 rfl rfl rfl)<|e_pv 7 rfl rfl (zg yf rfl sz3 rfl rfl)<|e_uw 8 rfl rfl (ze 2 ty3 rfl rfl rfl)<|e_pv 9 rfl rfl (zva (z:=(cm.w*cm.d)) rfl rfl (w64 om))<|e_pv 10 rfl rfl (zH (z:=((R0.getD ((cm.a).toNat) 0)+(cm.w*cm.d))) rfl rfl (w64 om))<|e_pv 11 rfl rfl (zK (j:=(cm.a).toNat) yd sz3 rfl rfl om om)<|e_one 12 (zrb (A':=fun _=>rowA 3 (rI .i64) (some ⟨b17,0,none⟩) n (R0.set ((cm.a).toNat) ((R0.getD ((cm.a).toNat) 0)+(cm.w*cm.d)))) kr rfl rfl rfl (zP (j:=(cm.a).toNat) (x0:=((R0.getD ((cm.a).toNat) 0)+(cm.w*cm.d))) (γ0:=()) rfl rfl (by first|omega|(rw [Rd.fz_len];omega)|(rw [Mx.oz_len om];omega)|(rw [Rd.RK_len];omega)|(rw [List.length_set,Rd.RK_len];omega)) rfl rfl sz3 (fun _ _=>by exact zE.2 om)) (fun _ _=> ?_))
      refine zZ kr<|zc<|zaa (OW:=[rowA 3 (rI .i64) (some ⟨b17,0,none⟩) n (R0.set ((cm.a).toNat) ((R0.getD ((cm.a).toNat) 0)+(cm.w*cm.d)))]) (O:=[rowsM 3 (rI .i64) hs (Rd.mkI n n (Rd.add1 (Rd.add1 (Rd.add1 (Rd.add1 F0 cm.a.toNat cm.a.toNat cm.w) cm.b.toNat cm.b.toNat cm.w) cm.a.toNat cm.b.toNat (-cm.w)) cm.b.toNat cm.a.toNat (-cm.w))),boxA b41 68 [ya yb (cm.a),ya yb (cm.b),ya yb (cm.d),ya yb (cm.w)],rowA 42 rV (some ⟨b16,0,none⟩) n (oh hs n)]) 12 mixed (.block (.then (.then (.block (.then .ret))))) kr<|e_dm 0 rfl rfl rfl<|e_pv 1 rfl rfl (zg yf rfl sz3 rfl rfl)<|e_uw 2 rfl rfl (ze 2 ty3 rfl rfl rfl)<|e_pv 3 rfl rfl (zK (j:=(cm.b).toNat) yd sz3 rfl rfl om om)<|zfb 4 rfl rfl kr kr kr rfl rfl (zG 0 ((cm.b).toNat) rfl ty3 rfl rfl (gD (d:=0) om) rfl) (fun _ hok59=> ?_)
      replace hok59:=zE.1 hok59
      refine e_pv 5 rfl rfl (zg yf rfl sz3 rfl rfl)<|e_uw 6 rfl rfl (ze 2 ty3 rfl rfl rfl)<|e_pv 7 rfl rfl (zg yf rfl sz3 rfl rfl)<|e_uw 8 rfl rfl (ze 2 ty3 rfl rfl rfl)<|e_pv 9 rfl rfl (zva (z:=(cm.w*cm.d)) rfl rfl (w64 om))<|e_pv 10 rfl rfl (zja (z:=(((R0.set ((cm.a).toNat) ((R0.getD ((cm.a).toNat) 0)+(cm.w*cm.d))).getD ((cm.b).toNat) 0) - (cm.w*cm.d))) rfl rfl (w64 om))<|e_pv 11 rfl rfl (zK (j:=(cm.b).toNat) yd sz3 rfl rfl om om)<|e_one 12 (zrb (A':=fun _=>rowA 3 (rI .i64) (some ⟨b17,0,none⟩) n ((R0.set ((cm.a).toNat) ((R0.getD ((cm.a).toNat) 0)+(cm.w*cm.d))).set ((cm.b).toNat) (((R0.set ((cm.a).toNat) ((R0.getD ((cm.a).toNat) 0)+(cm.w*cm.d))).getD ((cm.b).toNat) 0) - (cm.w*cm.d)))) kr rfl rfl rfl (zP (j:=(cm.b).toNat) (x0:=(((R0.set ((cm.a).toNat) ((R0.getD ((cm.a).toNat) 0)+(cm.w*cm.d))).getD ((cm.b).toNat) 0) - (cm.w*cm.d))) (γ0:=()) rfl rfl (by first|omega|(rw [Rd.fz_len];omega)|(rw [Mx.oz_len om];omega)|(rw [Rd.RK_len];omega)|(rw [List.length_set,Rd.RK_len];omega)) rfl rfl sz3 (fun _ _=>by exact zE.2 om)) (fun _ _=> ?_))
      refine zZ kr<|zO<|zc<|za<|e_p (zH (z:=(((i+1):Nat):Int)) rfl rfl (w64 om))<|e_mv rfl<|zh ?_
      have e60:((Rd.mkI n n (Rd.add1 (Rd.add1 (Rd.add1 (Rd.add1 F0 cm.a.toNat cm.a.toNat cm.w) cm.b.toNat cm.b.toNat cm.w) cm.a.toNat cm.b.toNat (-cm.w)) cm.b.toNat cm.a.toNat (-cm.w))):List (List Int))=(Rd.mkI n n (Rd.FK (Rd.prt n L) (L.take (i+1)))):=by rw [Rd.FK_take (show i<L.length by omega),←hF0,←hcm];rfl
      rw [e60]
      have e61:(((R0.set ((cm.a).toNat) ((R0.getD ((cm.a).toNat) 0)+(cm.w*cm.d))).set ((cm.b).toNat) (((R0.set ((cm.a).toNat) ((R0.getD ((cm.a).toNat) 0)+(cm.w*cm.d))).getD ((cm.b).toNat) 0) - (cm.w*cm.d))):List Int)=(Rd.RK n (L.take (i+1))):=by rw [Rd.RK_take (show i<L.length by omega),←hR0,←hcm];rfl
      rw [e61]
      refine zca (i+1) (show (i+1)≤nL from by show i+1≤nL;omega) (by show nL - (i+1)<nL - i;omega) ((.of rfl):SubM _ _) (ho:=((.of [1,0,1] rfl):PickO _ _ _)) ((.of [1,2] rfl):SelR _ _ _)
     ·
      refine zea<|zj<|zj<|zr<|zc<|zf ?_
      have hLt:L.take i=L:=List.take_of_length_le om
      have e62:((Rd.mkI n n (Rd.FK (Rd.prt n L) (L.take i))):List (List Int))=(Rd.mkI n n (Rd.FK (Rd.prt n L) L)):=by rw [hLt]
      rw [e62]
      have e63:((Rd.RK n (L.take i)):List Int)=(Rd.RK n L):=by rw [hLt]
      rw [e63]
      refine zBd (fun w mm=>mm.rmFreeze 2 0 rfl rfl ((mkI_sm n n (Rd.FK (Rd.prt n L) L) hlen2).hl) ((mkI_sm n n (Rd.FK (Rd.prt n L) L) hlen2).rl)) ?_
      try dsimp only [List.set]
      refine za<|e_mv rfl<|zv rfl rfl (.c rfl .n) ce68 (zAg (pL:=some ⟨b16,0,none⟩) (nL:=n) (cL:=n) (LL:=(Rd.mkI n n (Rd.FK (Rd.prt n L) L))) (N:=n) (hnL:=by first|rfl|assumption|omega|exact Rd.mkI_len _ _ _|(rw [Rd.mkI_rl om];done)|(intro i hi;rw [Rd.mkI_rl hi,Rd.mkI_rl om];done)) (hL1:=by first|rfl|assumption|omega|exact Rd.mkI_len _ _ _|(rw [Rd.mkI_rl om];done)|(intro i hi;rw [Rd.mkI_rl hi,Rd.mkI_rl om];done)) (hU:=by first|rfl|assumption|omega|exact Rd.mkI_len _ _ _|(rw [Rd.mkI_rl om];done)|(intro i hi;rw [Rd.mkI_rl hi,Rd.mkI_rl om];done)) (hK:=by first|rfl|assumption|omega|exact Rd.mkI_len _ _ _|(rw [Rd.mkI_rl om];done)|(intro i hi;rw [Rd.mkI_rl hi,Rd.mkI_rl om];done)) (hL0:=by first|rfl|assumption|omega|exact Rd.mkI_len _ _ _|(rw [Rd.mkI_rl om];done)|(intro i hi;rw [Rd.mkI_rl hi,Rd.mkI_rl om];done)) (hN:=by first|rfl|assumption|omega|exact Rd.mkI_len _ _ _|(rw [Rd.mkI_rl om];done)|(intro i hi;rw [Rd.mkI_rl hi,Rd.mkI_rl om];done))) (.c (j:=0) rfl .n) ?_
      rintro ⟨p364,c365⟩ -
      dsimp only [aq,nq,cq]
      refine e_mv rfl<|e_p (zp rfl rfl)<|e_p (zp rfl rfl)<|e_p (zb rfl)<|e_p (zb rfl)<|zh<|zc<|zf<|za<|e_p (zb rfl)<|zh<|zc<|zf<|zf ?_
      have e66:((Mx.mk n n (fun ii jj=>Mx.eI (Rd.mkI n n (Rd.FK (Rd.prt n L) L)) ii jj)):List (List Rat))=(Rd.A0 n L):=by rfl
      rw [e66]
      refine zyc 28 rQ ?_
      have hrl:=Rd.RK_len n L
      refine za<|e_mv rfl<|e_p (zB yd rfl)<|e_mv rfl<|zh<|zc<|zt<|zfa (X:=Nat×(Option Addr)×Nat) (fun x:Nat×(Option Addr)×Nat=>x.1≤n) (fun x=>[(17,.slice (x.2.1) (x.1) (x.2.2)),(214,ya yb ((x.1:Nat):Int)),(213,ya yb ((n:Nat):Int)),(212,.slice (some ⟨b17,0,none⟩) n n),(15,.slice p364 n c365)]) (fun x=>[rowA 28 rQ (x.2.1) (x.2.2) ((Rd.rr n L).take x.1),rowA 3 (rI .i64) (some ⟨b17,0,none⟩) n (Rd.RK n L)]) (fun x=>[slF (rS rQ) p364 c365 (Rd.A0 n L),slF (rS (rI .i64)) (some ⟨b16,0,none⟩) n (Rd.mkI n n (Rd.FK (Rd.prt n L) L)),slF (rI .i64) p319 c320 (Rd.prt n L),slF (rI4 .i64) pL cL L]) (fun x:Nat×(Option Addr)×Nat=>n - x.1) (0,none,0) (show 0≤n from by exact Nat.zero_le _) ((.c rfl (.e rfl (by first|rfl|(congr 1;omega)|simp_all) (.of rfl))):SubM _ _) (ho:=((.e (i:=0) rfl (by first|rfl|(congr 1;omega)|simp_all) (.c (i:=1) rfl .n)):PickO _ _ _)) ((.of [0,1,2,3] rfl):SelR _ _ _) ?_
      rintro ⟨i,pB,cB⟩ hI5
      replace hI5:i≤n:=hI5
      try dsimp only
      have htl:((Rd.rr n L).take i).length=i:=by rw [List.length_take,Rd.rr_len];omega
      refine zf<|za<|e_p (zT rfl rfl)<|zh<|zc<|zf<|zx rfl (fun h67=> ?_) (fun h67=> ?_)
      ·
       refine zu<|zc<|zf<|zt<|zf<|za<|e_p (zK (j:=i) yd sz3 rfl rfl rfl om)<|r_vl rfl rfl (zG 1 i rfl ty3 rfl rfl (gD (d:=0) om) rfl) (fun _ hok68=> ?_)
       replace hok68:=zE.1 hok68
       refine e_p (zb rfl)<|zh<|zc<|za<|e_mv rfl<|e_mv rfl<|zv rfl rfl (.c rfl .n) ce56 (zQa (z:=((Rd.RK n L).getD i 0)) (hz:=by first|rfl|assumption|omega|exact Rd.mkI_len _ _ _|(rw [Rd.mkI_rl om];done)|(intro i hi;rw [Rd.mkI_rl hi,Rd.mkI_rl om];done))) (.n) ?_
       rintro ⟨w369,w470⟩ -
       dsimp only [aq,nq,cq]
       refine zsa rfl rfl (zXa (r:=rQ) (k:=1) yn inf28 rfl dd dd dd (.c (x:=((((Rd.RK n L).getD i 0):Int):Rat)) (cs:=[w369.b,w369.l,w470.b,w470.l]) (w369,w470) rfl rfl rfl (fun g hr=>Holds.get 0 rfl hr) .n)) (fun b71 _=> ?_)
       refine zha 0 rfl .z<|zya 1 rfl rfl rfl (zta 0 rfl yn inf28 dd rfl rfl (by first|rfl|assumption|omega|exact Rd.fz_len _ _ _|exact Rd.RK_len _ _|exact Rd.prt_len _ _|(rw [Mx.oz_len om];done)|(rw [Mx.oz_len (by rw [List.length_append];simp;omega)];done)|(rw [oh_len];assumption)|(simp;done)) rfl (by first|rfl|assumption|omega|exact Rd.fz_len _ _ _|exact Rd.RK_len _ _|exact Rd.prt_len _ _|(rw [Mx.oz_len om];done)|(rw [Mx.oz_len (by rw [List.length_append];simp;omega)];done)|(rw [oh_len];assumption)|(simp;done)) om om) (fun _=>(.s .z)) ?_
       rintro ⟨p72,c73⟩ -
       dsimp only [aq,nq,cq]
       refine e_p (zb rfl)<|zh<|zO<|zc<|za<|e_p (zH (z:=(((i+1):Nat):Int)) rfl rfl (w64 om))<|e_mv rfl<|zh<|zca ((i+1),p72,c73) (show (i+1)≤n from by show i+1≤n;omega) (by show n - (i+1)<n - i;omega) ((.e rfl (by first|rfl|(congr 1;omega)|simp_all) (.of rfl)):SubM _ _) (ho:=((.e (i:=1) rfl (by first|rfl|(rw [Rd.rr_take om])) (.c (i:=1) rfl .n)):PickO _ _ _)) ((.of [2,3,4,5] rfl):SelR _ _ _)
      ·
       refine zea<|zj<|zj<|zr<|zc<|zf ?_
       have e74:(((Rd.rr n L).take i):List Rat)=(Rd.rr n L):=by exact List.take_of_length_le (by rw [Rd.rr_len];omega)
       rw [e74]
       have e75:(.slice pB i cB:Value)= .slice pB n cB:=by congr 1;omega
       rw [e75]
       refine za<|e_mv rfl<|e_mv rfl<|zha 0 rfl .z<|zv rfl rfl (.c rfl (.c rfl .n)) ce69 (zVe (pA:=p364) (nA:=n) (cA:=c365) (A:=(Rd.A0 n L)) (p:=pB) (cap:=cB) (l:=(Rd.rr n L)) (n9:=n) (b:=3) (hnM:=by exact Mx.mk_len _ _ _) (hM1:=by first|rfl|assumption|omega|exact Rd.mkI_len _ _ _|(rw [Rd.mkI_rl om];done)|(intro i hi;rw [Rd.mkI_rl hi,Rd.mkI_rl om];done)) (hAr:=by exact Mx.mk_rl _ _ _) (hN:=by first|rfl|assumption|omega|exact Rd.mkI_len _ _ _|(rw [Rd.mkI_rl om];done)|(intro i hi;rw [Rd.mkI_rl hi,Rd.mkI_rl om];done)) (hn:=by exact Rd.rr_len _ _) (hb1:=by first|rfl|assumption|omega|exact Rd.mkI_len _ _ _|(rw [Rd.mkI_rl om];done)|(intro i hi;rw [Rd.mkI_rl hi,Rd.mkI_rl om];done)) (hbA:=by exact Rd.A0_hq hok om) (hbl:=by exact Rd.rr_hq hok om) (hH:=by exact Rd.H6 om) (hcons:=by exact Rd.cons hok)) (.c (j:=1) rfl (.c (j:=0) rfl .n)) ?_
       rintro ⟨p376,c377,sol⟩ hsol
       dsimp only [aq,nq,cq]
       replace hsol:sol.length=n∧(∀i,i<n→Mx.sm n (fun c=>Mx.e (Rd.A0 n L) i c*sol.getD c 0)=(Rd.rr n L).getD i 0)∧(∀c,Big.hq (sol.getD c 0)≤Mx.H 3 n):=hsol
       refine e_p (zp rfl rfl)<|e_p (zp rfl rfl)<|e_p (zb rfl)<|e_p (zb rfl)<|zh<|zc<|zI ?_
       exact zpa ym (p376,c377,sol) (⟨fun _=>⟨hsol.1,Rd.lv_of hok om hsol.2.1,fun c=>Nat.le_trans (hsol.2.2 c) (Rd.H6 om)⟩,fun k=>absurd hof k⟩) (zo rfl) (zo rfl) (by rw [hof,hsol.1]) (ho:=(.n:PickO _ _ _)) ((.c (j:=0) rfl .n):SelR _ _ _)
end Go.Proofs.YtkohlohbogpooaaGreat.Sp
namespace Go.Proofs.YtkohlohbogpooaaGreat.Rd
set_option linter.unusedVariables false
def q0:Option Rat:=some (Rat.divInt 0 1)
theorem kn_co:(if Bl.rok 3 1 100 [5,5,5] then ckC (some (Rat.divInt 1 8)) (some (Rat.divInt 0 1)) 32 32 3 1 else 1)=0:=by decide +kernel
theorem kn_out:out [5,5,5] (cor ((some (Rat.divInt 1 8)).getD 0) ((some (Rat.divInt 0 1)).getD 0) 32 32 (3:Int).toNat 100 [5,5,5])=[5,6,8]:=by decide +kernel
theorem kn_off {sol:List Rat} (hl:sol.length=(2:Int).toNat) (h:Lv (2:Int).toNat [⟨0,1,6,1⟩] (fun c=>sol.getD c 0)):sol=[Rat.divInt 3 1,Rat.divInt (-3) 1]:=by
  have h1:=h.t 0
  have h2:=h.g 0 (by decide)
  have e1:T 2 (prt 2 [⟨0,1,6,1⟩]) (fun c=>sol.getD c 0) 0=sol.getD 0 0+sol.getD 1 0:=by
    have hp:prt 2 [⟨0,1,6,1⟩]=[0,0]:=by decide +kernel
    rw [hp];unfold T
    rw [Mx.sm_succ,Mx.sm_succ,if_pos (by decide),if_pos (by decide)]
    show (0:Rat)+sol.getD 0 0+sol.getD 1 0=_;grind
  have e2:S (fun c=>(c.w:Rat)*(xa (fun c=>sol.getD c 0) c.b - xa (fun c=>sol.getD c 0) c.a+(c.d:Rat))*(dl 0 c.b - dl 0 c.a)) [⟨0,1,6,1⟩]= - (sol.getD 1 0 - sol.getD 0 0+6):=by
    unfold S S xa dl
    have a:((1:Int):Rat)=1:=rfl
    have b:((6:Int):Rat)=6:=rfl
    show ((1:Int):Rat)*(sol.getD 1 0 - sol.getD 0 0+((6:Int):Rat))*((if (0:Nat)=1 then (1:Rat) else 0) - (if (0:Nat)=0 then (1:Rat) else 0))+0=_
    rw [a,b,if_neg (by decide),if_pos rfl];grind
  have h1':T 2 (prt 2 [⟨0,1,6,1⟩]) (fun c=>sol.getD c 0) 0=0:=h1
  rw [e1] at h1'
  rw [e2] at h2
  have a3:Rat.divInt 3 1=3:=by decide +kernel
  have a4:Rat.divInt (-3) 1= -3:=by decide +kernel
  refine Mx.ext_getD 0 (by rw [hl];rfl) fun c hc=> ?_
  rw [hl] at hc
  have hc':c<2:=hc
  rcases (show c=0∨c=1 by omega) with e|e
  · subst e;show sol.getD 0 0=Rat.divInt 3 1;rw [a3];grind
  · subst e;show sol.getD 1 0=Rat.divInt (-3) 1;rw [a4];grind
theorem kn_tab:Tb [2,0,2] [1,1,2] [1,1,2]:=⟨rfl,fun i hi=>by
  have hi':i<3:=hi
  rcases (show i=0∨i=1∨i=2 by omega) with e|e|e
  · subst e;exact ⟨1,rfl,⟨by decide,by decide,by decide⟩⟩
  · subst e;exact ⟨1,rfl,⟨by decide,by decide,by decide⟩⟩
  · subst e;exact ⟨2,rfl,⟨by decide,by decide,by decide⟩⟩⟩
theorem kn_fd:((3:Nat):Int)*sI (fun jj=>lg [0,1,2] jj*lg [0,1,2] jj) 3≠sI (lg [0,1,2]) 3*sI (lg [0,1,2]) 3:=by decide
theorem kn_a:∀i,i<3→0≤lg [0,1,2] i∧lg [0,1,2] i≤65535:=by decide
theorem kn_b:∀i,i<3→0≤lg [1,3,5] i∧lg [1,3,5] i≤65535:=by decide
theorem kn_f1:Rat.divInt (((3:Nat):Int)*sI (fun jj=>lg [0,1,2] jj*lg [1,3,5] jj) 3 - sI (lg [0,1,2]) 3*sI (lg [1,3,5]) 3) (((3:Nat):Int)*sI (fun jj=>lg [0,1,2] jj*lg [0,1,2] jj) 3 - sI (lg [0,1,2]) 3*sI (lg [0,1,2]) 3)=Rat.divInt 2 1:=by decide +kernel
theorem kn_f2:Rat.divInt (sI (lg [1,3,5]) 3) ((3:Nat):Int) - Rat.divInt 2 1*Rat.divInt (sI (lg [0,1,2]) 3) ((3:Nat):Int)=Rat.divInt 1 1:=by decide +kernel
end Go.Proofs.YtkohlohbogpooaaGreat.Rd
namespace Go.Proofs.YtkohlohbogpooaaGreat.Sp
open Go
theorem addQe {R:List Fa} {u v:Wd} {q:Rat} (i:Nat) (hi:R[i]? =some (qF true u v q)):∀g,Holds g R→Holds g (eF u v (some q) :: R):=fun g h=>⟨qF_e (Holds.get i hi h),h⟩
section
variable {P : Program} {n : Sz} {m : Fm} {O : List As} {R : List Fa} {d : Option Tmp} {ty : TypeId} {ps : String} {af : Array Edge} {gd : Option (Nat × Bool)}
end
end Go.Proofs.YtkohlohbogpooaaGreat.Sp
namespace Go.Proofs.YtkohlohbogpooaaGreat.Sp
open Go
set_option linter.unusedVariables false
set_option maxRecDepth 100000
set_option maxHeartbeats 8000000
theorem zKf:Con yl 10 [] [] [] (Y:=Unit) (fun y=>True) (fun y=> .bool true) (fun y=>[]) (fun y=>[]):=by
 refine zn Tryz.func10 rfl rfl rfl (fun c=> ?_)
 show RunC _ _ _ _ _ [] [] []
 refine zf<|za<|e_p (zb rfl)<|zh<|zc<|zf<|za<|e_p (zM zr23 rfl Tryz.underlying23 (.c sz3 (.c sz3 .n)) (.c rfl (.c rfl .n)) (.c rfl rfl rfl (.take .nil) (.c rfl rfl rfl (.skip (.take .nil)) .n)))<|zv rfl rfl (.c rfl (.c rfl .n)) ce25 (zUb (z1:=1) (z2:=8) (hz1:=by first|rfl|decide|omega|(decide +kernel)) (hz2:=by first|rfl|decide|omega|(decide +kernel)) (hy:=by first|rfl|decide|omega|(decide +kernel))) (.n) ?_
 rintro ⟨w31,w42⟩ -
 dsimp only [aq,nq,cq]
 refine zv rfl rfl (.c rfl (.c rfl .n)) ce25 (zUb (z1:=0) (z2:=1) (hz1:=by first|rfl|decide|omega|(decide +kernel)) (hz2:=by first|rfl|decide|omega|(decide +kernel)) (hy:=by first|rfl|decide|omega|(decide +kernel))) (.n) ?_
 rintro ⟨w33,w44⟩ -
 dsimp only [aq,nq,cq]
 refine e_p (zM zr30 rfl Tryz.underlying30 (.c sz23 (.c sz28 (.c sz28 .n))) (.c rfl (.c rfl (.c rfl .n))) (.c rfl rfl rfl (.t2 .nil) (.c rfl rfl rfl (.s2 (.t4 .nil)) (.c rfl rfl rfl (.s4 (.s2 (.t4 .nil))) .n))))<|zL rfl rfl (zw zr30 rfl) (fun b5=> ?_)
 refine zl 0 rfl rfl rfl rfl rfl sz30 rfl (.t8 (.t2 .nil)) .z<|zh<|zc<|zf<|za<|e_ru (zd 0 ty30 rfl rfl (.t8 (.t2 .nil)))<|zGb (addQe 1 rfl)<|zGb (addQe 1 rfl)<|zv rfl rfl (.c rfl (.c rfl (.c rfl .n))) ce12 (con_At (cx:=32) (cy:=32) (u1:=w31) (v1:=w42) (x1:=(some (Rat.divInt 1 8))) (u2:=w33) (v2:=w44) (x2:=(some (Rat.divInt 0 1))) (x9:=2) (y9:=0) (hq1:=by decide +kernel) (hq2:=by decide +kernel)) (.c (j:=1) rfl (.c (j:=0) rfl .n)) ?_
 rintro ⟨w36,w47⟩ hat
 dsimp only [aq,nq,cq]
 replace hat:(¬(((some (Rat.divInt 1 8)).isSome=true∧(some (Rat.divInt 0 1)).isSome=true)∧(-0x100000≤(32:Int)∧(32:Int)≤0x100000∧ -0x100000≤(32:Int)∧(32:Int)≤0x100000∧0≤(2:Int)∧(2:Int)<64∧0≤(0:Int)∧(0:Int)<64))→w36=wz∧w47=wz):=hat
 have e8:(if ((some (Rat.divInt 1 8)).isSome=true∧(some (Rat.divInt 0 1)).isSome=true) then (if (-0x100000≤(32:Int)∧(32:Int)≤0x100000∧ -0x100000≤(32:Int)∧(32:Int)≤0x100000∧0≤(2:Int)∧(2:Int)<64∧0≤(0:Int)∧(0:Int)<64) then 0 else 2) else 1:Int)=0:=by decide +kernel
 rw [e8]
 have e9:(decide (((some (Rat.divInt 1 8)).isSome=true∧(some (Rat.divInt 0 1)).isSome=true)∧(-0x100000≤(32:Int)∧(32:Int)≤0x100000∧ -0x100000≤(32:Int)∧(32:Int)≤0x100000∧0≤(2:Int)∧(2:Int)<64∧0≤(0:Int)∧(0:Int)<64)):Bool)=true:=by decide +kernel
 rw [e9]
 have e10:((if ((some (Rat.divInt 1 8)).isSome=true∧(some (Rat.divInt 0 1)).isSome=true)∧(-0x100000≤(32:Int)∧(32:Int)≤0x100000∧ -0x100000≤(32:Int)∧(32:Int)≤0x100000∧0≤(2:Int)∧(2:Int)<64∧0≤(0:Int)∧(0:Int)<64) then (Rd.gn ((some (Rat.divInt 1 8)).getD 0) ((some (Rat.divInt 0 1)).getD 0) 32 32 2 0) else 0):Rat)=(Rat.divInt 3 2):=by decide +kernel
 rw [e10]
 refine e_mv rfl<|e_p (zp rfl rfl)<|e_p (zp rfl rfl)<|zL rfl rfl (zw zr28 rfl) (fun b11=> ?_)
 refine zl 0 rfl rfl rfl rfl rfl sz28 rfl (.t4 .nil) .z<|e_p (zb rfl)<|zh<|zc<|zf<|za<|e_ru (zd 1 ty30 rfl rfl (.t8 (.t2 .nil)))<|zsa rfl rfl (zS (enc:=fun z:Int=>[ya yb z]) (ok:=InK .i64) (h1:=fun _=>rfl) (h2:=fun _=>rfl) (k:=3) yd inf3 rfl dd dd dd (.c (x:=5) rfl rfl (fun _ _=>by exact zE.2 om) (.c (x:=5) rfl rfl (fun _ _=>by exact zE.2 om) (.c (x:=5) rfl rfl (fun _ _=>by exact zE.2 om) .n)))) (fun b12 _=> ?_)
 refine e_p (zM zr44 rfl ye (.c sz3 (.c sz3 (.c sz3 (.c sz42 .n)))) (.c rfl (.c rfl (.c rfl (.c rfl .n)))) (.c rfl rfl rfl (.take .nil) (.c rfl rfl rfl (.skip (.take .nil)) (.c rfl rfl rfl (.s2 (.take .nil)) (.c rfl rfl rfl (.s2 (.skip (.take .nil))) .n)))))<|zha 0 rfl .z<|zv rfl rfl (.c rfl (.c rfl .n)) ce21 (zke (cx:=32) (cy:=32) (u1:=w31) (v1:=w42) (x1:=(some (Rat.divInt 1 8))) (u2:=w33) (v2:=w44) (x2:=(some (Rat.divInt 0 1))) (w:=3) (h:=1) (m:=100) (p:=some ⟨b12,0,none⟩) (n:=3) (cap:=3) (l:=[5,5,5]) (hq1:=by decide +kernel) (hq2:=by decide +kernel) (hn:=by rfl)) (.c (j:=3) rfl (.c (j:=2) rfl (.c (j:=0) rfl .n))) ?_
 rintro ⟨p313,c314,oc⟩ hco
 dsimp only [aq,nq,cq]
 replace hco:((if Bl.rok 3 1 100 ([5,5,5]) then Rd.ckC (some (Rat.divInt 1 8)) (some (Rat.divInt 0 1)) 32 32 3 1 else 1)=0→oc=Rd.out ([5,5,5]) (Rd.cor ((some (Rat.divInt 1 8)).getD 0) ((some (Rat.divInt 0 1)).getD 0) 32 32 ((3:Int).toNat) 100 ([5,5,5])))∧((if Bl.rok 3 1 100 ([5,5,5]) then Rd.ckC (some (Rat.divInt 1 8)) (some (Rat.divInt 0 1)) 32 32 3 1 else 1)≠0→oc=[]):=hco
 have hc0:=Rd.kn_co
 have e15:(if Bl.rok 3 1 100 ([5,5,5]) then Rd.ckC (some (Rat.divInt 1 8)) (some (Rat.divInt 0 1)) 32 32 3 1 else 1:Int)=0:=by exact hc0
 rw [e15]
 have e16:oc=([5,6,8]:List Int):=by (rw [hco.1 hc0];exact Rd.kn_out)
 subst e16
 refine e_mv rfl<|e_p (zp rfl rfl)<|e_p (zp rfl rfl)<|zL rfl rfl (zw zr44 rfl) (fun b17=> ?_)
 refine zl 0 rfl rfl rfl rfl rfl sz44 rfl (.t4 .nil) .z<|e_p (zb rfl)<|zh<|zc<|zf<|za<|zsa rfl rfl (zS (enc:=fun z:Int=>[ya yb z]) (ok:=InK .i64) (h1:=fun _=>rfl) (h2:=fun _=>rfl) (k:=3) yd inf3 rfl dd dd dd (.c (x:=0) rfl rfl (fun _ _=>by exact zE.2 om) (.c (x:=1) rfl rfl (fun _ _=>by exact zE.2 om) (.c (x:=2) rfl rfl (fun _ _=>by exact zE.2 om) .n)))) (fun b18 _=> ?_)
 refine zsa rfl rfl (zS (enc:=fun z:Int=>[ya yb z]) (ok:=InK .i64) (h1:=fun _=>rfl) (h2:=fun _=>rfl) (k:=3) yd inf3 rfl dd dd dd (.c (x:=1) rfl rfl (fun _ _=>by exact zE.2 om) (.c (x:=3) rfl rfl (fun _ _=>by exact zE.2 om) (.c (x:=5) rfl rfl (fun _ _=>by exact zE.2 om) .n)))) (fun b19 _=> ?_)
 refine zha 1 rfl (.s .z)<|zha 0 rfl .z<|zv rfl rfl (.c rfl (.c rfl .n)) ce47 (zCg (p1:=some ⟨b18,0,none⟩) (n1:=3) (c1:=3) (l1:=[0,1,2]) (p2:=some ⟨b19,0,none⟩) (n2:=3) (c2:=3) (l2:=[1,3,5]) (hn1:=by rfl) (hn2:=by rfl) (hnn:=by rfl) (hn9:=dd) (hl1:=by exact Rd.kn_a) (hl2:=by exact Rd.kn_b) (hdg:=by exact Rd.kn_fd)) (.c (j:=1) rfl (.c (j:=0) rfl .n)) ?_
 rintro ⟨w320,w421,w522,w623⟩ -
 dsimp only [aq,nq,cq]
 have e24:((Rat.divInt (Rd.sI (Rd.lg ([1,3,5])) 3) ((3:Nat):Int) - Rat.divInt (((3:Nat):Int)*(Rd.sI (fun jj=>Rd.lg ([0,1,2]) jj*Rd.lg ([1,3,5]) jj) 3) - (Rd.sI (Rd.lg ([0,1,2])) 3)*(Rd.sI (Rd.lg ([1,3,5])) 3)) (((3:Nat):Int)*(Rd.sI (fun jj=>Rd.lg ([0,1,2]) jj*Rd.lg ([0,1,2]) jj) 3) - (Rd.sI (Rd.lg ([0,1,2])) 3)*(Rd.sI (Rd.lg ([0,1,2])) 3))*Rat.divInt (Rd.sI (Rd.lg ([0,1,2])) 3) ((3:Nat):Int)):Rat)=(Rat.divInt 1 1):=by rw [Rd.kn_f1];exact Rd.kn_f2
 rw [e24]
 have e25:((Rat.divInt (((3:Nat):Int)*(Rd.sI (fun jj=>Rd.lg ([0,1,2]) jj*Rd.lg ([1,3,5]) jj) 3) - (Rd.sI (Rd.lg ([0,1,2])) 3)*(Rd.sI (Rd.lg ([1,3,5])) 3)) (((3:Nat):Int)*(Rd.sI (fun jj=>Rd.lg ([0,1,2]) jj*Rd.lg ([0,1,2]) jj) 3) - (Rd.sI (Rd.lg ([0,1,2])) 3)*(Rd.sI (Rd.lg ([0,1,2])) 3))):Rat)=(Rat.divInt 2 1):=by exact Rd.kn_f1
 rw [e25]
 refine e_mv rfl<|e_p (zp rfl rfl)<|e_p (zp rfl rfl)<|e_p (zp rfl rfl)<|zL rfl rfl (zw zr28 rfl) (fun b26=> ?_)
 refine zL rfl rfl (zw zr28 rfl) (fun b27=> ?_)
 refine zl 1 rfl rfl rfl rfl rfl sz28 rfl (.t4 .nil) (.s .z)<|zl 0 rfl rfl rfl rfl rfl sz28 rfl (.t4 .nil) .z<|e_p (zb rfl)<|zh<|zc<|zf<|za<|e_p (zM zr68 rfl yf (.c sz3 (.c sz3 (.c sz3 (.c sz3 .n)))) (.c rfl (.c rfl (.c rfl (.c rfl .n)))) (.c rfl rfl rfl (.take .nil) (.c rfl rfl rfl (.skip (.take .nil)) (.c rfl rfl rfl (.s2 (.take .nil)) (.c rfl rfl rfl (.s2 (.skip (.take .nil))) .n)))))<|zsa rfl rfl (zS (enc:=fun z:Cm=>[ya yb z.a,ya yb z.b,ya yb z.d,ya yb z.w]) (ok:=okC .i64) (h1:=fun _=>rfl) (h2:=fun _=>rfl) (k:=1) yh inf68 rfl dd dd dd (.c (x:=(⟨0,1,6,1⟩:Cm)) rfl rfl (fun _ _=>by exact ⟨zE.2 (by first|omega|decide|(dsimp only;omega)),zE.2 (by first|omega|decide|(dsimp only;omega)),zE.2 (by first|omega|decide|(dsimp only;omega)),zE.2 (by first|omega|decide|(dsimp only;omega))⟩) .n)) (fun b28 _=> ?_)
 refine zha 0 rfl .z<|zv rfl rfl (.c rfl (.c rfl .n)) ce31 (zle (ni:=2) (pL:=some ⟨b28,0,none⟩) (nL:=1) (cL:=1) (L:=[(⟨0,1,6,1⟩:Cm)]) (hnL:=by rfl) (hsm:=by exact fun _=>by decide)) (.c (j:=0) rfl .n) ?_
 rintro ⟨p329,c330,so⟩ hof
 dsimp only [aq,nq,cq]
 replace hof:(Rd.offC 2 ([(⟨0,1,6,1⟩:Cm)])=0→so.length=(2:Int).toNat∧Rd.Lv (2:Int).toNat ([(⟨0,1,6,1⟩:Cm)]) (fun c=>so.getD c 0)∧(∀c,Big.hq (so.getD c 0)≤200000))∧(Rd.offC 2 ([(⟨0,1,6,1⟩:Cm)])≠0→so=[]):=hof
 have hf0:Rd.offC 2 [(⟨0,1,6,1⟩:Cm)]=0:=by decide
 have e31:(Rd.offC 2 ([(⟨0,1,6,1⟩:Cm)]):Int)=0:=by exact hf0
 rw [e31]
 have e32:so=([Rat.divInt 3 1,Rat.divInt (-3) 1]:List Rat):=by exact Rd.kn_off (hof.1 hf0).1 (hof.1 hf0).2.1
 subst e32
 refine e_mv rfl<|e_p (zp rfl rfl)<|e_p (zp rfl rfl)<|e_p (zb rfl)<|e_p (zb rfl)<|zh<|zc<|zf<|za<|zsa rfl rfl (zS (enc:=fun z:Int=>[ya yb z]) (ok:=InK .i64) (h1:=fun _=>rfl) (h2:=fun _=>rfl) (k:=3) yd inf3 rfl dd dd dd (.c (x:=2) rfl rfl (fun _ _=>by exact zE.2 om) (.c (x:=0) rfl rfl (fun _ _=>by exact zE.2 om) (.c (x:=2) rfl rfl (fun _ _=>by exact zE.2 om) .n)))) (fun b33 _=> ?_)
 refine zsa rfl rfl (zS (enc:=fun z:Int=>[ya yb z]) (ok:=InK .i64) (h1:=fun _=>rfl) (h2:=fun _=>rfl) (k:=3) yd inf3 rfl dd dd dd (.c (x:=1) rfl rfl (fun _ _=>by exact zE.2 om) (.c (x:=1) rfl rfl (fun _ _=>by exact zE.2 om) (.c (x:=2) rfl rfl (fun _ _=>by exact zE.2 om) .n)))) (fun b34 _=> ?_)
 refine zha 1 rfl (.s .z)<|zha 0 rfl .z<|zv rfl rfl (.c rfl (.c rfl .n)) ce38 (zJf (p1:=some ⟨b33,0,none⟩) (n1:=3) (c1:=3) (l1:=[2,0,2]) (p2:=some ⟨b34,0,none⟩) (n2:=3) (c2:=3) (l2:=[1,1,2]) (hn1:=by rfl) (hn2:=by rfl)) (.c (j:=1) rfl (.c (j:=0) rfl .n)) ?_
 rintro ⟨p335,c336,ot⟩ htb
 dsimp only [aq,nq,cq]
 replace htb:((Rd.tbC ([2,0,2]) ([1,1,2]))=0→Rd.Tb ([2,0,2]) ([1,1,2]) ot)∧((Rd.tbC ([2,0,2]) ([1,1,2]))≠0→ot=[]):=htb
 have ht0:Rd.tbC [2,0,2] [1,1,2]=0:=by decide +kernel
 have e37:(Rd.tbC ([2,0,2]) ([1,1,2]):Int)=0:=by exact ht0
 rw [e37]
 have e38:ot=([1,1,2]:List Int):=by exact (htb.1 ht0).uniq Rd.kn_tab
 subst e38
 refine e_mv rfl<|e_p (zp rfl rfl)<|e_p (zp rfl rfl)<|e_p (zb rfl)<|e_p (zb rfl)<|zh<|zc<|zBa (X:=Unit) (fun x=>True) (fun x=>[(0,.bool true)]) (fun x=>[boxA b27 28 (cw [w522,w623]),boxA b26 28 (cw [w320,w421]),boxA b17 44 [ya yb (if 0=0 then 3 else 0),ya yb (if 0=0 then 1 else 0),ya yb (if 0=0 then 100 else 0),.slice p313 (([5,6,8]:List Int).length) c314],boxA b11 28 (cw [w36,w47]),boxA b5 30 [ya yb 32,ya yb 32,w31.b,w31.l,w42.b,w42.l,w33.b,w33.l,w44.b,w44.l]]) (fun x=>[slF (rI .i64) p335 c336 ([1,1,2]:List Int),slF (rI .i64) (some ⟨b34,0,none⟩) 3 ([1,1,2]),slF (rI .i64) (some ⟨b33,0,none⟩) 3 ([2,0,2]),slF rQ p329 c330 ([Rat.divInt 3 1,Rat.divInt (-3) 1]:List Rat),slF (rI4 .i64) (some ⟨b28,0,none⟩) 1 ([(⟨0,1,6,1⟩:Cm)]),qF true w320 w421 (Rat.divInt 2 1),qF true w522 w623 (Rat.divInt 1 1),slF (rI .i64) (some ⟨b19,0,none⟩) 3 ([1,3,5]),slF (rI .i64) (some ⟨b18,0,none⟩) 3 ([0,1,2]),slF (rI .i64) p313 c314 ([5,6,8]:List Int),slF (rI .i64) (some ⟨b12,0,none⟩) 3 ([5,5,5]),qF true w36 w47 (Rat.divInt 3 2),eF w33 w44 (some (Rat.divInt 0 1)),eF w31 w42 (some (Rat.divInt 1 8)),qF true w33 w44 (Rat.divInt 0 1),qF true w31 w42 (Rat.divInt 1 8)]) ?_ ?_
 ·
  refine zaa (OW:=[]) (O:=[emA,emA,emA,boxA b27 28 (cw [w522,w623]),boxA b26 28 (cw [w320,w421]),emA,emA,boxA b17 44 [ya yb (if 0=0 then 3 else 0),ya yb (if 0=0 then 1 else 0),ya yb (if 0=0 then 100 else 0),.slice p313 (([5,6,8]:List Int).length) c314],emA,boxA b11 28 (cw [w36,w47]),boxA b5 30 [ya yb 32,ya yb 32,w31.b,w31.l,w42.b,w42.l,w33.b,w33.l,w44.b,w44.l]]) 100000 mixed (.then .ret) kr<|e_dm 0 rfl rfl rfl<|e_dm 1 rfl rfl rfl<|e_pv 2 rfl rfl (zH (z:=0) rfl rfl (w64 dd))<|e_dm 3 rfl rfl rfl<|e_pv 4 rfl rfl (zH (z:=0) rfl rfl (w64 dd))<|e_dm 5 rfl rfl rfl<|e_pv 6 rfl rfl (zH (z:=0) rfl rfl (w64 dd))<|e_dm 7 rfl rfl rfl<|e_pv 8 rfl rfl (zH (z:=0) rfl rfl (w64 dd))<|e_pv 9 rfl rfl (zua rfl rfl) ?_
  rw [show true=true from by decide]
  refine e_dm 10 rfl rfl rfl<|e_u 11 rfl rfl (zd 9 ty28 rfl rfl (.t4 .nil))<|e_one 12 (zC rfl rfl rfl rfl (.c rfl (.c rfl .n)) ce25 (zUb (z1:=3) (z2:=2) (hz1:=by first|rfl|decide|omega|(decide +kernel)) (hz2:=by first|rfl|decide|omega|(decide +kernel)) (hy:=by first|rfl|decide|omega|(decide +kernel))) (.n) ?_)
  rintro ⟨w339,w440⟩ -
  dsimp only [aq,nq,cq]
  refine e_one 13 (zGa rfl rfl rfl rfl (.c rfl (.c rfl .n)) ce18 (zKb (u1:=w36) (v1:=w47) (q1:=(Rat.divInt 3 2)) (u2:=w339) (v2:=w440) (q2:=Rat.divInt 3 2) (hl:=by first|rfl|decide|omega|(decide +kernel))) (.c (j:=12) rfl (.c (j:=0) rfl .n)) ?_)
  rw [show (decide ((Rat.divInt 3 2)=(Rat.divInt 3 2)))=true from by exact decide_eq_true rfl]
  refine e_pv 14 rfl rfl (zk rfl rfl)<|e_dm 15 rfl rfl rfl<|e_pv 16 rfl rfl (zg ye rfl sz42 rfl rfl)<|e_u 17 rfl rfl (ze 7 ty42 rfl rfl rfl)<|e_pv 18 rfl rfl (zB yd rfl)<|e_pv 19 rfl rfl (zua rfl rfl) ?_
  rw [show (decide (((([5,6,8]:List Int).length:Nat):Int)=3))=true from by decide]
  refine e_pv 20 rfl rfl (zk rfl rfl)<|e_dm 21 rfl rfl rfl<|e_pv 22 rfl rfl (zg ye rfl sz42 rfl rfl)<|e_u 23 rfl rfl (ze 7 ty42 rfl rfl rfl)<|zia (x0:=(([5,6,8]:List Int).getD 2 0)) 24 rfl rfl kr kr 10 2 rfl yd sz3 rfl rfl rfl cbo rfl rfl (gD (d:=0) (by first|omega|decide)) (fun b41 o42 hok43=> ?_)
  replace hok43:=zE.1 hok43
  refine e_u 25 rfl rfl (zi (j:=0) 0 ty3 rfl rfl rfl rfl)<|e_pv 26 rfl rfl (zua rfl rfl) ?_
  rw [show (decide ((([5,6,8]:List Int).getD 2 0)=8))=true from by decide]
  refine e_pv 27 rfl rfl (zk rfl rfl)<|e_dm 28 rfl rfl rfl<|e_u 29 rfl rfl (zd 4 ty28 rfl rfl (.t4 .nil))<|e_one 30 (zC rfl rfl rfl rfl (.c rfl (.c rfl .n)) ce25 (zUb (z1:=2) (z2:=1) (hz1:=by first|rfl|decide|omega|(decide +kernel)) (hz2:=by first|rfl|decide|omega|(decide +kernel)) (hy:=by first|rfl|decide|omega|(decide +kernel))) (.n) ?_)
  rintro ⟨w344,w445⟩ -
  dsimp only [aq,nq,cq]
  refine e_one 31 (zGa rfl rfl rfl rfl (.c rfl (.c rfl .n)) ce18 (zKb (u1:=w320) (v1:=w421) (q1:=(Rat.divInt 2 1)) (u2:=w344) (v2:=w445) (q2:=Rat.divInt 2 1) (hl:=by first|rfl|decide|omega|(decide +kernel))) (.c (j:=8) rfl (.c (j:=0) rfl .n)) ?_)
  rw [show (decide ((Rat.divInt 2 1)=(Rat.divInt 2 1)))=true from by exact decide_eq_true rfl]
  refine e_pv 32 rfl rfl (zk rfl rfl)<|e_dm 33 rfl rfl rfl<|e_u 34 rfl rfl (zd 3 ty28 rfl rfl (.t4 .nil))<|e_one 35 (zC rfl rfl rfl rfl (.c rfl (.c rfl .n)) ce25 (zUb (z1:=1) (z2:=1) (hz1:=by first|rfl|decide|omega|(decide +kernel)) (hz2:=by first|rfl|decide|omega|(decide +kernel)) (hy:=by first|rfl|decide|omega|(decide +kernel))) (.n) ?_)
  rintro ⟨w346,w447⟩ -
  dsimp only [aq,nq,cq]
  refine e_one 36 (zGa rfl rfl rfl rfl (.c rfl (.c rfl .n)) ce18 (zKb (u1:=w522) (v1:=w623) (q1:=(Rat.divInt 1 1)) (u2:=w346) (v2:=w447) (q2:=Rat.divInt 1 1) (hl:=by first|rfl|decide|omega|(decide +kernel))) (.c (j:=10) rfl (.c (j:=0) rfl .n)) ?_)
  rw [show (decide ((Rat.divInt 1 1)=(Rat.divInt 1 1)))=true from by exact decide_eq_true rfl]
  refine e_pv 37 rfl rfl (zk rfl rfl)<|e_dm 38 rfl rfl rfl<|e_dm 39 rfl rfl rfl<|e_one 40 (zC rfl rfl rfl rfl (.c rfl (.c rfl .n)) ce25 (zUb (z1:=3) (z2:=1) (hz1:=by first|rfl|decide|omega|(decide +kernel)) (hz2:=by first|rfl|decide|omega|(decide +kernel)) (hy:=by first|rfl|decide|omega|(decide +kernel))) (.n) ?_)
  rintro ⟨w348,w449⟩ -
  dsimp only [aq,nq,cq]
  refine e_one 41 (zC rfl rfl rfl rfl (.c rfl (.c rfl .n)) ce25 (zUb (z1:=(-3)) (z2:=1) (hz1:=by first|rfl|decide|omega|(decide +kernel)) (hz2:=by first|rfl|decide|omega|(decide +kernel)) (hy:=by first|rfl|decide|omega|(decide +kernel))) (.n) ?_)
  rintro ⟨w350,w451⟩ -
  dsimp only [aq,nq,cq]
  refine e_one 42 (zMf rfl rfl rfl rfl (zXa (r:=rQ) (k:=2) yn inf28 rfl dd dd dd (.c (x:=(Rat.divInt 3 1)) (cs:=[w348.b,w348.l,w449.b,w449.l]) (w348,w449) rfl rfl rfl (fun g hr=>Holds.get 1 rfl hr) (.c (x:=(Rat.divInt (-3) 1)) (cs:=[w350.b,w350.l,w451.b,w451.l]) (w350,w451) rfl rfl rfl (fun g hr=>Holds.get 0 rfl hr) .n))) (fun b52 _=> ?_))
  refine zxc 0 rfl .z<|e_one 43 (zGa rfl rfl rfl rfl (.c rfl (.c rfl .n)) ce48 (ztd (p1:=p329) (n1:=([Rat.divInt 3 1,Rat.divInt (-3) 1]:List Rat).length) (c1:=c330) (l1:=([Rat.divInt 3 1,Rat.divInt (-3) 1]:List Rat)) (p2:=some ⟨b52,0,none⟩) (n2:=2) (c2:=2) (l2:=[(Rat.divInt 3 1),(Rat.divInt (-3) 1)]) (hn1:=by first|rfl|decide|omega|(decide +kernel)) (hn2:=by first|rfl|decide|omega|(decide +kernel)) (hl:=by first|rfl|decide|omega|(decide +kernel))) (.c (j:=10) rfl (.c (j:=0) rfl .n)) ?_)
  rw [show (decide (([Rat.divInt 3 1,Rat.divInt (-3) 1]:List Rat)=([(Rat.divInt 3 1),(Rat.divInt (-3) 1)])))=true from by exact decide_eq_true rfl]
  refine e_pv 44 rfl rfl (zk rfl rfl)<|e_dm 45 rfl rfl rfl<|e_dm 46 rfl rfl rfl<|e_one 47 (zMf rfl rfl rfl rfl (zS (enc:=fun z:Int=>[ya yb z]) (ok:=InK .i64) (h1:=fun _=>rfl) (h2:=fun _=>rfl) (k:=3) yd inf3 rfl dd dd dd (.c (x:=1) rfl rfl (fun _ _=>by exact zE.2 om) (.c (x:=1) rfl rfl (fun _ _=>by exact zE.2 om) (.c (x:=2) rfl rfl (fun _ _=>by exact zE.2 om) .n)))) (fun b53 _=> ?_))
  refine zxc 0 rfl .z<|e_one 48 (zGa rfl rfl rfl rfl (.c rfl (.c rfl .n)) ce40 (zIf (p1:=p335) (n1:=([1,1,2]:List Int).length) (c1:=c336) (l1:=([1,1,2]:List Int)) (p2:=some ⟨b53,0,none⟩) (n2:=3) (c2:=3) (l2:=[1,1,2]) (hn1:=by first|rfl|decide|omega|(decide +kernel)) (hn2:=by first|rfl|decide|omega|(decide +kernel))) (.c (j:=8) rfl (.c (j:=0) rfl .n)) ?_)
  rw [show (decide (([1,1,2]:List Int)=([1,1,2])))=true from by exact decide_eq_true rfl]
  refine e_pv 49 rfl rfl (zk rfl rfl)<|e_pv 50 rfl rfl (zb rfl)<|zZ kr ?_
  exact zda () (show True from by first|trivial|omega|simp_all) ((.c rfl .n):SubM _ _) (ho:=((.of [5,5,7,8,8] rfl):PickO _ _ _)) ((.of [8,9,10,11,12,13,14,15,16,17,18,19,20,21,22,23] rfl):SelR _ _ _)
 ·
  rintro ⟨⟩ -
  try dsimp only [cw]
  refine zI ?_
  exact zy Tryz.results10 () trivial (zo rfl) rfl (ho:=(.n:PickO _ _ _)) (.n:SelR _ _ _)
end Go.Proofs.YtkohlohbogpooaaGreat.Sp
namespace Go.Proofs.YtkohlohbogpooaaGreat.Sp
open Go
set_option linter.unusedVariables false
set_option maxRecDepth 100000
set_option maxHeartbeats 400000
theorem zdd {w:Int} {h:Int} {m:Int} {p:Option Addr} {n:Nat} {cap:Nat} {l:List Int} (hn:l.length=n):Con yl 20 [.agg #[ya yb w,ya yb h,ya yb m,.slice p n cap]] [] [slF (rI .i64) p cap l] (Y:=Unit) (fun y=>True) (fun y=> .bool (decide (((n:Nat):Int)≤100∧(¬Bl.rok w h m l∨w≤8∧h≤8)))) (fun y=>[]) (fun y=>[]):=by
 refine zn Tryz.func20 rfl rfl rfl (fun c=> ?_)
 show RunC _ _ _ _ _ [(0,.agg #[ya yb w,ya yb h,ya yb m,.slice p n cap])] [] [slF (rI .i64) p cap l]
 refine zY 0 rfl (fun hL0=> ?_)
 refine zf<|za<|zL rfl rfl (zX rfl rfl) (fun b1=> ?_)
 refine e_p (zb rfl)<|zh<|zc<|zBa (X:=Unit) (fun x=>True) (fun x=>[(2,.bool (decide (((n:Nat):Int)≤100∧(¬Bl.rok w h m l∨w≤8∧h≤8))))]) (fun x=>[boxA b1 44 [ya yb w,ya yb h,ya yb m,.slice p n cap]]) (fun x=>[slF (rI .i64) p cap l]) ?_ ?_
 ·
  refine za<|e_p (zg ye rfl sz42 rfl rfl)<|e_ru (ze 0 ty42 rfl rfl rfl)<|e_p (zB yd rfl)<|e_p (zlc rfl rfl)<|zR rfl rfl (zV rfl) (fun h2=> ?_) (fun h2=> ?_)
  ·
   refine e_ru (zd 0 ty44 rfl rfl (.t4 .nil))<|zQ rfl rfl (.c rfl .n) ce22 (zTb (w:=w) (h:=h) (m:=m) (p:=p) (n:=n) (cap:=cap) (l:=l) (hn:=ass)) (.c (j:=0) rfl .n)<|e_p (zra rfl rfl)<|zR rfl rfl (zV rfl) (fun h3=> ?_) (fun h3=> ?_)
   ·
    refine e_no<|e_no<|e_no<|e_no<|e_no<|e_no<|e_no<|e_no<|e_p (zk rfl rfl)<|e_p (zk rfl rfl)<|e_p (zb rfl)<|zh ?_
    exact zda () (show True from by first|trivial|omega|simp_all) ((.e rfl (congrArg Value.bool (by first|(by_cases hk:Bl.rok w h m l <;> simp_all;done)|(by_cases hk:Bl.rok w h m l <;> simp_all <;> omega))) .n):SubM _ _) (ho:=((.c (i:=0) rfl .n):PickO _ _ _)) ((.c (j:=0) rfl .n):SelR _ _ _)
   ·
    refine e_p (zg ye rfl sz3 rfl rfl)<|e_ru (ze 0 ty3 rfl rfl rfl)<|e_p (zlc rfl rfl)<|zR rfl rfl (zV rfl) (fun h4=> ?_) (fun h4=> ?_)
    ·
     refine e_p (zg ye rfl sz3 rfl rfl)<|e_ru (ze 0 ty3 rfl rfl rfl)<|e_p (zlc rfl rfl)<|e_p (zk rfl rfl)<|e_p (zk rfl rfl)<|e_p (zk rfl rfl)<|e_p (zb rfl)<|zh ?_
     exact zda () (show True from by first|trivial|omega|simp_all) ((.e rfl (congrArg Value.bool (by first|(by_cases hk:Bl.rok w h m l <;> simp_all;done)|(by_cases hk:Bl.rok w h m l <;> simp_all <;> omega))) .n):SubM _ _) (ho:=((.c (i:=0) rfl .n):PickO _ _ _)) ((.c (j:=0) rfl .n):SelR _ _ _)
    ·
     refine e_no<|e_no<|e_no<|e_p (zk rfl rfl)<|e_p (zk rfl rfl)<|e_p (zk rfl rfl)<|e_p (zb rfl)<|zh ?_
     exact zda () (show True from by first|trivial|omega|simp_all) ((.e rfl (congrArg Value.bool (by first|(by_cases hk:Bl.rok w h m l <;> simp_all;done)|(by_cases hk:Bl.rok w h m l <;> simp_all <;> omega))) .n):SubM _ _) (ho:=((.c (i:=0) rfl .n):PickO _ _ _)) ((.c (j:=0) rfl .n):SelR _ _ _)
  ·
   refine e_no<|e_no<|e_no<|e_no<|e_no<|e_no<|e_no<|e_no<|e_no<|e_no<|e_no<|e_no<|e_no<|e_p (zk rfl rfl)<|e_p (zb rfl)<|zh ?_
   exact zda () (show True from by first|trivial|omega|simp_all) ((.e rfl (congrArg Value.bool (by first|(by_cases hk:Bl.rok w h m l <;> simp_all;done)|(by_cases hk:Bl.rok w h m l <;> simp_all <;> omega))) .n):SubM _ _) (ho:=((.c (i:=0) rfl .n):PickO _ _ _)) ((.c (j:=0) rfl .n):SelR _ _ _)
 ·
  rintro ⟨⟩ -
  try dsimp only
  refine zI ?_
  exact zy Tryz.results20 () trivial (zo rfl) rfl (ho:=(.n:PickO _ _ _)) (.n:SelR _ _ _)
end Go.Proofs.YtkohlohbogpooaaGreat.Sp
namespace Go.Proofs.YtkohlohbogpooaaGreat.Rd
open Big
set_option linter.unusedVariables false
def fd (ld lf:List Int) (i:Nat):Int:=lf.getD i 0 - ld.getD i 0
def posA (l ld lf:List Int):Prop:=∀i,i<l.length→0<fd ld lf i
instance (l ld lf:List Int):Decidable (posA l ld lf):=inferInstanceAs (Decidable (∀i,i<l.length→0<fd ld lf i))
def same4 (w h wd hd wf hf:Int):Prop:=wd=w∧hd=h∧wf=w∧hf=h
instance (w h wd hd wf hf:Int):Decidable (same4 w h wd hd wf hf):=inferInstanceAs (Decidable (_∧_))
def flC (w h m:Int) (l:List Int) (wd hd md:Int) (ld:List Int) (wf hf mf:Int) (lf:List Int):Int:=
  if Bl.rok w h m l∧Bl.rok wd hd md ld∧Bl.rok wf hf mf lf then (if same4 w h wd hd wf hf then (if posA l ld lf then 0 else 13) else 4) else 1
section
variable {w h m wd hd md wf hf mf : Int} {l ld lf : List Int}
theorem flC_1 (k:¬(Bl.rok w h m l∧Bl.rok wd hd md ld∧Bl.rok wf hf mf lf)):flC w h m l wd hd md ld wf hf mf lf=1:=if_neg k
theorem flC_4 (k:Bl.rok w h m l∧Bl.rok wd hd md ld∧Bl.rok wf hf mf lf) (k2:¬same4 w h wd hd wf hf):flC w h m l wd hd md ld wf hf mf lf=4:=by unfold flC;rw [if_pos k,if_neg k2]
theorem flC_13 (k:Bl.rok w h m l∧Bl.rok wd hd md ld∧Bl.rok wf hf mf lf) (k2:same4 w h wd hd wf hf) (k3:¬posA l ld lf):flC w h m l wd hd md ld wf hf mf lf=13:=by unfold flC;rw [if_pos k,if_pos k2,if_neg k3]
theorem flC_0 (k:Bl.rok w h m l∧Bl.rok wd hd md ld∧Bl.rok wf hf mf lf) (k2:same4 w h wd hd wf hf) (k3:posA l ld lf):flC w h m l wd hd md ld wf hf mf lf=0:=by unfold flC;rw [if_pos k,if_pos k2,if_pos k3]
def mn (l ld lf:List Int):Rat:=Rat.divInt (sI (fd ld lf) l.length) ((l.length:Nat):Int)
def flv (m:Int) (l ld lf:List Int) (i:Nat):Int:=gr (Rat.divInt (l.getD i 0 - ld.getD i 0) (fd ld lf i)*mn l ld lf) m
theorem divInt_le {a b K:Int} (hb:0<b) (h:a≤K*b):Rat.divInt a b≤(K:Rat):=by
  have e:Rat.divInt (K*b) b=(K:Rat):=by
    rw [int_div,Rat.divInt_eq_divInt_iff (by omega) (by decide)];grind
  have e2:(K:Rat) - Rat.divInt a b=Rat.divInt (K*b - a) b:=by
    rw [← e,Rat.divInt_sub_divInt _ _ (by omega) (by omega),Rat.divInt_eq_divInt_iff (by have:=Int.mul_pos hb hb;omega) (by omega)]
    grind
  have h3:0≤Rat.divInt (K*b - a) b:=Rat.divInt_nonneg (by omega) (by omega)
  rw [← e2] at h3
  grind
theorem le_divInt {a b K:Int} (hb:0<b) (h:K*b≤a):(K:Rat)≤Rat.divInt a b:=by
  have e:Rat.divInt (K*b) b=(K:Rat):=by
    rw [int_div,Rat.divInt_eq_divInt_iff (by omega) (by decide)];grind
  have e2:Rat.divInt a b - (K:Rat)=Rat.divInt (a - K*b) b:=by
    rw [← e,Rat.divInt_sub_divInt _ _ (by omega) (by omega),Rat.divInt_eq_divInt_iff (by have:=Int.mul_pos hb hb;omega) (by omega)]
    grind
  have h3:0≤Rat.divInt (a - K*b) b:=Rat.divInt_nonneg (by omega) (by omega)
  rw [← e2] at h3
  grind
theorem fl_flat {a b s n:Int} (ha: -65535≤a∧a≤65535) (hb:0<b) (hn:0<n) (hs:0≤s∧s≤65535*n):fl (Rat.divInt a b*Rat.divInt s n)≤999999999999999999:=by
  have h1:Rat.divInt a b≤((65535:Int):Rat):=divInt_le hb (by omega)
  have h2:((0:Int):Rat)≤Rat.divInt s n:=le_divInt hn (by omega)
  have h3:Rat.divInt s n≤((65535:Int):Rat):=divInt_le hn (by omega)
  have e0:((0:Int):Rat)=0:=rfl
  have e1:((65535:Int):Rat)=65535:=rfl
  have e2:((999999999999999999:Int):Rat)=999999999999999999:=rfl
  rw [e1] at h1 h3
  rw [e0] at h2
  refine fl_le ?_
  rw [e2]
  have a1:=Rat.mul_nonneg (show 0≤65535 - Rat.divInt a b by grind) h2
  grind
theorem flv_const {m:Int} {l ld lf:List Int} {k:Int} {i:Nat} (hp:0<fd ld lf i) (h:l.getD i 0=ld.getD i 0+fd ld lf i*k):flv m l ld lf i=gr ((k:Rat)*mn l ld lf) m:=by
  unfold flv
  have:Rat.divInt (l.getD i 0 - ld.getD i 0) (fd ld lf i)=(k:Rat):=by
    rw [int_div,Rat.divInt_eq_divInt_iff (by omega) (by decide),h];grind
  rw [this]
theorem mul_k {a k:Int} (ha: -65535≤a∧a≤65535) (hk:0≤k∧k≤255): -16711425≤a*k∧a*k≤16711425:=by
  have h1:0≤(65535 - a)*k:=Int.mul_nonneg (by omega) hk.1
  have h2:0≤(a+65535)*k:=Int.mul_nonneg (by omega) hk.1
  rw [Int.sub_mul] at h1
  rw [Int.add_mul] at h2
  omega
theorem height_eq {w h h2:Int} (hw:0<w) (e:w*h=w*h2):h=h2:=Int.eq_of_mul_eq_mul_left (by omega) e
structure Mk (k:Int) (ld lf o:List Int) (i:Nat):Prop where
  len:o.length=i
  el:∀j,j<i→0<fd ld lf j∧o.getD j 0=ld.getD j 0+fd ld lf j*k∧0≤o.getD j 0∧o.getD j 0≤65535
theorem Mk.nil (k:Int) (ld lf:List Int):Mk k ld lf [] 0:=⟨rfl,fun j h=>absurd h (Nat.not_lt_zero _)⟩
theorem Mk.snoc {k:Int} {ld lf o:List Int} {i:Nat} (x:Mk k ld lf o i) {v:Int} (h:0<fd ld lf i) (e:v=ld.getD i 0+fd ld lf i*k) (hv:0≤v∧v≤65535):Mk k ld lf (o++[v]) (i+1):=by
  have hl:=x.len
  refine ⟨by rw [List.length_append,hl];rfl,fun j hj=> ?_⟩
  by_cases q:j=i
  · subst q
    have:(o++[v]).getD j 0=v:=by rw [List.getD_eq_getElem?_getD,List.getElem?_append_right (by omega),hl];simp
    rw [this];exact ⟨h,e,hv⟩
  · have : (o ++ [v]).getD j 0 = o.getD j 0 := by rw [List.getD_eq_getElem?_getD, List.getElem?_append_left (by omega), List.getD_eq_getElem?_getD]
    rw [this];exact x.el j (by omega)
theorem Mk.code {k:Int} {ld lf o:List Int} {wd hd md wf hf mf:Int} (x:Mk k ld lf o lf.length) (hD:Bl.rok wd hd md ld) (hF:Bl.rok wf hf mf lf) (hn:ld.length=lf.length) (hw:wd=wf):flC wf hf 65535 o wd hd md ld wf hf mf lf=0:=by
  have hD':=hD
  have hF':=hF
  obtain ⟨a1,a2,a3,a4,a5⟩:=hD
  obtain ⟨b1,b2,b3,b4,b5⟩:=hF
  have hh:hd=hf:=height_eq (w:=wf) (by omega) (by rw [hw] at a4;omega)
  refine flC_0 ⟨⟨b1,b2,by omega,by rw [x.len];exact b4,fun ⟨z,hz,hb⟩=> ?_⟩,hD',hF'⟩ ⟨hw,hh,rfl,rfl⟩ fun i hi=>(x.el i (by rw [x.len] at hi;exact hi)).1
  obtain ⟨j,hj,e⟩:=List.mem_iff_getElem.1 hz
  have h1:=x.el j (by rw [x.len] at hj;exact hj)
  rw [List.getD_eq_getElem?_getD,List.getElem?_eq_getElem hj] at h1
  have:(some o[j]).getD 0=z:=e
  rw [this] at h1
  omega
theorem Mk.const {k:Int} {ld lf o:List Int} (x:Mk k ld lf o lf.length):∀i,i<o.length→(out o (flv 65535 o ld lf)).getD i 0=gr ((k:Rat)*mn o ld lf) 65535:=fun i hi=>by
  rw [out_get hi]
  have:=x.el i (by rw [x.len] at hi;exact hi)
  exact flv_const this.1 this.2.1
end
end Go.Proofs.YtkohlohbogpooaaGreat.Rd
namespace Go.Proofs.YtkohlohbogpooaaGreat.Sp
open Go
set_option linter.unusedVariables false
set_option maxRecDepth 100000
set_option maxHeartbeats 8000000
theorem zdg {w:Int} {h:Int} {m:Int} {p:Option Addr} {n:Nat} {cap:Nat} {l:List Int} {wd:Int} {hd:Int} {md:Int} {pd:Option Addr} {nd:Nat} {cd:Nat} {ld:List Int} {wf:Int} {hf:Int} {mf:Int} {pf:Option Addr} {nf:Nat} {cf:Nat} {lf:List Int} (hzw: -9223372036854775808≤w∧w≤9223372036854775807) (hzh: -9223372036854775808≤h∧h≤9223372036854775807) (hzm: -9223372036854775808≤m∧m≤9223372036854775807) (hzwd: -9223372036854775808≤wd∧wd≤9223372036854775807) (hzhd: -9223372036854775808≤hd∧hd≤9223372036854775807) (hzmd: -9223372036854775808≤md∧md≤9223372036854775807) (hzwf: -9223372036854775808≤wf∧wf≤9223372036854775807) (hzhf: -9223372036854775808≤hf∧hf≤9223372036854775807) (hzmf: -9223372036854775808≤mf∧mf≤9223372036854775807) (hn:l.length=n) (hnd:ld.length=nd) (hnf:lf.length=nf):Con yl 42 [.agg #[ya yb w,ya yb h,ya yb m,.slice p n cap],.agg #[ya yb wd,ya yb hd,ya yb md,.slice pd nd cd],.agg #[ya yb wf,ya yb hf,ya yb mf,.slice pf nf cf]] [] [slF (rI .i64) p cap l,slF (rI .i64) pd cd ld,slF (rI .i64) pf cf lf] (Y:=(Option Addr)×Nat×(List Int)) (fun y=>((Rd.flC w h m l wd hd md ld wf hf mf lf)=0→y.2.2=Rd.out l (Rd.flv m l ld lf))∧((Rd.flC w h m l wd hd md ld wf hf mf lf)≠0→y.2.2=[])) (fun y=> .tuple #[.agg #[ya yb (if (Rd.flC w h m l wd hd md ld wf hf mf lf)=0 then w else 0),ya yb (if (Rd.flC w h m l wd hd md ld wf hf mf lf)=0 then h else 0),ya yb (if (Rd.flC w h m l wd hd md ld wf hf mf lf)=0 then m else 0),.slice (y.1) (y.2.2.length) (y.2.1)],ya yb (Rd.flC w h m l wd hd md ld wf hf mf lf)]) (fun y=>[]) (fun y=>[slF (rI .i64) (y.1) (y.2.1) (y.2.2)]):=by
 refine zn Tryz.func42 rfl rfl rfl (fun c=> ?_)
 show RunC _ _ _ _ _ [(0,.agg #[ya yb w,ya yb h,ya yb m,.slice p n cap]),(1,.agg #[ya yb wd,ya yb hd,ya yb md,.slice pd nd cd]),(2,.agg #[ya yb wf,ya yb hf,ya yb mf,.slice pf nf cf])] [] [slF (rI .i64) p cap l,slF (rI .i64) pd cd ld,slF (rI .i64) pf cf lf]
 refine zY 0 rfl (fun hL0=> ?_)
 refine zY 1 rfl (fun hL1=> ?_)
 refine zY 2 rfl (fun hL2=> ?_)
 refine zf<|za<|zL rfl rfl (zX rfl rfl) (fun b1=> ?_)
 refine zL rfl rfl (zX rfl rfl) (fun b2=> ?_)
 refine zL rfl rfl (zX rfl rfl) (fun b3=> ?_)
 refine zL rfl rfl (zw zr44 rfl) (fun b4=> ?_)
 refine e_p (zb rfl)<|zh<|zc<|zf<|zf<|za<|e_ru (zd 3 ty44 rfl rfl (.t4 .nil))<|e_ru (zd 2 ty44 rfl rfl (.t4 .nil))<|e_ru (zd 1 ty44 rfl rfl (.t4 .nil))<|zsa rfl rfl (zS (enc:=fun z:Gr=>[ya yb z.w,ya yb z.h,ya yb z.m,.slice z.p z.n z.c]) (ok:=okG) (h1:=fun _=>rfl) (h2:=fun _=>rfl) (k:=3) yi inf44 rfl dd dd dd (.c (x:=(⟨w,h,m,p,n,cap⟩:Gr)) rfl rfl (fun _ _=>by exact ⟨zE.2 (by first|omega|decide|(dsimp only;omega)),zE.2 (by first|omega|decide|(dsimp only;omega)),zE.2 (by first|omega|decide|(dsimp only;omega))⟩) (.c (x:=(⟨wd,hd,md,pd,nd,cd⟩:Gr)) rfl rfl (fun _ _=>by exact ⟨zE.2 (by first|omega|decide|(dsimp only;omega)),zE.2 (by first|omega|decide|(dsimp only;omega)),zE.2 (by first|omega|decide|(dsimp only;omega))⟩) (.c (x:=(⟨wf,hf,mf,pf,nf,cf⟩:Gr)) rfl rfl (fun _ _=>by exact ⟨zE.2 (by first|omega|decide|(dsimp only;omega)),zE.2 (by first|omega|decide|(dsimp only;omega)),zE.2 (by first|omega|decide|(dsimp only;omega))⟩) .n)))) (fun b5 _=> ?_)
 refine e_p (zB yi rfl)<|e_mv rfl<|zh<|zc<|zt<|zng<|zid<|zf<|za<|e_p (zT rfl rfl)<|zh<|zc<|zf<|zWb rfl rfl<|zu<|zc<|zf<|zt<|zf<|za<|e_p (zK (j:=0) yi sz44 rfl rfl rfl (by first|omega|(simp;done)))<|r_vl rfl rfl (zib 0 0 rfl ty44 rfl rfl (gD (d:=gr0) (by first|omega|(simp;done)))) (fun _ hok6=> ?_)
 obtain ⟨hok60,hok61,hok62⟩:=hok6
 replace hok60:=zE.1 hok60
 replace hok61:=zE.1 hok61
 replace hok62:=zE.1 hok62
 have e7:(.agg #[ya yb ((([(⟨w,h,m,p,n,cap⟩:Gr),(⟨wd,hd,md,pd,nd,cd⟩:Gr),(⟨wf,hf,mf,pf,nf,cf⟩:Gr)]).getD 0 gr0).w),ya yb ((([(⟨w,h,m,p,n,cap⟩:Gr),(⟨wd,hd,md,pd,nd,cd⟩:Gr),(⟨wf,hf,mf,pf,nf,cf⟩:Gr)]).getD 0 gr0).h),ya yb ((([(⟨w,h,m,p,n,cap⟩:Gr),(⟨wd,hd,md,pd,nd,cd⟩:Gr),(⟨wf,hf,mf,pf,nf,cf⟩:Gr)]).getD 0 gr0).m),.slice ((([(⟨w,h,m,p,n,cap⟩:Gr),(⟨wd,hd,md,pd,nd,cd⟩:Gr),(⟨wf,hf,mf,pf,nf,cf⟩:Gr)]).getD 0 gr0).p) ((([(⟨w,h,m,p,n,cap⟩:Gr),(⟨wd,hd,md,pd,nd,cd⟩:Gr),(⟨wf,hf,mf,pf,nf,cf⟩:Gr)]).getD 0 gr0).n) ((([(⟨w,h,m,p,n,cap⟩:Gr),(⟨wd,hd,md,pd,nd,cd⟩:Gr),(⟨wf,hf,mf,pf,nf,cf⟩:Gr)]).getD 0 gr0).c)]:Value)= .agg #[ya yb w,ya yb h,ya yb m,.slice p n cap]:=rfl
 rw [e7]
 refine zL rfl rfl (zw zr44 rfl) (fun b8=> ?_)
 refine zl 0 rfl rfl rfl rfl rfl sz44 rfl (.t4 .nil) .z<|zh<|zc<|zf<|za<|e_ru (zd 0 ty44 rfl rfl (.t4 .nil))<|zQ rfl rfl (.c rfl .n) ce57 (zLb (w:=w) (h:=h) (m:=m) (p:=p) (n:=n) (cap:=cap) (l:=l) (hn:=ass)) (.c (j:=0) rfl .n)<|e_p (zb rfl)<|zh<|zc<|zf<|za<|e_mv rfl<|e_p (zra rfl rfl)<|zh<|zc<|zx rfl (fun hcc=> ?_) (fun hcc=> ?_)
 ·
  refine zf<|za<|e_p (zM zr44 rfl ye (.c sz3 (.c sz3 (.c sz3 (.c sz42 .n)))) .n .n)<|e_mv rfl<|zl 2 rfl rfl rfl rfl rfl sz44 rfl (.t4 .nil) (.s (.s .z))<|e_p (zb rfl)<|zh<|zc<|zI<|zN<|zm<|zm<|zN<|zm<|zab (rI .i64) ?_
  have hnk:¬Bl.rok w h m l:=fun k=>hcc (if_pos k)
  have hof:(Rd.flC w h m l wd hd md ld wf hf mf lf)=1:=Rd.flC_1 (fun k=>hnk k.1)
  exact zpa yk (none,0,([]:List Int)) (⟨fun k=>absurd (hof.symm.trans k) dd,fun _=>rfl⟩) (zq 2 ty44 rfl rfl (.t4 .nil)) (zo rfl) (by rw [hof,if_neg hnk];rfl) (ho:=(.n:PickO _ _ _)) ((.c (j:=0) rfl .n):SelR _ _ _)
 ·
  have hr0:Bl.rok w h m l:=Bl.c0.1 (Decidable.not_not.1 hcc)
  refine zu<|zO<|zc<|za<|e_p (zH (z:=1) rfl rfl (w64 dd))<|e_mv rfl<|zh<|zVd<|zid<|zf<|za<|e_p (zT rfl rfl)<|zh<|zc<|zf<|zWb rfl rfl<|zu<|zc<|zf<|zt<|zf<|za<|e_p (zK (j:=1) yi sz44 rfl rfl rfl (by first|omega|(simp;done)))<|r_vl rfl rfl (zib 1 1 rfl ty44 rfl rfl (gD (d:=gr0) (by first|omega|(simp;done)))) (fun _ hok9=> ?_)
  obtain ⟨hok90,hok91,hok92⟩:=hok9
  replace hok90:=zE.1 hok90
  replace hok91:=zE.1 hok91
  replace hok92:=zE.1 hok92
  have e10:(.agg #[ya yb ((([(⟨w,h,m,p,n,cap⟩:Gr),(⟨wd,hd,md,pd,nd,cd⟩:Gr),(⟨wf,hf,mf,pf,nf,cf⟩:Gr)]).getD 1 gr0).w),ya yb ((([(⟨w,h,m,p,n,cap⟩:Gr),(⟨wd,hd,md,pd,nd,cd⟩:Gr),(⟨wf,hf,mf,pf,nf,cf⟩:Gr)]).getD 1 gr0).h),ya yb ((([(⟨w,h,m,p,n,cap⟩:Gr),(⟨wd,hd,md,pd,nd,cd⟩:Gr),(⟨wf,hf,mf,pf,nf,cf⟩:Gr)]).getD 1 gr0).m),.slice ((([(⟨w,h,m,p,n,cap⟩:Gr),(⟨wd,hd,md,pd,nd,cd⟩:Gr),(⟨wf,hf,mf,pf,nf,cf⟩:Gr)]).getD 1 gr0).p) ((([(⟨w,h,m,p,n,cap⟩:Gr),(⟨wd,hd,md,pd,nd,cd⟩:Gr),(⟨wf,hf,mf,pf,nf,cf⟩:Gr)]).getD 1 gr0).n) ((([(⟨w,h,m,p,n,cap⟩:Gr),(⟨wd,hd,md,pd,nd,cd⟩:Gr),(⟨wf,hf,mf,pf,nf,cf⟩:Gr)]).getD 1 gr0).c)]:Value)= .agg #[ya yb wd,ya yb hd,ya yb md,.slice pd nd cd]:=rfl
  rw [e10]
  refine zL rfl rfl (zw zr44 rfl) (fun b11=> ?_)
  refine zl 0 rfl rfl rfl rfl rfl sz44 rfl (.t4 .nil) .z<|zh<|zc<|zf<|za<|e_ru (zd 0 ty44 rfl rfl (.t4 .nil))<|zQ rfl rfl (.c rfl .n) ce57 (zLb (w:=wd) (h:=hd) (m:=md) (p:=pd) (n:=nd) (cap:=cd) (l:=ld) (hn:=ass)) (.c (j:=1) rfl .n)<|e_p (zb rfl)<|zh<|zc<|zf<|za<|e_mv rfl<|e_p (zra rfl rfl)<|zh<|zc<|zx rfl (fun hcc=> ?_) (fun hcc=> ?_)
  ·
   refine zf<|za<|e_p (zM zr44 rfl ye (.c sz3 (.c sz3 (.c sz3 (.c sz42 .n)))) .n .n)<|e_mv rfl<|zl 3 rfl rfl rfl rfl rfl sz44 rfl (.t4 .nil) (.s (.s (.s .z)))<|e_p (zb rfl)<|zh<|zc<|zI<|zN<|zm<|zm<|zN<|zm<|zab (rI .i64) ?_
   have hnk:¬Bl.rok wd hd md ld:=fun k=>hcc (if_pos k)
   have hof:(Rd.flC w h m l wd hd md ld wf hf mf lf)=1:=Rd.flC_1 (fun k=>hnk k.2.1)
   exact zpa yk (none,0,([]:List Int)) (⟨fun k=>absurd (hof.symm.trans k) dd,fun _=>rfl⟩) (zq 3 ty44 rfl rfl (.t4 .nil)) (zo rfl) (by rw [hof,if_neg hnk];rfl) (ho:=(.n:PickO _ _ _)) ((.c (j:=0) rfl .n):SelR _ _ _)
  ·
   have hr1:Bl.rok wd hd md ld:=Bl.c0.1 (Decidable.not_not.1 hcc)
   refine zu<|zO<|zc<|za<|e_p (zH (z:=2) rfl rfl (w64 dd))<|e_mv rfl<|zh<|zVd<|zid<|zf<|za<|e_p (zT rfl rfl)<|zh<|zc<|zf<|zWb rfl rfl<|zu<|zc<|zf<|zt<|zf<|za<|e_p (zK (j:=2) yi sz44 rfl rfl rfl (by first|omega|(simp;done)))<|r_vl rfl rfl (zib 2 2 rfl ty44 rfl rfl (gD (d:=gr0) (by first|omega|(simp;done)))) (fun _ hok12=> ?_)
   obtain ⟨hok120,hok121,hok122⟩:=hok12
   replace hok120:=zE.1 hok120
   replace hok121:=zE.1 hok121
   replace hok122:=zE.1 hok122
   have e13:(.agg #[ya yb ((([(⟨w,h,m,p,n,cap⟩:Gr),(⟨wd,hd,md,pd,nd,cd⟩:Gr),(⟨wf,hf,mf,pf,nf,cf⟩:Gr)]).getD 2 gr0).w),ya yb ((([(⟨w,h,m,p,n,cap⟩:Gr),(⟨wd,hd,md,pd,nd,cd⟩:Gr),(⟨wf,hf,mf,pf,nf,cf⟩:Gr)]).getD 2 gr0).h),ya yb ((([(⟨w,h,m,p,n,cap⟩:Gr),(⟨wd,hd,md,pd,nd,cd⟩:Gr),(⟨wf,hf,mf,pf,nf,cf⟩:Gr)]).getD 2 gr0).m),.slice ((([(⟨w,h,m,p,n,cap⟩:Gr),(⟨wd,hd,md,pd,nd,cd⟩:Gr),(⟨wf,hf,mf,pf,nf,cf⟩:Gr)]).getD 2 gr0).p) ((([(⟨w,h,m,p,n,cap⟩:Gr),(⟨wd,hd,md,pd,nd,cd⟩:Gr),(⟨wf,hf,mf,pf,nf,cf⟩:Gr)]).getD 2 gr0).n) ((([(⟨w,h,m,p,n,cap⟩:Gr),(⟨wd,hd,md,pd,nd,cd⟩:Gr),(⟨wf,hf,mf,pf,nf,cf⟩:Gr)]).getD 2 gr0).c)]:Value)= .agg #[ya yb wf,ya yb hf,ya yb mf,.slice pf nf cf]:=rfl
   rw [e13]
   refine zL rfl rfl (zw zr44 rfl) (fun b14=> ?_)
   refine zl 0 rfl rfl rfl rfl rfl sz44 rfl (.t4 .nil) .z<|zh<|zc<|zf<|za<|e_ru (zd 0 ty44 rfl rfl (.t4 .nil))<|zQ rfl rfl (.c rfl .n) ce57 (zLb (w:=wf) (h:=hf) (m:=mf) (p:=pf) (n:=nf) (cap:=cf) (l:=lf) (hn:=ass)) (.c (j:=2) rfl .n)<|e_p (zb rfl)<|zh<|zc<|zf<|za<|e_mv rfl<|e_p (zra rfl rfl)<|zh<|zc<|zx rfl (fun hcc=> ?_) (fun hcc=> ?_)
   ·
    refine zf<|za<|e_p (zM zr44 rfl ye (.c sz3 (.c sz3 (.c sz3 (.c sz42 .n)))) .n .n)<|e_mv rfl<|zl 4 rfl rfl rfl rfl rfl sz44 rfl (.t4 .nil) (.s (.s (.s (.s .z))))<|e_p (zb rfl)<|zh<|zc<|zI<|zN<|zm<|zm<|zN<|zm<|zab (rI .i64) ?_
    have hnk:¬Bl.rok wf hf mf lf:=fun k=>hcc (if_pos k)
    have hof:(Rd.flC w h m l wd hd md ld wf hf mf lf)=1:=Rd.flC_1 (fun k=>hnk k.2.2)
    exact zpa yk (none,0,([]:List Int)) (⟨fun k=>absurd (hof.symm.trans k) dd,fun _=>rfl⟩) (zq 4 ty44 rfl rfl (.t4 .nil)) (zo rfl) (by rw [hof,if_neg hnk];rfl) (ho:=(.n:PickO _ _ _)) ((.c (j:=0) rfl .n):SelR _ _ _)
   ·
    have hr2:Bl.rok wf hf mf lf:=Bl.c0.1 (Decidable.not_not.1 hcc)
    refine zu<|zO<|zc<|za<|e_p (zH (z:=3) rfl rfl (w64 dd))<|e_mv rfl<|zh<|zVd<|zid<|zf<|za<|e_p (zT rfl rfl)<|zh<|zc<|zf<|zwa rfl rfl<|zea<|zj<|zj<|zr<|zc<|zf<|zBa (X:=Unit) (fun x=>True) (fun x=>[(61,.bool (decide (¬Rd.same4 w h wd hd wf hf))),(7,ya yb 0),(6,yc (some ⟨b4,0,none⟩)),(5,yc (some ⟨b3,0,none⟩)),(4,yc (some ⟨b2,0,none⟩)),(3,yc (some ⟨b1,0,none⟩))]) (fun x=>[boxA b14 44 [ya yb wf,ya yb hf,ya yb mf,.slice pf nf cf],boxA b11 44 [ya yb wd,ya yb hd,ya yb md,.slice pd nd cd],boxA b8 44 [ya yb w,ya yb h,ya yb m,.slice p n cap],rowA 44 rG (some ⟨b5,0,none⟩) 3 ([(⟨w,h,m,p,n,cap⟩:Gr),(⟨wd,hd,md,pd,nd,cd⟩:Gr),(⟨wf,hf,mf,pf,nf,cf⟩:Gr)]),boxA b4 44 [ya yb 0,ya yb 0,ya yb 0,.slice none 0 0],boxA b3 44 [ya yb wf,ya yb hf,ya yb mf,.slice pf nf cf],boxA b2 44 [ya yb wd,ya yb hd,ya yb md,.slice pd nd cd],boxA b1 44 [ya yb w,ya yb h,ya yb m,.slice p n cap]]) (fun x=>[slF (rI .i64) p cap l,slF (rI .i64) pd cd ld,slF (rI .i64) pf cf lf]) ?_ ?_
    ·
     refine za<|e_p (zg ye rfl sz3 rfl rfl)<|e_ru (ze 6 ty3 rfl rfl rfl)<|e_p (zg ye rfl sz3 rfl rfl)<|e_ru (ze 7 ty3 rfl rfl rfl)<|e_p (zra rfl rfl)<|zR rfl rfl (zV rfl) (fun h15=> ?_) (fun h15=> ?_)
     ·
      refine e_no<|e_no<|e_no<|e_no<|e_no<|e_p (zk rfl rfl)<|e_mv rfl<|e_no<|e_no<|e_no<|e_no<|e_no<|e_p (zk rfl rfl)<|e_mv rfl<|e_no<|e_no<|e_no<|e_no<|e_no<|e_p (zk rfl rfl)<|zh ?_
      exact zda () (show True from by first|trivial|omega|simp_all) ((.e rfl (congrArg Value.bool (by first|exact (decide_eq_true (by unfold Rd.same4;omega)).symm|exact decide_eq_decide.2 (by unfold Rd.same4;omega))) (.of rfl)):SubM _ _) (ho:=((.of [0,0,0,0,0,0,0,0] rfl):PickO _ _ _)) ((.of [0,1,2] rfl):SelR _ _ _)
     ·
      refine e_p (zg ye rfl sz3 rfl rfl)<|e_ru (ze 6 ty3 rfl rfl rfl)<|e_p (zg ye rfl sz3 rfl rfl)<|e_ru (ze 7 ty3 rfl rfl rfl)<|e_p (zra rfl rfl)<|e_p (zk rfl rfl)<|zR rfl rfl (zV rfl) (fun h16=> ?_) (fun h16=> ?_)
      ·
       refine e_no<|e_no<|e_no<|e_no<|e_no<|e_p (zk rfl rfl)<|e_mv rfl<|e_no<|e_no<|e_no<|e_no<|e_no<|e_p (zk rfl rfl)<|zh ?_
       exact zda () (show True from by first|trivial|omega|simp_all) ((.e rfl (congrArg Value.bool (by first|exact (decide_eq_true (by unfold Rd.same4;omega)).symm|exact decide_eq_decide.2 (by unfold Rd.same4;omega))) (.of rfl)):SubM _ _) (ho:=((.of [0,0,0,0,0,0,0,0] rfl):PickO _ _ _)) ((.of [0,1,2] rfl):SelR _ _ _)
      ·
       refine e_p (zg ye rfl sz3 rfl rfl)<|e_ru (ze 5 ty3 rfl rfl rfl)<|e_p (zg ye rfl sz3 rfl rfl)<|e_ru (ze 7 ty3 rfl rfl rfl)<|e_p (zra rfl rfl)<|e_p (zk rfl rfl)<|zR rfl rfl (zV rfl) (fun h17=> ?_) (fun h17=> ?_)
       ·
        refine e_no<|e_no<|e_no<|e_no<|e_no<|e_p (zk rfl rfl)<|zh ?_
        exact zda () (show True from by first|trivial|omega|simp_all) ((.e rfl (congrArg Value.bool (by first|exact (decide_eq_true (by unfold Rd.same4;omega)).symm|exact decide_eq_decide.2 (by unfold Rd.same4;omega))) (.of rfl)):SubM _ _) (ho:=((.of [0,0,0,0,0,0,0,0] rfl):PickO _ _ _)) ((.of [0,1,2] rfl):SelR _ _ _)
       ·
        refine e_p (zg ye rfl sz3 rfl rfl)<|e_ru (ze 5 ty3 rfl rfl rfl)<|e_p (zg ye rfl sz3 rfl rfl)<|e_ru (ze 7 ty3 rfl rfl rfl)<|e_p (zra rfl rfl)<|e_p (zk rfl rfl)<|zh ?_
        exact zda () (show True from by first|trivial|omega|simp_all) ((.e rfl (congrArg Value.bool (by first|exact (decide_eq_true (by unfold Rd.same4;omega)).symm|exact decide_eq_decide.2 (by unfold Rd.same4;omega))) (.of rfl)):SubM _ _) (ho:=((.of [0,0,0,0,0,0,0,0] rfl):PickO _ _ _)) ((.of [0,1,2] rfl):SelR _ _ _)
    ·
     rintro ⟨⟩ -
     try dsimp only
     refine zx rfl (fun hmm=> ?_) (fun hmm=> ?_)
     ·
      refine zf<|za<|e_p (zM zr44 rfl ye (.c sz3 (.c sz3 (.c sz3 (.c sz42 .n)))) .n .n)<|zl 4 rfl rfl rfl rfl rfl sz44 rfl (.t4 .nil) (.s (.s (.s (.s .z))))<|e_p (zb rfl)<|zh<|zc<|zI<|zm<|zab (rI .i64) ?_
      have hof:(Rd.flC w h m l wd hd md ld wf hf mf lf)=4:=Rd.flC_4 ⟨hr0,hr1,hr2⟩ hmm
      exact zpa yk (none,0,([]:List Int)) (⟨fun k=>absurd (hof.symm.trans k) dd,fun _=>rfl⟩) (zq 4 ty44 rfl rfl (.t4 .nil)) (zo rfl) (by rw [hof];rfl) (ho:=(.n:PickO _ _ _)) ((.c (j:=0) rfl .n):SelR _ _ _)
     ·
      have hk3:(Bl.rok w h m l∧Bl.rok wd hd md ld∧Bl.rok wf hf mf lf):=⟨hr0,hr1,hr2⟩
      have hs4:Rd.same4 w h wd hd wf hf:=Decidable.not_not.1 hmm
      have hk3b:=hk3
      have hs4b:=hs4
      obtain ⟨⟨hw1,hh1,hm1,hnw,hpix⟩,⟨hwd1,hhd1,hmd1,hnwd,hpixd⟩,hwf1,hhf1,hmf1,hnwf,hpixf⟩:=hk3
      have hb9:=Bl.mul_b (x:=w) (y:=h) (m:=64) (n:=64) om om
      have hn0:0<w*h:=Int.mul_pos om om
      obtain ⟨hsa,hsb,hsc,hsd⟩:=hs4
      rw [hsa,hsb] at hnwd
      rw [hsc,hsd] at hnwf
      refine zu<|zc<|zf<|za<|e_p (zb rfl)<|zh<|zc<|zf<|zf<|za<|e_p (zg ye rfl sz42 rfl rfl)<|e_ru (ze 7 ty42 rfl rfl rfl)<|e_p (zB yd rfl)<|e_mv rfl<|zh<|zc<|zt<|zfa (X:=Nat) (fun x:Nat=>x≤n∧∀j,j<x→0≤Rd.fd ld lf j∧Rd.fd ld lf j≤65535∧0<Rd.fd ld lf j) (fun x=>[(11,ya yb (Rd.sI (Rd.fd ld lf) x)),(66,ya yb ((x:Nat):Int)),(65,ya yb ((n:Nat):Int)),(6,yc (some ⟨b4,0,none⟩)),(5,yc (some ⟨b3,0,none⟩)),(4,yc (some ⟨b2,0,none⟩)),(3,yc (some ⟨b1,0,none⟩))]) (fun x=>[boxA b14 44 [ya yb wf,ya yb hf,ya yb mf,.slice pf nf cf],boxA b11 44 [ya yb wd,ya yb hd,ya yb md,.slice pd nd cd],boxA b8 44 [ya yb w,ya yb h,ya yb m,.slice p n cap],rowA 44 rG (some ⟨b5,0,none⟩) 3 ([(⟨w,h,m,p,n,cap⟩:Gr),(⟨wd,hd,md,pd,nd,cd⟩:Gr),(⟨wf,hf,mf,pf,nf,cf⟩:Gr)]),boxA b4 44 [ya yb 0,ya yb 0,ya yb 0,.slice none 0 0],boxA b3 44 [ya yb wf,ya yb hf,ya yb mf,.slice pf nf cf],boxA b2 44 [ya yb wd,ya yb hd,ya yb md,.slice pd nd cd],boxA b1 44 [ya yb w,ya yb h,ya yb m,.slice p n cap]]) (fun x=>[slF (rI .i64) p cap l,slF (rI .i64) pd cd ld,slF (rI .i64) pf cf lf]) (fun x:Nat=>n - x) 0 (show 0≤n∧∀j,j<0→0≤Rd.fd ld lf j∧Rd.fd ld lf j≤65535∧0<Rd.fd ld lf j from by exact ⟨Nat.zero_le _,fun j h=>by omega⟩) ((.e rfl rfl (.e rfl (by first|rfl|(congr 1;omega)|simp_all) (.of rfl))):SubM _ _) (ho:=((.of [0,0,0,0,0,0,0,0] rfl):PickO _ _ _)) ((.of [0,1,2] rfl):SelR _ _ _) ?_
      rintro i hI
      replace hI:i≤n∧∀j,j<i→0≤Rd.fd ld lf j∧Rd.fd ld lf j≤65535∧0<Rd.fd ld lf j:=hI
      try dsimp only
      obtain ⟨hi,hal⟩:=hI
      have hfb:∀j,j<i→0≤Rd.fd ld lf j∧Rd.fd ld lf j≤65535:=fun j hj=>⟨(hal j hj).1,(hal j hj).2.1⟩
      refine zf<|za<|e_p (zT rfl rfl)<|zh<|zc<|zf<|zx rfl (fun h18=> ?_) (fun h18=> ?_)
      ·
       have hpx:¬(l.getD i 0<0∨m<l.getD i 0):=fun k=>hpix ⟨_,yj om,k⟩
       have hpd:¬(ld.getD i 0<0∨md<ld.getD i 0):=fun k=>hpixd ⟨_,yj om,k⟩
       have hpf:¬(lf.getD i 0<0∨mf<lf.getD i 0):=fun k=>hpixf ⟨_,yj om,k⟩
       have hfdi:Rd.fd ld lf i=lf.getD i 0 - ld.getD i 0:=rfl
       have hsb9:=Rd.sI_bn (f:=Rd.fd ld lf) (B:=65535) (N:=i) hfb i (Nat.le_refl _)
       refine zu<|zc<|zf<|zt<|zf<|za<|e_mv rfl<|e_p (zb rfl)<|zh<|zc<|zf<|zaa (OW:=[]) (O:=[boxA b14 44 [ya yb wf,ya yb hf,ya yb mf,.slice pf nf cf],boxA b11 44 [ya yb wd,ya yb hd,ya yb md,.slice pd nd cd],boxA b8 44 [ya yb w,ya yb h,ya yb m,.slice p n cap],rowA 44 rG (some ⟨b5,0,none⟩) 3 ([(⟨w,h,m,p,n,cap⟩:Gr),(⟨wd,hd,md,pd,nd,cd⟩:Gr),(⟨wf,hf,mf,pf,nf,cf⟩:Gr)]),boxA b4 44 [ya yb 0,ya yb 0,ya yb 0,.slice none 0 0],boxA b3 44 [ya yb wf,ya yb hf,ya yb mf,.slice pf nf cf],boxA b2 44 [ya yb wd,ya yb hd,ya yb md,.slice pd nd cd],boxA b1 44 [ya yb w,ya yb h,ya yb m,.slice p n cap]]) 100000 mixed (.then (.block (.then (.then (.block (.then .ret)))))) kr<|e_pv 0 rfl rfl (zg ye rfl sz42 rfl rfl)<|e_u 1 rfl rfl (ze 5 ty42 rfl rfl rfl)<|e_dm 2 rfl rfl rfl<|zia (x0:=(lf.getD i 0)) 3 rfl rfl kr kr 2 i rfl yd sz3 rfl rfl rfl (by first|rfl|assumption|omega|exact Rd.pz_len _ _ _|(rw [Rd.pz_len];omega)) rfl rfl (gD (d:=0) om) (fun b19 o20 hok21=> ?_)
       replace hok21:=zE.1 hok21
       refine e_u 4 rfl rfl (zi (j:=0) 0 ty3 rfl rfl rfl rfl)<|e_pv 5 rfl rfl (zg ye rfl sz42 rfl rfl)<|e_u 6 rfl rfl (ze 6 ty42 rfl rfl rfl)<|e_dm 7 rfl rfl rfl<|zia (x0:=(ld.getD i 0)) 8 rfl rfl kr kr 2 i rfl yd sz3 rfl rfl rfl (by first|rfl|assumption|omega|exact Rd.pz_len _ _ _|(rw [Rd.pz_len];omega)) rfl rfl (gD (d:=0) om) (fun b22 o23 hok24=> ?_)
       replace hok24:=zE.1 hok24
       refine e_u 9 rfl rfl (zi (j:=0) 0 ty3 rfl rfl rfl rfl)<|e_pv 10 rfl rfl (zja (z:=((lf.getD i 0) - (ld.getD i 0))) rfl rfl (w64 om))<|e_pv 11 rfl rfl (zb rfl)<|zZ kr<|zc<|zf<|zf<|za<|e_mv rfl<|e_p (zlc rfl rfl)<|zh<|zc<|zx rfl (fun hdd=> ?_) (fun hdd=> ?_)
       ·
        refine zf<|za<|e_p (zM zr44 rfl ye (.c sz3 (.c sz3 (.c sz3 (.c sz42 .n)))) .n .n)<|zl 4 rfl rfl rfl rfl rfl sz44 rfl (.t4 .nil) (.s (.s (.s (.s .z))))<|e_p (zb rfl)<|zh<|zc<|zI<|zm<|zN<|zm<|zm<|zN<|zm<|zab (rI .i64) ?_
        have hof:(Rd.flC w h m l wd hd md ld wf hf mf lf)=13:=Rd.flC_13 hk3b hs4b (fun k=>by have h9:=k i om;rw [hfdi] at h9;omega)
        exact zpa yk (none,0,([]:List Int)) (⟨fun k=>absurd (hof.symm.trans k) dd,fun _=>rfl⟩) (zq 4 ty44 rfl rfl (.t4 .nil)) (zo rfl) (by rw [hof];rfl) (ho:=(.n:PickO _ _ _)) ((.c (j:=0) rfl .n):SelR _ _ _)
       ·
        refine zu<|zc<|za<|e_mv rfl<|e_mv rfl<|e_p (zH (z:=((Rd.sI (Rd.fd ld lf) i)+((lf.getD i 0) - (ld.getD i 0)))) rfl rfl (w64 om))<|e_p (zb rfl)<|zh<|zO<|zc<|za<|e_p (zH (z:=(((i+1):Nat):Int)) rfl rfl (w64 om))<|e_mv rfl<|zh<|zca (i+1) (show (i+1)≤n∧∀j,j<(i+1)→0≤Rd.fd ld lf j∧Rd.fd ld lf j≤65535∧0<Rd.fd ld lf j from by refine ⟨by omega,fun j hj=> ?_⟩;by_cases e:j=i;subst e;rw [hfdi];omega;exact hal j om) (by show n - (i+1)<n - i;omega) ((.e rfl (by first|rfl|(congr 1;omega)|simp_all) (.of rfl)):SubM _ _) (ho:=((.of [0,0,0,0,0,0,0,0] rfl):PickO _ _ _)) ((.of [2,3,4] rfl):SelR _ _ _)
      ·
       refine zea<|zj<|zj<|zr<|zc<|zf ?_
       have hal2:Rd.posA l ld lf:=fun j hj=>(hal j om).2.2
       have hof:(Rd.flC w h m l wd hd md ld wf hf mf lf)=0:=Rd.flC_0 hk3b hs4b hal2
       have hsn:=Rd.sI_bn (f:=Rd.fd ld lf) (B:=65535) (N:=i) hfb i (Nat.le_refl _)
       have ein:i=n:=by omega
       rw [ein] at hsn
       have hd1:=Rd.dq (n:=(Rd.sI (Rd.fd ld lf) n)) (d:=((n:Nat):Int)) om om om
       have e25:Rd.sI (Rd.fd ld lf) i=Rd.sI (Rd.fd ld lf) n:=by rw [ein]
       rw [e25]
       refine za<|e_p (zg ye rfl sz42 rfl rfl)<|e_ru (ze 7 ty42 rfl rfl rfl)<|zv rfl rfl (.c rfl .n) ce58 (zRd (p:=p) (n:=n) (cap:=cap) (l:=l) (hn:=ass) (hb:=cbo)) (.c (j:=0) rfl .n) ?_
       rintro ⟨p226,c227⟩ -
       dsimp only [aq,nq,cq]
       refine e_p (zg ye rfl sz42 rfl rfl)<|zl 8 rfl rfl rfl rfl rfl sz42 rfl (.s2 (.skip (.take .nil))) (.s (.s (.s (.s (.s (.s (.s (.s .z))))))))<|zh<|zc<|zf<|za<|e_mv rfl<|e_p (zg ye rfl sz42 rfl rfl)<|e_ru (ze 8 ty42 rfl rfl rfl)<|e_p (zB yd rfl)<|zv rfl rfl (.c rfl (.c rfl .n)) ce54 (zYa (z1:=(Rd.sI (Rd.fd ld lf) n)) (z2:=((l.length:Nat):Int)) (hz1:=cbo) (hz2:=cbo) (hy:=cbo)) (.n) ?_
       rintro ⟨w328,w429⟩ -
       dsimp only [aq,nq,cq]
       refine e_mv rfl<|e_p (zp rfl rfl)<|e_p (zp rfl rfl)<|zL rfl rfl (zw zr28 rfl) (fun b30=> ?_)
       refine zl 0 rfl rfl rfl rfl rfl sz28 rfl (.t4 .nil) .z<|e_p (zb rfl)<|zh<|zc<|zf<|zf ?_
       have e31:(Rat.divInt (Rd.sI (Rd.fd ld lf) n) ((l.length:Nat):Int):Rat)=(Rd.mn l ld lf):=by unfold Rd.mn;rw [hn]
       rw [e31]
       refine za<|e_p (zg ye rfl sz42 rfl rfl)<|e_ru (ze 9 ty42 rfl rfl rfl)<|e_p (zB yd rfl)<|e_mv rfl<|zh<|zc<|zt<|zfa (X:=Nat) (fun x:Nat=>x≤n) (fun x=>[(102,ya yb ((x:Nat):Int)),(101,ya yb ((l.length:Nat):Int)),(100,.slice p226 (l.length) c227),(14,yc (some ⟨b30,0,none⟩)),(6,yc (some ⟨b4,0,none⟩)),(5,yc (some ⟨b3,0,none⟩)),(4,yc (some ⟨b2,0,none⟩)),(3,yc (some ⟨b1,0,none⟩))]) (fun x=>[boxA b30 28 (cw [w328,w429]),rowA 3 (rI .i64) p226 c227 (Rd.pz x l (Rd.flv m l ld lf)),boxA b14 44 [ya yb wf,ya yb hf,ya yb mf,.slice pf nf cf],boxA b11 44 [ya yb wd,ya yb hd,ya yb md,.slice pd nd cd],boxA b8 44 [ya yb w,ya yb h,ya yb m,.slice p n cap],rowA 44 rG (some ⟨b5,0,none⟩) 3 ([(⟨w,h,m,p,n,cap⟩:Gr),(⟨wd,hd,md,pd,nd,cd⟩:Gr),(⟨wf,hf,mf,pf,nf,cf⟩:Gr)]),boxA b4 44 [ya yb 0,ya yb 0,ya yb 0,.slice none 0 0],boxA b3 44 [ya yb wf,ya yb hf,ya yb mf,.slice pf nf cf],boxA b2 44 [ya yb wd,ya yb hd,ya yb md,.slice pd nd cd],boxA b1 44 [ya yb w,ya yb h,ya yb m,.slice p226 (l.length) c227]]) (fun x=>[qF true w328 w429 (Rd.mn l ld lf),slF (rI .i64) p cap l,slF (rI .i64) pd cd ld,slF (rI .i64) pf cf lf]) (fun x:Nat=>n - x) 0 (show 0≤n from by exact Nat.zero_le _) ((.e rfl (by first|rfl|(congr 1;omega)|simp_all) (.of rfl)):SubM _ _) (ho:=((.c (i:=0) rfl (.e (i:=0) rfl (by first|rfl|(rw [← Rd.pz_start])) (.of [0,0,0,0,0,0,0,0] rfl))):PickO _ _ _)) ((.of [0,1,2,3] rfl):SelR _ _ _) ?_
       rintro i hI
       replace hI:i≤n:=hI
       try dsimp only [cw]
       refine zf<|za<|e_p (zT rfl rfl)<|zh<|zc<|zf<|zx rfl (fun h32=> ?_) (fun h32=> ?_)
       ·
        have hpx:¬(l.getD i 0<0∨m<l.getD i 0):=fun k=>hpix ⟨_,yj om,k⟩
        have hpd:¬(ld.getD i 0<0∨md<ld.getD i 0):=fun k=>hpixd ⟨_,yj om,k⟩
        have hpf:¬(lf.getD i 0<0∨mf<lf.getD i 0):=fun k=>hpixf ⟨_,yj om,k⟩
        have hfdi:Rd.fd ld lf i=lf.getD i 0 - ld.getD i 0:=rfl
        have hq0:=hal2 i om
        have hd2:=Rd.dq (n:=l.getD i 0 - ld.getD i 0) (d:=lf.getD i 0 - ld.getD i 0) om om om
        have hmq:=Big.hq_mul (Rat.divInt (l.getD i 0 - ld.getD i 0) (lf.getD i 0 - ld.getD i 0)) (Rd.mn l ld lf)
        have hfl:=Rd.fl_flat (a:=l.getD i 0 - ld.getD i 0) (b:=lf.getD i 0 - ld.getD i 0) (s:=(Rd.sI (Rd.fd ld lf) n)) (n:=((n:Nat):Int)) om om om om
        have hfl2:Rd.fl ((Rat.divInt (l.getD i 0 - ld.getD i 0) (lf.getD i 0 - ld.getD i 0))*Rd.mn l ld lf)≤999999999999999999:=by unfold Rd.mn;rw [hn];exact hfl
        have hdm:Big.hq (Rd.mn l ld lf)≤3:=by unfold Rd.mn;rw [hn];exact hd1
        have hgr:=Rd.gr_range ((Rat.divInt (l.getD i 0 - ld.getD i 0) (lf.getD i 0 - ld.getD i 0))*Rd.mn l ld lf) (show 0≤m by omega)
        have hpzl:=Rd.pz_len i l (Rd.flv m l ld lf)
        refine zu<|zc<|zf<|zt<|zf<|za<|e_mv rfl<|e_ru (zba 1 i rfl yd sz3 rfl (by first|rfl|assumption|omega|exact Rd.pz_len _ _ _|(rw [Rd.pz_len];omega)) rfl rfl om)<|r_vl rfl rfl (zG 1 i rfl ty3 rfl rfl (gD (d:=0) om) rfl) (fun _ hok33=> ?_)
        replace hok33:=zE.1 hok33
        have e34:(Rd.pz i l (Rd.flv m l ld lf)).getD i 0=l.getD i 0:=by exact Rd.pz_read om
        rw [e34]
        refine e_p (zb rfl)<|e_p (zb rfl)<|zh<|zc<|zf<|zaa (OW:=[]) (O:=[boxA b30 28 (cw [w328,w429]),rowA 3 (rI .i64) p226 c227 (Rd.pz i l (Rd.flv m l ld lf)),boxA b14 44 [ya yb wf,ya yb hf,ya yb mf,.slice pf nf cf],boxA b11 44 [ya yb wd,ya yb hd,ya yb md,.slice pd nd cd],boxA b8 44 [ya yb w,ya yb h,ya yb m,.slice p n cap],rowA 44 rG (some ⟨b5,0,none⟩) 3 ([(⟨w,h,m,p,n,cap⟩:Gr),(⟨wd,hd,md,pd,nd,cd⟩:Gr),(⟨wf,hf,mf,pf,nf,cf⟩:Gr)]),boxA b4 44 [ya yb 0,ya yb 0,ya yb 0,.slice none 0 0],boxA b3 44 [ya yb wf,ya yb hf,ya yb mf,.slice pf nf cf],boxA b2 44 [ya yb wd,ya yb hd,ya yb md,.slice pd nd cd],boxA b1 44 [ya yb w,ya yb h,ya yb m,.slice p226 (l.length) c227]]) 23 mixed (.then (.block (.then (.then (.block (.then .ret)))))) kr<|e_dm 0 rfl rfl rfl<|e_pv 1 rfl rfl (zg ye rfl sz42 rfl rfl)<|e_u 2 rfl rfl (ze 8 ty42 rfl rfl rfl)<|e_dm 3 rfl rfl rfl<|zia (x0:=(ld.getD i 0)) 4 rfl rfl kr kr 2 i rfl yd sz3 rfl rfl rfl (by first|rfl|assumption|omega|exact Rd.pz_len _ _ _|(rw [Rd.pz_len];omega)) rfl rfl (gD (d:=0) om) (fun b35 o36 hok37=> ?_)
        replace hok37:=zE.1 hok37
        refine e_u 5 rfl rfl (zi (j:=0) 0 ty3 rfl rfl rfl rfl)<|e_pv 6 rfl rfl (zja (z:=((l.getD i 0) - (ld.getD i 0))) rfl rfl (w64 om))<|e_pv 7 rfl rfl (zg ye rfl sz42 rfl rfl)<|e_u 8 rfl rfl (ze 7 ty42 rfl rfl rfl)<|e_dm 9 rfl rfl rfl<|zia (x0:=(lf.getD i 0)) 10 rfl rfl kr kr 4 i rfl yd sz3 rfl rfl rfl (by first|rfl|assumption|omega|exact Rd.pz_len _ _ _|(rw [Rd.pz_len];omega)) rfl rfl (gD (d:=0) om) (fun b38 o39 hok40=> ?_)
        replace hok40:=zE.1 hok40
        refine e_u 11 rfl rfl (zi (j:=0) 0 ty3 rfl rfl rfl rfl)<|e_pv 12 rfl rfl (zg ye rfl sz42 rfl rfl)<|e_u 13 rfl rfl (ze 8 ty42 rfl rfl rfl)<|e_dm 14 rfl rfl rfl<|zia (x0:=(ld.getD i 0)) 15 rfl rfl kr kr 4 i rfl yd sz3 rfl rfl rfl (by first|rfl|assumption|omega|exact Rd.pz_len _ _ _|(rw [Rd.pz_len];omega)) rfl rfl (gD (d:=0) om) (fun b41 o42 hok43=> ?_)
        replace hok43:=zE.1 hok43
        refine e_u 16 rfl rfl (zi (j:=0) 0 ty3 rfl rfl rfl rfl)<|e_pv 17 rfl rfl (zja (z:=((lf.getD i 0) - (ld.getD i 0))) rfl rfl (w64 om))<|zgf (m':=[(125,ya yb ((lf.getD i 0) - (ld.getD i 0))),(114,ya yb ((l.getD i 0) - (ld.getD i 0))),(16,ya yb ((i:Nat):Int)),(102,ya yb ((i:Nat):Int)),(101,ya yb ((l.length:Nat):Int)),(100,.slice p226 (l.length) c227),(14,yc (some ⟨b30,0,none⟩)),(6,yc (some ⟨b4,0,none⟩)),(5,yc (some ⟨b3,0,none⟩)),(4,yc (some ⟨b2,0,none⟩)),(3,yc (some ⟨b1,0,none⟩))]) (R':=[qF true w328 w429 (Rd.mn l ld lf),slF (rI .i64) p cap l,slF (rI .i64) pd cd ld,slF (rI .i64) pf cf lf]) ((.of rfl):SubM _ _) (List.Perm.refl _) (List.Perm.refl _) ((.of [3,4,5,6] rfl):SelR _ _ _) ?_
        obtain ⟨qd1,hqd1⟩:∃z:Int,z=((lf.getD i 0) - (ld.getD i 0)):=⟨_,rfl⟩
        rw [← hqd1]
        obtain ⟨qd2,hqd2⟩:∃z:Int,z=((l.getD i 0) - (ld.getD i 0)):=⟨_,rfl⟩
        rw [← hqd2]
        refine zOb (X:=Wd×Wd×Nat) (k':=0) (L':=(lb 25 33554431)) (fun (u18_1,u18_2,u22_1)=>([(18,yc (some ⟨u22_1,0,none⟩)),(16,ya yb ((i:Nat):Int)),(102,ya yb ((i:Nat):Int)),(101,ya yb ((l.length:Nat):Int)),(100,.slice p226 (l.length) c227),(14,yc (some ⟨b30,0,none⟩)),(6,yc (some ⟨b4,0,none⟩)),(5,yc (some ⟨b3,0,none⟩)),(4,yc (some ⟨b2,0,none⟩)),(3,yc (some ⟨b1,0,none⟩))],[boxA u22_1 28 (cw [u18_1,u18_2])],[boxA b30 28 (cw [w328,w429]),rowA 3 (rI .i64) p226 c227 (Rd.pz i l (Rd.flv m l ld lf)),boxA b14 44 [ya yb wf,ya yb hf,ya yb mf,.slice pf nf cf],boxA b11 44 [ya yb wd,ya yb hd,ya yb md,.slice pd nd cd],boxA b8 44 [ya yb w,ya yb h,ya yb m,.slice p n cap],rowA 44 rG (some ⟨b5,0,none⟩) 3 ([(⟨w,h,m,p,n,cap⟩:Gr),(⟨wd,hd,md,pd,nd,cd⟩:Gr),(⟨wf,hf,mf,pf,nf,cf⟩:Gr)]),boxA b4 44 [ya yb 0,ya yb 0,ya yb 0,.slice none 0 0],boxA b3 44 [ya yb wf,ya yb hf,ya yb mf,.slice pf nf cf],boxA b2 44 [ya yb wd,ya yb hd,ya yb md,.slice pd nd cd],boxA b1 44 [ya yb w,ya yb h,ya yb m,.slice p226 (l.length) c227]],[qF true u18_1 u18_2 (Rat.divInt qd2 qd1),qF true w328 w429 (Rd.mn l ld lf),slF (rI .i64) p cap l,slF (rI .i64) pd cd ld,slF (rI .i64) pf cf lf])) ?_ (fun hD0=> ?_)
        ·
         rintro ⟨u18_1,u18_2,u22_1⟩
         dsimp only [cw]
         refine zZ kr ?_
         subst hqd1 hqd2
         refine zc<|zna (.c (i:=2) rfl (.c (i:=0) rfl (.c (i:=0) rfl (.c (i:=0) rfl (.c (i:=0) rfl (.c (i:=0) rfl (.c (i:=0) rfl (.c (i:=0) rfl (.c (i:=0) rfl (.c (i:=0) rfl (.c (i:=0) rfl .n)))))))))))<|zaa (OW:=[rowA 3 (rI .i64) p226 c227 (Rd.pz i l (Rd.flv m l ld lf))]) (O:=[boxA u22_1 28 (cw [u18_1,u18_2]),boxA b30 28 (cw [w328,w429]),boxA b14 44 [ya yb wf,ya yb hf,ya yb mf,.slice pf nf cf],boxA b11 44 [ya yb wd,ya yb hd,ya yb md,.slice pd nd cd],boxA b8 44 [ya yb w,ya yb h,ya yb m,.slice p n cap],rowA 44 rG (some ⟨b5,0,none⟩) 3 ([(⟨w,h,m,p,n,cap⟩:Gr),(⟨wd,hd,md,pd,nd,cd⟩:Gr),(⟨wf,hf,mf,pf,nf,cf⟩:Gr)]),boxA b4 44 [ya yb 0,ya yb 0,ya yb 0,.slice none 0 0],boxA b3 44 [ya yb wf,ya yb hf,ya yb mf,.slice pf nf cf],boxA b2 44 [ya yb wd,ya yb hd,ya yb md,.slice pd nd cd],boxA b1 44 [ya yb w,ya yb h,ya yb m,.slice p226 (l.length) c227]]) 10 mixed (.block (.then (.then (.block (.then .ret))))) kr<|e_pv 0 rfl rfl (zg ye rfl sz42 rfl rfl)<|e_uw 1 rfl rfl (ze 10 ty42 rfl rfl rfl)<|e_dm 2 rfl rfl rfl<|e_uw 3 rfl rfl (zd 1 ty28 rfl rfl (.t4 .nil))<|e_uw 4 rfl rfl (zd 2 ty28 rfl rfl (.t4 .nil))<|e_pv 6 rfl rfl (zg ye rfl sz3 rfl rfl)<|e_uw 7 rfl rfl (ze 10 ty3 rfl rfl rfl)<|e_one 5 (zC rfl rfl rfl rfl (.c rfl (.c rfl .n)) ce60 (zpb (k1:=true) (u1:=u18_1) (v1:=u18_2) (q1:=Rat.divInt ((l.getD i 0) - (ld.getD i 0)) ((lf.getD i 0) - (ld.getD i 0))) (k2:=true) (u2:=w328) (v2:=w429) (q2:=(Rd.mn l ld lf)) (hl:=cbo)) (.c (j:=0) rfl (.c (j:=1) rfl .n)) ?_)
         rintro ⟨w344,w445⟩ -
         dsimp only [aq,nq,cq]
         refine e_one 8 (zGa rfl rfl rfl rfl (.c rfl (.c rfl .n)) ce59 (zze (u1:=w344) (v1:=w445) (q1:=(Rat.divInt ((l.getD i 0) - (ld.getD i 0)) ((lf.getD i 0) - (ld.getD i 0)))*(Rd.mn l ld lf)) (mm:=m) (hl:=cbo) (hm:=cbo) (hub:=cbo)) (.c (j:=0) rfl .n) ?_)
         refine e_uw 9 rfl rfl (zba 0 i rfl yd sz3 rfl (by first|rfl|assumption|omega|exact Rd.pz_len _ _ _|(rw [Rd.pz_len];omega)) rfl rfl om)<|e_one 10 (zrb (A':=fun _=>rowA 3 (rI .i64) p226 c227 ((Rd.pz i l (Rd.flv m l ld lf)).set i (Rd.gr ((Rat.divInt ((l.getD i 0) - (ld.getD i 0)) ((lf.getD i 0) - (ld.getD i 0)))*(Rd.mn l ld lf)) m))) kr rfl rfl rfl (zP (j:=i) (x0:=(Rd.gr ((Rat.divInt ((l.getD i 0) - (ld.getD i 0)) ((lf.getD i 0) - (ld.getD i 0)))*(Rd.mn l ld lf)) m)) (γ0:=()) rfl rfl (by first|omega|(rw [Rd.pz_len];omega)) rfl rfl sz3 (fun _ _=>by exact zE.2 om)) (fun _ _=> ?_))
         refine zZ kr<|zO<|zc<|za<|e_p (zH (z:=(((i+1):Nat):Int)) rfl rfl (w64 om))<|e_mv rfl<|zh<|zca (i+1) (show (i+1)≤n from by show i+1≤n;omega) (by show n - (i+1)<n - i;omega) ((.of rfl):SubM _ _) (ho:=((.c (i:=2) rfl (.e (i:=0) rfl (by first|rfl|(rw [show Rd.gr ((Rat.divInt (l.getD i 0 - ld.getD i 0) (lf.getD i 0 - ld.getD i 0))*Rd.mn l ld lf) m=(Rd.flv m l ld lf) i from rfl,Rd.pz_step om])) (.of [1,1,1,1,1,1,1,1] rfl))):PickO _ _ _)) ((.of [2,3,4,5] rfl):SelR _ _ _)
        refine zOb (X:=Wd×Wd×Nat) (k':=2) (L':=(lb 25 8388607)) (fun (u18_1,u18_2,u22_1)=>([(18,yc (some ⟨u22_1,0,none⟩)),(128,ya yb 0),(127,.agg (cw [u18_1,u18_2]).toArray),(16,ya yb ((i:Nat):Int)),(102,ya yb ((i:Nat):Int)),(101,ya yb ((l.length:Nat):Int)),(100,.slice p226 (l.length) c227),(14,yc (some ⟨b30,0,none⟩)),(6,yc (some ⟨b4,0,none⟩)),(5,yc (some ⟨b3,0,none⟩)),(4,yc (some ⟨b2,0,none⟩)),(3,yc (some ⟨b1,0,none⟩))],[boxA u22_1 28 (cw [wz,wz])],[boxA b30 28 (cw [w328,w429]),rowA 3 (rI .i64) p226 c227 (Rd.pz i l (Rd.flv m l ld lf)),boxA b14 44 [ya yb wf,ya yb hf,ya yb mf,.slice pf nf cf],boxA b11 44 [ya yb wd,ya yb hd,ya yb md,.slice pd nd cd],boxA b8 44 [ya yb w,ya yb h,ya yb m,.slice p n cap],rowA 44 rG (some ⟨b5,0,none⟩) 3 ([(⟨w,h,m,p,n,cap⟩:Gr),(⟨wd,hd,md,pd,nd,cd⟩:Gr),(⟨wf,hf,mf,pf,nf,cf⟩:Gr)]),boxA b4 44 [ya yb 0,ya yb 0,ya yb 0,.slice none 0 0],boxA b3 44 [ya yb wf,ya yb hf,ya yb mf,.slice pf nf cf],boxA b2 44 [ya yb wd,ya yb hd,ya yb md,.slice pd nd cd],boxA b1 44 [ya yb w,ya yb h,ya yb m,.slice p226 (l.length) c227]],[qF true u18_1 u18_2 (Rat.divInt qd2 qd1),qF true w328 w429 (Rd.mn l ld lf),slF (rI .i64) p cap l,slF (rI .i64) pd cd ld,slF (rI .i64) pf cf lf])) ?_ (fun hD1=> ?_)
        ·
         rintro ⟨u18_1,u18_2,u22_1⟩
         dsimp only [cw]
         refine zzd 23 kr ?_
         ·
          refine zJ kr rfl rfl rfl rfl rfl sz28 rfl (.t4 .nil)<|e_pv 24 rfl rfl (zb rfl) ?_
          exact zcb (hD0 (u18_1,u18_2,u22_1)) kr ((.of rfl):SubM _ _) .rfl .rfl ((.of [0,1,2,3,4] rfl):SelR _ _ _)
        refine zOb (X:=Wd×Wd) (k':=3) (L':=(lb 25 4194303)) (fun (u18_1,u18_2)=>([(128,ya yb 0),(127,.agg (cw [u18_1,u18_2]).toArray),(16,ya yb ((i:Nat):Int)),(102,ya yb ((i:Nat):Int)),(101,ya yb ((l.length:Nat):Int)),(100,.slice p226 (l.length) c227),(14,yc (some ⟨b30,0,none⟩)),(6,yc (some ⟨b4,0,none⟩)),(5,yc (some ⟨b3,0,none⟩)),(4,yc (some ⟨b2,0,none⟩)),(3,yc (some ⟨b1,0,none⟩))],[],[boxA b30 28 (cw [w328,w429]),rowA 3 (rI .i64) p226 c227 (Rd.pz i l (Rd.flv m l ld lf)),boxA b14 44 [ya yb wf,ya yb hf,ya yb mf,.slice pf nf cf],boxA b11 44 [ya yb wd,ya yb hd,ya yb md,.slice pd nd cd],boxA b8 44 [ya yb w,ya yb h,ya yb m,.slice p n cap],rowA 44 rG (some ⟨b5,0,none⟩) 3 ([(⟨w,h,m,p,n,cap⟩:Gr),(⟨wd,hd,md,pd,nd,cd⟩:Gr),(⟨wf,hf,mf,pf,nf,cf⟩:Gr)]),boxA b4 44 [ya yb 0,ya yb 0,ya yb 0,.slice none 0 0],boxA b3 44 [ya yb wf,ya yb hf,ya yb mf,.slice pf nf cf],boxA b2 44 [ya yb wd,ya yb hd,ya yb md,.slice pd nd cd],boxA b1 44 [ya yb w,ya yb h,ya yb m,.slice p226 (l.length) c227]],[qF true u18_1 u18_2 (Rat.divInt qd2 qd1),qF true w328 w429 (Rd.mn l ld lf),slF (rI .i64) p cap l,slF (rI .i64) pd cd ld,slF (rI .i64) pf cf lf])) ?_ (fun hD2=> ?_)
        ·
         rintro ⟨u18_1,u18_2⟩
         dsimp only [cw]
         refine zzd 22 kr ?_
         ·
          refine zWc rfl rfl rfl rfl (zw zr28 rfl) (fun u22_1 _=> ?_)
          exact zcb (hD1 (u18_1,u18_2,u22_1)) kr ((.of rfl):SubM _ _) .rfl .rfl ((.of [0,1,2,3,4] rfl):SelR _ _ _)
        refine zOb (X:=Nat) (k':=6) (L':=(lb 25 4456447)) (fun u22_1=>([(18,yc (some ⟨u22_1,0,none⟩)),(125,ya yb qd1),(114,ya yb qd2),(16,ya yb ((i:Nat):Int)),(102,ya yb ((i:Nat):Int)),(101,ya yb ((l.length:Nat):Int)),(100,.slice p226 (l.length) c227),(14,yc (some ⟨b30,0,none⟩)),(6,yc (some ⟨b4,0,none⟩)),(5,yc (some ⟨b3,0,none⟩)),(4,yc (some ⟨b2,0,none⟩)),(3,yc (some ⟨b1,0,none⟩))],[boxA u22_1 28 (cw [wz,wz])],[boxA b30 28 (cw [w328,w429]),rowA 3 (rI .i64) p226 c227 (Rd.pz i l (Rd.flv m l ld lf)),boxA b14 44 [ya yb wf,ya yb hf,ya yb mf,.slice pf nf cf],boxA b11 44 [ya yb wd,ya yb hd,ya yb md,.slice pd nd cd],boxA b8 44 [ya yb w,ya yb h,ya yb m,.slice p n cap],rowA 44 rG (some ⟨b5,0,none⟩) 3 ([(⟨w,h,m,p,n,cap⟩:Gr),(⟨wd,hd,md,pd,nd,cd⟩:Gr),(⟨wf,hf,mf,pf,nf,cf⟩:Gr)]),boxA b4 44 [ya yb 0,ya yb 0,ya yb 0,.slice none 0 0],boxA b3 44 [ya yb wf,ya yb hf,ya yb mf,.slice pf nf cf],boxA b2 44 [ya yb wd,ya yb hd,ya yb md,.slice pd nd cd],boxA b1 44 [ya yb w,ya yb h,ya yb m,.slice p226 (l.length) c227]],[qF true w328 w429 (Rd.mn l ld lf),slF (rI .i64) p cap l,slF (rI .i64) pd cd ld,slF (rI .i64) pf cf lf])) ?_ (fun hD3=> ?_)
        ·
         rintro u22_1
         dsimp only [cw]
         refine zzd 18 kr ?_
         ·
          refine zC rfl rfl rfl rfl (.c rfl (.c rfl .n)) ce54 (zYa (z1:=qd2) (z2:=qd1) (hz1:=cbo) (hz2:=cbo) (hy:=cbo)) (.n) ?_
          rintro ⟨u18_1,u18_2⟩ -
          dsimp only [aq,nq,cq]
          refine e_dm 19 rfl rfl rfl<|e_pv 20 rfl rfl (zp rfl rfl)<|e_pv 21 rfl rfl (zp rfl rfl) ?_
          exact zcb (hD1 (u18_1,u18_2,u22_1)) kr ((.of rfl):SubM _ _) .rfl .rfl ((.of [0,1,2,3,4] rfl):SelR _ _ _)
        refine zlg 18 22 kr ?_ ?_
        ·
         refine zC rfl rfl rfl rfl (.c rfl (.c rfl .n)) ce54 (zYa (z1:=qd2) (z2:=qd1) (hz1:=cbo) (hz2:=cbo) (hy:=cbo)) (.n) ?_
         rintro ⟨u18_1,u18_2⟩ -
         dsimp only [aq,nq,cq]
         refine e_dm 19 rfl rfl rfl<|e_pv 20 rfl rfl (zp rfl rfl)<|e_pv 21 rfl rfl (zp rfl rfl) ?_
         exact zcb (hD2 (u18_1,u18_2)) kr ((.of rfl):SubM _ _) .rfl .rfl ((.of [0,1,2,3,4] rfl):SelR _ _ _)
        ·
         refine zWc rfl rfl rfl rfl (zw zr28 rfl) (fun u22_1 _=> ?_)
         exact zcb (hD3 u22_1) kr ((.of rfl):SubM _ _) .rfl .rfl ((.of [0,1,2,3] rfl):SelR _ _ _)
       ·
        refine zea<|zj<|zj<|zr<|zc<|zf<|za<|e_ru (zd 9 ty44 rfl rfl (.t4 .nil))<|zl 6 rfl rfl rfl rfl rfl sz44 rfl (.t4 .nil) (.s (.s (.s (.s (.s (.s .z))))))<|e_p (zb rfl)<|zh<|zc<|zI ?_
        have e46:((Rd.pz i l (Rd.flv m l ld lf)):List Int)=(Rd.out l (Rd.flv m l ld lf)):=by rw [show i=l.length by omega];exact Rd.pz_end _ _
        rw [e46]
        refine zWa 1 rfl (.s .z) ?_
        exact zpa yk (p226,c227,(Rd.out l (Rd.flv m l ld lf))) (⟨fun _=>rfl,fun k=>absurd hof k⟩) (zq 6 ty44 rfl rfl (.t4 .nil)) (zo rfl) (by rw [hof,if_pos rfl,if_pos rfl,if_pos rfl,Rd.out_len,hn]) (ho:=(.n:PickO _ _ _)) ((.c (j:=0) rfl .n):SelR _ _ _)
end Go.Proofs.YtkohlohbogpooaaGreat.Sp
namespace Go.Proofs.YtkohlohbogpooaaGreat.Sp
open Go
set_option linter.unusedVariables false
set_option maxRecDepth 100000
set_option maxHeartbeats 400000
theorem zeg {p:Option Addr} {n:Nat} {cap:Nat} {l:List Int} {zz:Int} (hn:l.length=n) (hn1:1≤n) (hz:∀i,i<n→l.getD i 0=zz):Con yl 45 [.slice p n cap] [] [slF (rI .i64) p cap l] (Y:=Unit) (fun y=>True) (fun y=> ya yb zz) (fun y=>[]) (fun y=>[]):=by
 refine zn Tryz.func45 rfl rfl rfl (fun c=> ?_)
 show RunC _ _ _ _ _ [(0,.slice p n cap)] [] [slF (rI .i64) p cap l]
 refine zY 0 rfl (fun hL0=> ?_)
 refine zf<|za<|e_p (zb rfl)<|zh<|zc<|zf<|zf<|za<|e_mv rfl<|e_p (zB yd rfl)<|e_p (zT rfl rfl)<|zh<|zc<|zx rfl (fun h7=> ?_) (fun h7=> ?_)
 ·
  exact absurd h7 om
 ·
  refine zu<|zc<|zf<|za<|e_mv rfl<|zW (x0:=(l.getD 0 0)) 0 0 rfl yd sz3 rfl rfl rfl cbs rfl rfl (gD (d:=0) om) (fun b1 o2 hok3=> ?_)
  replace hok3:=zE.1 hok3
  refine e_ru (zi (j:=0) 0 ty3 rfl rfl rfl rfl)<|e_p (zb rfl)<|zh<|zc<|zf<|zf<|za<|e_p (zb rfl)<|zh<|zc<|zt<|zfa (X:=Nat) (fun x:Nat=>1≤x∧x≤n) (fun x=>[(3,ya yb zz),(4,ya yb ((x:Nat):Int)),(2,ya yb 0),(0,.slice p n cap)]) (fun x=>[]) (fun x=>[atF b1 o2 [ya yb (l.getD 0 0)],slF (rI .i64) p cap l]) (fun x:Nat=>n - x) 1 (show 1≤1∧1≤n from by omega) ((.e rfl (by rw [show l.getD 0 0=zz from hz 0 om]) (.e rfl (by first|rfl|(congr 1;omega)|simp_all) (.c rfl (.c rfl .n)))):SubM _ _) (ho:=(.n:PickO _ _ _)) ((.of [0,1] rfl):SelR _ _ _) ?_
  rintro i hI
  replace hI:1≤i∧i≤n:=hI
  try dsimp only
  refine zf<|zf<|za<|e_mv rfl<|e_mv rfl<|e_p (zB yd rfl)<|e_p (zT rfl rfl)<|zh<|zc<|zx rfl (fun h4=> ?_) (fun h4=> ?_)
  ·
   refine zu<|zc<|zf<|zt<|za<|e_mv rfl<|e_mv rfl<|e_mv rfl<|zW (x0:=(l.getD i 0)) 1 i rfl yd sz3 rfl rfl rfl cbs rfl rfl (gD (d:=0) om) (fun b5 o6 hok7=> ?_)
   replace hok7:=zE.1 hok7
   refine e_ru (zi (j:=0) 0 ty3 rfl rfl rfl rfl)<|e_p (zgg rfl rfl)<|e_p (zb rfl)<|zh<|zO<|zc<|za<|e_mv rfl<|e_p (zH (z:=(((i+1):Nat):Int)) rfl rfl (w64 om))<|e_p (zb rfl)<|zh<|zca (i+1) (show 1≤(i+1)∧(i+1)≤n from by omega) (by show n - (i+1)<n - i;omega) ((.e rfl (by rw [show l.getD i 0=zz from hz i om];simp) (.of rfl)):SubM _ _) (ho:=(.n:PickO _ _ _)) ((.of [1,2] rfl):SelR _ _ _)
  ·
   refine zea<|zj<|zj<|zr<|zc<|zf<|za<|e_mv rfl<|e_p (zb rfl)<|zh<|zc<|zI ?_
   exact zy Tryz.results45 () trivial (zo rfl) rfl (ho:=(.n:PickO _ _ _)) (.n:SelR _ _ _)
theorem zfg {p:Option Addr} {n:Nat} {cap:Nat} {l:List Int} {zz:Int} (hn:l.length=n) (hn1:1≤n) (hz:∀i,i<n→l.getD i 0=zz):Con yl 46 [.slice p n cap] [] [slF (rI .i64) p cap l] (Y:=Unit) (fun y=>True) (fun y=> ya yb zz) (fun y=>[]) (fun y=>[]):=by
 refine zn Tryz.func46 rfl rfl rfl (fun c=> ?_)
 show RunC _ _ _ _ _ [(0,.slice p n cap)] [] [slF (rI .i64) p cap l]
 refine zY 0 rfl (fun hL0=> ?_)
 refine zf<|za<|e_p (zb rfl)<|zh<|zc<|zf<|zf<|za<|e_mv rfl<|e_p (zB yd rfl)<|e_p (zT rfl rfl)<|zh<|zc<|zx rfl (fun h7=> ?_) (fun h7=> ?_)
 ·
  exact absurd h7 om
 ·
  refine zu<|zc<|zf<|za<|e_mv rfl<|zW (x0:=(l.getD 0 0)) 0 0 rfl yd sz3 rfl rfl rfl cbs rfl rfl (gD (d:=0) om) (fun b1 o2 hok3=> ?_)
  replace hok3:=zE.1 hok3
  refine e_ru (zi (j:=0) 0 ty3 rfl rfl rfl rfl)<|e_p (zb rfl)<|zh<|zc<|zf<|zf<|za<|e_p (zb rfl)<|zh<|zc<|zt<|zfa (X:=Nat) (fun x:Nat=>1≤x∧x≤n) (fun x=>[(3,ya yb zz),(4,ya yb ((x:Nat):Int)),(2,ya yb 0),(0,.slice p n cap)]) (fun x=>[]) (fun x=>[atF b1 o2 [ya yb (l.getD 0 0)],slF (rI .i64) p cap l]) (fun x:Nat=>n - x) 1 (show 1≤1∧1≤n from by omega) ((.e rfl (by rw [show l.getD 0 0=zz from hz 0 om]) (.e rfl (by first|rfl|(congr 1;omega)|simp_all) (.c rfl (.c rfl .n)))):SubM _ _) (ho:=(.n:PickO _ _ _)) ((.of [0,1] rfl):SelR _ _ _) ?_
  rintro i hI
  replace hI:1≤i∧i≤n:=hI
  try dsimp only
  refine zf<|zf<|za<|e_mv rfl<|e_mv rfl<|e_p (zB yd rfl)<|e_p (zT rfl rfl)<|zh<|zc<|zx rfl (fun h4=> ?_) (fun h4=> ?_)
  ·
   refine zu<|zc<|zf<|zt<|za<|e_mv rfl<|e_mv rfl<|e_mv rfl<|zW (x0:=(l.getD i 0)) 1 i rfl yd sz3 rfl rfl rfl cbs rfl rfl (gD (d:=0) om) (fun b5 o6 hok7=> ?_)
   replace hok7:=zE.1 hok7
   refine e_ru (zi (j:=0) 0 ty3 rfl rfl rfl rfl)<|e_p (zcf rfl rfl)<|e_p (zb rfl)<|zh<|zO<|zc<|za<|e_mv rfl<|e_p (zH (z:=(((i+1):Nat):Int)) rfl rfl (w64 om))<|e_p (zb rfl)<|zh<|zca (i+1) (show 1≤(i+1)∧(i+1)≤n from by omega) (by show n - (i+1)<n - i;omega) ((.e rfl (by rw [show l.getD i 0=zz from hz i om];simp) (.of rfl)):SubM _ _) (ho:=(.n:PickO _ _ _)) ((.of [1,2] rfl):SelR _ _ _)
  ·
   refine zea<|zj<|zj<|zr<|zc<|zf<|za<|e_mv rfl<|e_p (zb rfl)<|zh<|zc<|zI ?_
   exact zy Tryz.results46 () trivial (zo rfl) rfl (ho:=(.n:PickO _ _ _)) (.n:SelR _ _ _)
theorem zzb {wd:Int} {hd:Int} {md:Int} {pd:Option Addr} {nd:Nat} {cd:Nat} {ld:List Int} {wf:Int} {hf:Int} {mf:Int} {pf:Option Addr} {nf:Nat} {cf:Nat} {lf:List Int} {kk:Int} (hzwd: -9223372036854775808≤wd∧wd≤9223372036854775807) (hzhd: -9223372036854775808≤hd∧hd≤9223372036854775807) (hzmd: -9223372036854775808≤md∧md≤9223372036854775807) (hzwf: -9223372036854775808≤wf∧wf≤9223372036854775807) (hzhf: -9223372036854775808≤hf∧hf≤9223372036854775807) (hzmf: -9223372036854775808≤mf∧mf≤9223372036854775807) (hnd:ld.length=nd) (hnf:lf.length=nf) (hkk:0≤kk∧kk≤255):Con yl 9 [.agg #[ya yb wd,ya yb hd,ya yb md,.slice pd nd cd],.agg #[ya yb wf,ya yb hf,ya yb mf,.slice pf nf cf],.int .u8 kk] [] [slF (rI .i64) pd cd ld,slF (rI .i64) pf cf lf] (Y:=Unit) (fun y=>True) (fun y=> .bool true) (fun y=>[]) (fun y=>[]):=by
 refine zn Tryz.func9 rfl rfl rfl (fun c=> ?_)
 show RunC _ _ _ _ _ [(0,.agg #[ya yb wd,ya yb hd,ya yb md,.slice pd nd cd]),(1,.agg #[ya yb wf,ya yb hf,ya yb mf,.slice pf nf cf]),(2,.int .u8 kk)] [] [slF (rI .i64) pd cd ld,slF (rI .i64) pf cf lf]
 refine zY 0 rfl (fun hL0=> ?_)
 refine zY 1 rfl (fun hL1=> ?_)
 refine zf<|za<|zL rfl rfl (zX rfl rfl) (fun b1=> ?_)
 refine zL rfl rfl (zX rfl rfl) (fun b2=> ?_)
 refine e_p (zb rfl)<|zh<|zc<|zf<|zf<|za<|zQ rfl rfl (.n) ce10 (zKf) (.n)<|e_p (zyb rfl)<|zh<|zc<|zwa rfl rfl<|zu<|zc<|zf<|zBa (X:=Bool) (fun x=>(x=false→Bl.rok wd hd md ld∧Bl.rok wf hf mf lf∧nd=nf∧wd=wf)) (fun x=>[(48,.bool x),(6,.bool false),(4,yc (some ⟨b2,0,none⟩)),(3,yc (some ⟨b1,0,none⟩)),(2,.int .u8 kk)]) (fun x=>[boxA b2 44 [ya yb wf,ya yb hf,ya yb mf,.slice pf nf cf],boxA b1 44 [ya yb wd,ya yb hd,ya yb md,.slice pd nd cd]]) (fun x=>[slF (rI .i64) pd cd ld,slF (rI .i64) pf cf lf]) ?_ ?_
 ·
  refine za<|e_ru (zd 1 ty44 rfl rfl (.t4 .nil))<|zQ rfl rfl (.c rfl .n) ce20 (zdd (w:=wd) (h:=hd) (m:=md) (p:=pd) (n:=nd) (cap:=cd) (l:=ld) (hn:=ass)) (.c (j:=0) rfl .n)<|e_p (zeb rfl)<|zR rfl rfl (zV rfl) (fun h3=> ?_) (fun h3=> ?_)
  ·
   refine e_no<|e_no<|e_no<|e_p (zk rfl rfl)<|e_mv rfl<|e_no<|e_no<|e_no<|e_p (zk rfl rfl)<|e_mv rfl<|e_no<|e_no<|e_no<|e_p (zk rfl rfl)<|e_mv rfl<|e_no<|e_no<|e_no<|e_no<|e_no<|e_no<|e_no<|e_p (zk rfl rfl)<|e_mv rfl<|e_no<|e_no<|e_no<|e_no<|e_no<|e_p (zk rfl rfl)<|zh ?_
   exact zda true (show (true=false→Bl.rok wd hd md ld∧Bl.rok wf hf mf lf∧nd=nf∧wd=wf) from by (intro e;cases e)) ((.e rfl (congrArg Value.bool cbu) (.of rfl)):SubM _ _) (ho:=((.of [0,0] rfl):PickO _ _ _)) ((.of [0,1] rfl):SelR _ _ _)
  ·
   refine e_ru (zd 0 ty44 rfl rfl (.t4 .nil))<|zQ rfl rfl (.c rfl .n) ce20 (zdd (w:=wf) (h:=hf) (m:=mf) (p:=pf) (n:=nf) (cap:=cf) (l:=lf) (hn:=ass)) (.c (j:=1) rfl .n)<|e_p (zeb rfl)<|e_p (zk rfl rfl)<|zR rfl rfl (zV rfl) (fun h4=> ?_) (fun h4=> ?_)
   ·
    refine e_no<|e_no<|e_no<|e_p (zk rfl rfl)<|e_mv rfl<|e_no<|e_no<|e_no<|e_p (zk rfl rfl)<|e_mv rfl<|e_no<|e_no<|e_no<|e_no<|e_no<|e_no<|e_no<|e_p (zk rfl rfl)<|e_mv rfl<|e_no<|e_no<|e_no<|e_no<|e_no<|e_p (zk rfl rfl)<|zh ?_
    exact zda true (show (true=false→Bl.rok wd hd md ld∧Bl.rok wf hf mf lf∧nd=nf∧wd=wf) from by (intro e;cases e)) ((.e rfl (congrArg Value.bool cbu) (.of rfl)):SubM _ _) (ho:=((.of [0,0] rfl):PickO _ _ _)) ((.of [0,1] rfl):SelR _ _ _)
   ·
    refine e_ru (zd 1 ty44 rfl rfl (.t4 .nil))<|zQ rfl rfl (.c rfl .n) ce22 (zTb (w:=wd) (h:=hd) (m:=md) (p:=pd) (n:=nd) (cap:=cd) (l:=ld) (hn:=ass)) (.c (j:=0) rfl .n)<|e_p (zra rfl rfl)<|e_p (zk rfl rfl)<|zR rfl rfl (zV rfl) (fun hb2=> ?_) (fun hb2=> ?_)
    ·
     refine e_no<|e_no<|e_no<|e_p (zk rfl rfl)<|e_mv rfl<|e_no<|e_no<|e_no<|e_no<|e_no<|e_no<|e_no<|e_p (zk rfl rfl)<|e_mv rfl<|e_no<|e_no<|e_no<|e_no<|e_no<|e_p (zk rfl rfl)<|zh ?_
     exact zda true (show (true=false→Bl.rok wd hd md ld∧Bl.rok wf hf mf lf∧nd=nf∧wd=wf) from by (intro e;cases e)) ((.e rfl (congrArg Value.bool cbu) (.of rfl)):SubM _ _) (ho:=((.of [0,0] rfl):PickO _ _ _)) ((.of [0,1] rfl):SelR _ _ _)
    ·
     refine e_ru (zd 0 ty44 rfl rfl (.t4 .nil))<|zQ rfl rfl (.c rfl .n) ce22 (zTb (w:=wf) (h:=hf) (m:=mf) (p:=pf) (n:=nf) (cap:=cf) (l:=lf) (hn:=ass)) (.c (j:=1) rfl .n)<|e_p (zra rfl rfl)<|e_p (zk rfl rfl)<|zR rfl rfl (zV rfl) (fun hb3=> ?_) (fun hb3=> ?_)
     ·
      refine e_no<|e_no<|e_no<|e_no<|e_no<|e_no<|e_no<|e_p (zk rfl rfl)<|e_mv rfl<|e_no<|e_no<|e_no<|e_no<|e_no<|e_p (zk rfl rfl)<|zh ?_
      exact zda true (show (true=false→Bl.rok wd hd md ld∧Bl.rok wf hf mf lf∧nd=nf∧wd=wf) from by (intro e;cases e)) ((.e rfl (congrArg Value.bool cbu) (.of rfl)):SubM _ _) (ho:=((.of [0,0] rfl):PickO _ _ _)) ((.of [0,1] rfl):SelR _ _ _)
     ·
      refine e_p (zg ye rfl sz42 rfl rfl)<|e_ru (ze 1 ty42 rfl rfl rfl)<|e_p (zB yd rfl)<|e_p (zg ye rfl sz42 rfl rfl)<|e_ru (ze 0 ty42 rfl rfl rfl)<|e_p (zB yd rfl)<|e_p (zra rfl rfl)<|e_p (zk rfl rfl)<|zR rfl rfl (zV rfl) (fun hb4=> ?_) (fun hb4=> ?_)
      ·
       refine e_no<|e_no<|e_no<|e_no<|e_no<|e_p (zk rfl rfl)<|zh ?_
       exact zda true (show (true=false→Bl.rok wd hd md ld∧Bl.rok wf hf mf lf∧nd=nf∧wd=wf) from by (intro e;cases e)) ((.e rfl (congrArg Value.bool cbu) (.of rfl)):SubM _ _) (ho:=((.of [0,0] rfl):PickO _ _ _)) ((.of [0,1] rfl):SelR _ _ _)
      ·
       refine e_p (zg ye rfl sz3 rfl rfl)<|e_ru (ze 1 ty3 rfl rfl rfl)<|e_p (zg ye rfl sz3 rfl rfl)<|e_ru (ze 0 ty3 rfl rfl rfl)<|e_p (zra rfl rfl)<|e_p (zk rfl rfl)<|zh ?_
       exact zda (decide (wd≠wf)) (show ((decide (wd≠wf))=false→Bl.rok wd hd md ld∧Bl.rok wf hf mf lf∧nd=nf∧wd=wf) from by (intro e;exact ⟨Bl.c0.1 (Decidable.not_not.1 hb2),Bl.c0.1 (Decidable.not_not.1 hb3),by omega,Decidable.not_not.1 (of_decide_eq_false e)⟩)) ((.e rfl (congrArg Value.bool cbu) (.of rfl)):SubM _ _) (ho:=((.of [0,0] rfl):PickO _ _ _)) ((.of [0,1] rfl):SelR _ _ _)
 ·
  rintro g9 hC
  replace hC:(g9=false→Bl.rok wd hd md ld∧Bl.rok wf hf mf lf∧nd=nf∧wd=wf):=hC
  try dsimp only
  refine zAb rfl (fun h48=> ?_) (fun h48=> ?_)
  ·
   refine zf<|za<|e_p (zb rfl)<|zh<|zc<|zI<|zm ?_
   exact zy Tryz.results9 () trivial (zo rfl) rfl (ho:=(.n:PickO _ _ _)) (.n:SelR _ _ _)
  ·
   obtain ⟨hrd,hrf,hnn,hww⟩:=hC (by simpa using h48)
   have hrd2:=hrd
   have hrf2:=hrf
   obtain ⟨d1,d2,d3,d4,d5⟩:=hrd2
   obtain ⟨f1,f2,f3,f4,f5⟩:=hrf2
   have hb9:=Bl.mul_b (x:=wf) (y:=hf) (m:=64) (n:=64) om om
   have hn0:0<wf*hf:=Int.mul_pos om om
   refine zu<|zc<|zf<|za<|e_p (zg ye rfl sz3 rfl rfl)<|e_ru (ze 0 ty3 rfl rfl rfl)<|e_p (zg ye rfl sz3 rfl rfl)<|e_ru (ze 0 ty3 rfl rfl rfl)<|e_p (zM zr44 rfl ye (.c sz3 (.c sz3 (.c sz3 (.c sz42 .n)))) (.c rfl (.c rfl (.c rfl .n))) (.c rfl rfl rfl (.take .nil) (.c rfl rfl rfl (.skip (.take .nil)) (.c rfl rfl rfl (.s2 (.take .nil)) .n))))<|zL rfl rfl (zw zr44 rfl) (fun b5=> ?_)
   refine zl 0 rfl rfl rfl rfl rfl sz44 rfl (.t4 .nil) .z<|zh<|zc<|zf<|zf<|zyc 3 (rI .i64)<|za<|e_p (zg ye rfl sz42 rfl rfl)<|e_ru (ze 2 ty42 rfl rfl rfl)<|e_p (zB yd rfl)<|e_mv rfl<|zh<|zc<|zt<|zfa (X:=Nat×(List Int)×(Option Addr)×Nat) (fun x:Nat×(List Int)×(Option Addr)×Nat=>x.1≤nf∧Rd.Mk kk ld lf x.2.1 x.1) (fun x=>[(57,ya yb ((x.1:Nat):Int)),(56,ya yb ((nf:Nat):Int)),(55,.slice pf nf cf),(7,yc (some ⟨b5,0,none⟩)),(4,yc (some ⟨b2,0,none⟩)),(3,yc (some ⟨b1,0,none⟩)),(2,.int .u8 kk)]) (fun x=>[rowA 3 (rI .i64) (x.2.2.1) (x.2.2.2) (x.2.1),boxA b5 44 [ya yb wf,ya yb hf,ya yb 65535,.slice (x.2.2.1) (x.1) (x.2.2.2)],boxA b2 44 [ya yb wf,ya yb hf,ya yb mf,.slice pf nf cf],boxA b1 44 [ya yb wd,ya yb hd,ya yb md,.slice pd nd cd]]) (fun x=>[slF (rI .i64) pd cd ld,slF (rI .i64) pf cf lf]) (fun x:Nat×(List Int)×(Option Addr)×Nat=>nf - x.1) (0,([]:List Int),none,0) (show 0≤nf∧Rd.Mk kk ld lf ([]:List Int) 0 from by exact ⟨Nat.zero_le _,Rd.Mk.nil _ _ _⟩) ((.e rfl (by first|rfl|(congr 1;omega)|simp_all) (.of rfl)):SubM _ _) (ho:=((.e (i:=0) rfl (by first|rfl|(congr 1;omega)|simp_all) (.of [0,0,0] rfl)):PickO _ _ _)) ((.of [0,1] rfl):SelR _ _ _) ?_
   rintro ⟨i,o,pO,cO⟩ hIl
   replace hIl:i≤nf∧Rd.Mk kk ld lf o i:=hIl
   try dsimp only
   obtain ⟨hi,hmk⟩:=hIl
   refine zf<|za<|e_p (zT rfl rfl)<|zh<|zc<|zf<|zx rfl (fun h6=> ?_) (fun h6=> ?_)
   ·
    have hpd:¬(ld.getD i 0<0∨md<ld.getD i 0):=fun k=>d5 ⟨_,yj om,k⟩
    have hpf:¬(lf.getD i 0<0∨mf<lf.getD i 0):=fun k=>f5 ⟨_,yj om,k⟩
    have hmk9:=Rd.mul_k (a:=lf.getD i 0 - ld.getD i 0) (k:=kk) om hkk
    have hfdi:Rd.fd ld lf i=lf.getD i 0 - ld.getD i 0:=rfl
    have hol:=hmk.len
    refine zu<|zc<|zf<|zt<|zf<|za<|e_mv rfl<|zW (x0:=(lf.getD i 0)) 1 i rfl yd sz3 rfl rfl rfl cbo rfl rfl (gD (d:=0) om) (fun b7 o8 hok9=> ?_)
    replace hok9:=zE.1 hok9
    refine e_ru (zi (j:=0) 0 ty3 rfl rfl rfl rfl)<|e_p (zb rfl)<|e_p (zb rfl)<|zh<|zc<|zf<|zaa (OW:=[]) (O:=[rowA 3 (rI .i64) pO cO o,boxA b5 44 [ya yb wf,ya yb hf,ya yb 65535,.slice pO i cO],boxA b2 44 [ya yb wf,ya yb hf,ya yb mf,.slice pf nf cf],boxA b1 44 [ya yb wd,ya yb hd,ya yb md,.slice pd nd cd]]) 100000 mixed (.then (.block (.then (.then (.block (.then .ret)))))) kr<|e_pv 0 rfl rfl (zg ye rfl sz42 rfl rfl)<|e_u 1 rfl rfl (ze 3 ty42 rfl rfl rfl)<|e_dm 2 rfl rfl rfl<|zia (x0:=(ld.getD i 0)) 3 rfl rfl kr kr 1 i rfl yd sz3 rfl rfl rfl cbo rfl rfl (gD (d:=0) om) (fun b10 o11 hok12=> ?_)
    replace hok12:=zE.1 hok12
    refine e_u 4 rfl rfl (zi (j:=0) 0 ty3 rfl rfl rfl rfl)<|e_dm 5 rfl rfl rfl<|e_pv 6 rfl rfl (zg ye rfl sz42 rfl rfl)<|e_u 7 rfl rfl (ze 3 ty42 rfl rfl rfl)<|e_dm 8 rfl rfl rfl<|zia (x0:=(ld.getD i 0)) 9 rfl rfl kr kr 2 i rfl yd sz3 rfl rfl rfl cbo rfl rfl (gD (d:=0) om) (fun b13 o14 hok15=> ?_)
    replace hok15:=zE.1 hok15
    refine e_u 10 rfl rfl (zi (j:=0) 0 ty3 rfl rfl rfl rfl)<|e_pv 11 rfl rfl (zja (z:=((lf.getD i 0) - (ld.getD i 0))) rfl rfl (w64 om))<|e_dm 12 rfl rfl rfl<|e_pv 13 rfl rfl (zD (z:=kk) rfl (by rw [Tryz.underlying5];rfl) Tryz.underlying3 (w64 om))<|e_pv 14 rfl rfl (zva (z:=(((lf.getD i 0) - (ld.getD i 0))*kk)) rfl rfl (w64 om))<|e_pv 15 rfl rfl (zH (z:=((ld.getD i 0)+(((lf.getD i 0) - (ld.getD i 0))*kk))) rfl rfl (w64 om))<|e_pv 16 rfl rfl (zb rfl)<|zZ kr<|zc<|zf<|zBa (X:=Unit) (fun x=>True) (fun x=>[(88,.bool (decide (((lf.getD i 0)≤(ld.getD i 0))∨(65535<((ld.getD i 0)+(((lf.getD i 0) - (ld.getD i 0))*kk)))))),(10,ya yb ((ld.getD i 0)+(((lf.getD i 0) - (ld.getD i 0))*kk))),(57,ya yb ((i:Nat):Int)),(56,ya yb ((nf:Nat):Int)),(55,.slice pf nf cf),(7,yc (some ⟨b5,0,none⟩)),(4,yc (some ⟨b2,0,none⟩)),(3,yc (some ⟨b1,0,none⟩)),(2,.int .u8 kk)]) (fun x=>[rowA 3 (rI .i64) pO cO o,boxA b5 44 [ya yb wf,ya yb hf,ya yb 65535,.slice pO i cO],boxA b2 44 [ya yb wf,ya yb hf,ya yb mf,.slice pf nf cf],boxA b1 44 [ya yb wd,ya yb hd,ya yb md,.slice pd nd cd]]) (fun x=>[atF b13 o14 [ya yb (ld.getD i 0)],atF b10 o11 [ya yb (ld.getD i 0)],atF b7 o8 [ya yb (lf.getD i 0)],slF (rI .i64) pd cd ld,slF (rI .i64) pf cf lf]) ?_ ?_
    ·
     refine za<|e_mv rfl<|e_p (zg ye rfl sz42 rfl rfl)<|e_ru (ze 3 ty42 rfl rfl rfl)<|e_mv rfl<|zW (x0:=(ld.getD i 0)) 3 i rfl yd sz3 rfl rfl rfl cbo rfl rfl (gD (d:=0) om) (fun b16 o17 hok18=> ?_)
     replace hok18:=zE.1 hok18
     refine e_ru (zi (j:=0) 0 ty3 rfl rfl rfl rfl)<|e_p (zlc rfl rfl)<|zR rfl rfl (zV rfl) (fun h19=> ?_) (fun h19=> ?_)
     ·
      refine e_no<|e_no<|e_p (zk rfl rfl)<|zh ?_
      exact zda () (show True from by first|trivial|omega|simp_all) ((.e rfl (congrArg Value.bool cbu) (.of rfl)):SubM _ _) (ho:=((.of [0,0,0,0] rfl):PickO _ _ _)) ((.of [1,2,3,4,5] rfl):SelR _ _ _)
     ·
      refine e_mv rfl<|e_p (zma rfl rfl)<|e_p (zk rfl rfl)<|zh ?_
      exact zda () (show True from by first|trivial|omega|simp_all) ((.e rfl (congrArg Value.bool cbu) (.of rfl)):SubM _ _) (ho:=((.of [0,0,0,0] rfl):PickO _ _ _)) ((.of [1,2,3,4,5] rfl):SelR _ _ _)
    ·
     rintro ⟨⟩ -
     try dsimp only
     refine zx rfl (fun h88=> ?_) (fun h88=> ?_)
     ·
      refine zf<|za<|e_p (zb rfl)<|zh<|zc<|zI<|zm<|zN<|zm<|zm<|zN<|zm ?_
      exact zy Tryz.results9 () trivial (zo rfl) rfl (ho:=(.n:PickO _ _ _)) (.n:SelR _ _ _)
     ·
      have hpos:0≤(lf.getD i 0 - ld.getD i 0)*kk:=Int.mul_nonneg om hkk.1
      refine zu<|zc<|za<|e_p (zg ye rfl sz42 rfl rfl)<|e_ru (ze 1 ty42 rfl rfl rfl)<|e_mv rfl<|zsa rfl rfl (zS (enc:=fun z:Int=>[ya yb z]) (ok:=InK .i64) (h1:=fun _=>rfl) (h2:=fun _=>rfl) (k:=1) yd inf3 rfl dd dd dd (.c (x:=((ld.getD i 0)+(((lf.getD i 0) - (ld.getD i 0))*kk))) rfl rfl (fun _ _=>by exact zE.2 om) .n)) (fun b20 _=> ?_)
      refine zha 0 rfl .z<|zya 1 rfl rfl rfl (zta 0 rfl yd inf3 dd rfl rfl cbo rfl cbo om om) (fun _=>(.s .z)) ?_
      rintro ⟨p21,c22⟩ -
      dsimp only [aq,nq,cq]
      refine e_p (zg ye rfl sz42 rfl rfl)<|zl 2 rfl rfl rfl rfl rfl sz42 rfl (.s2 (.skip (.take .nil))) (.s (.s .z))<|zh<|zO<|zc<|za<|e_p (zH (z:=(((i+1):Nat):Int)) rfl rfl (w64 om))<|e_mv rfl<|zh<|zca ((i+1),(o++([((ld.getD i 0)+(((lf.getD i 0) - (ld.getD i 0))*kk))])),p21,c22) (show (i+1)≤nf∧Rd.Mk kk ld lf (o++([((ld.getD i 0)+(((lf.getD i 0) - (ld.getD i 0))*kk))])) (i+1) from by exact ⟨by omega,hmk.snoc om (by rw [hfdi]) om⟩) (by show nf - (i+1)<nf - i;omega) ((.of rfl):SubM _ _) (ho:=((.c (i:=1) rfl (.e (i:=1) rfl (by first|rfl|(congr 1;omega)|simp_all) (.of [1,1] rfl))):PickO _ _ _)) ((.of [4,5] rfl):SelR _ _ _)
   ·
    refine zea<|zj<|zj<|zr<|zc<|zf ?_
    have hol:=hmk.len
    have hin:i=lf.length:=by omega
    rw [hin] at hmk
    have hc0:=hmk.code hrd hrf om hww
    refine za<|e_ru (zd 1 ty44 rfl rfl (.t4 .nil))<|e_ru (zd 3 ty44 rfl rfl (.t4 .nil))<|e_ru (zd 2 ty44 rfl rfl (.t4 .nil))<|zha 0 rfl .z<|zv rfl rfl (.c rfl (.c rfl (.c rfl .n))) ce42 (zdg (w:=wf) (h:=hf) (m:=65535) (p:=pO) (n:=i) (cap:=cO) (l:=o) (wd:=wd) (hd:=hd) (md:=md) (pd:=pd) (nd:=nd) (cd:=cd) (ld:=ld) (wf:=wf) (hf:=hf) (mf:=mf) (pf:=pf) (nf:=nf) (cf:=cf) (lf:=lf) (hzw:=ass) (hzh:=ass) (hzm:=cbo) (hzwd:=ass) (hzhd:=ass) (hzmd:=ass) (hzwf:=ass) (hzhf:=ass) (hzmf:=ass) (hn:=cbo) (hnd:=ass) (hnf:=ass)) (.c (j:=0) rfl (.c (j:=1) rfl (.c (j:=2) rfl .n))) ?_
    rintro ⟨p323,c324,oo⟩ hfl
    dsimp only [aq,nq,cq]
    replace hfl:((Rd.flC wf hf 65535 o wd hd md ld wf hf mf lf)=0→oo=Rd.out o (Rd.flv 65535 o ld lf))∧((Rd.flC wf hf 65535 o wd hd md ld wf hf mf lf)≠0→oo=[]):=hfl
    refine e_mv rfl<|e_p (zp rfl rfl)<|e_p (zp rfl rfl)<|zL rfl rfl (zw zr44 rfl) (fun b25=> ?_)
    refine zl 0 rfl rfl rfl rfl rfl sz44 rfl (.t4 .nil) .z<|e_p (zb rfl)<|zh<|zc ?_
    have e26:(Rd.flC wf hf 65535 o wd hd md ld wf hf mf lf:Int)=0:=by exact hc0
    rw [e26]
    have e27:oo=(Rd.out o (Rd.flv 65535 o ld lf)):=by exact hfl.1 hc0
    subst e27
    have hool:=Rd.out_len o (Rd.flv 65535 o ld lf)
    refine zBa (X:=Unit) (fun x=>True) (fun x=>[(6,.bool true)]) (fun x=>[boxA b25 44 [ya yb (if 0=0 then wf else 0),ya yb (if 0=0 then hf else 0),ya yb (if 0=0 then 65535 else 0),.slice p323 ((Rd.out o (Rd.flv 65535 o ld lf)).length) c324],boxA b5 44 [ya yb wf,ya yb hf,ya yb 65535,.slice pO i cO],boxA b2 44 [ya yb wf,ya yb hf,ya yb mf,.slice pf nf cf],boxA b1 44 [ya yb wd,ya yb hd,ya yb md,.slice pd nd cd]]) (fun x=>[slF (rI .i64) p323 c324 (Rd.out o (Rd.flv 65535 o ld lf)),slF (rI .i64) pO cO o,slF (rI .i64) pd cd ld,slF (rI .i64) pf cf lf]) ?_ ?_
    ·
     refine zaa (OW:=[]) (O:=[boxA b25 44 [ya yb (if 0=0 then wf else 0),ya yb (if 0=0 then hf else 0),ya yb (if 0=0 then 65535 else 0),.slice p323 ((Rd.out o (Rd.flv 65535 o ld lf)).length) c324],emA,boxA b5 44 [ya yb wf,ya yb hf,ya yb 65535,.slice pO i cO],boxA b2 44 [ya yb wf,ya yb hf,ya yb mf,.slice pf nf cf],boxA b1 44 [ya yb wd,ya yb hd,ya yb md,.slice pd nd cd]]) 100000 mixed (.then .ret) kr<|e_dm 0 rfl rfl rfl<|e_pv 1 rfl rfl (zua rfl rfl)<|e_dm 2 rfl rfl rfl<|e_pv 3 rfl rfl (zg ye rfl sz42 rfl rfl)<|e_u 4 rfl rfl (ze 0 ty42 rfl rfl rfl)<|e_pv 5 rfl rfl (zB yd rfl)<|e_pv 6 rfl rfl (zg ye rfl sz42 rfl rfl)<|e_u 7 rfl rfl (ze 2 ty42 rfl rfl rfl)<|e_pv 8 rfl rfl (zB yd rfl)<|e_pv 9 rfl rfl (zua rfl rfl) ?_
     rw [show (decide ((((Rd.out o (Rd.flv 65535 o ld lf)).length:Nat):Int)=((i:Nat):Int)))=true from by exact decide_eq_true om]
     refine e_pv 10 rfl rfl (zk rfl rfl)<|e_dm 11 rfl rfl rfl<|e_pv 12 rfl rfl (zg ye rfl sz42 rfl rfl)<|e_u 13 rfl rfl (ze 0 ty42 rfl rfl rfl)<|e_pv 15 rfl rfl (zg ye rfl sz42 rfl rfl)<|e_u 16 rfl rfl (ze 0 ty42 rfl rfl rfl)<|e_one 14 (zGa rfl rfl rfl rfl (.c rfl .n) ce45 (zeg (p:=p323) (n:=(Rd.out o (Rd.flv 65535 o ld lf)).length) (cap:=c324) (l:=(Rd.out o (Rd.flv 65535 o ld lf))) (zz:=(Rd.gr ((kk:Rat)*Rd.mn o ld lf) 65535)) (hn:=by rfl) (hn1:=om) (hz:=by exact fun i hi=>hmk.const i om)) (.c (j:=0) rfl .n) ?_)
     refine e_one 17 (zGa rfl rfl rfl rfl (.c rfl .n) ce46 (zfg (p:=p323) (n:=(Rd.out o (Rd.flv 65535 o ld lf)).length) (cap:=c324) (l:=(Rd.out o (Rd.flv 65535 o ld lf))) (zz:=(Rd.gr ((kk:Rat)*Rd.mn o ld lf) 65535)) (hn:=by rfl) (hn1:=om) (hz:=by exact fun i hi=>hmk.const i om)) (.c (j:=0) rfl .n) ?_)
     refine e_pv 18 rfl rfl (zua rfl rfl) ?_
     rw [show (decide ((Rd.gr ((kk:Rat)*Rd.mn o ld lf) 65535)=(Rd.gr ((kk:Rat)*Rd.mn o ld lf) 65535)))=true from by exact decide_eq_true rfl]
     refine e_pv 19 rfl rfl (zk rfl rfl)<|e_pv 20 rfl rfl (zb rfl)<|zZ kr ?_
     exact zda () (show True from by first|trivial|omega|simp_all) ((.c rfl .n):SubM _ _) (ho:=((.of [0,1,1,1] rfl):PickO _ _ _)) ((.of [0,1,2,3] rfl):SelR _ _ _)
    ·
     rintro ⟨⟩ -
     try dsimp only
     refine zI ?_
     exact zy Tryz.results9 () trivial (zo rfl) rfl (ho:=(.n:PickO _ _ _)) (.n:SelR _ _ _)
end Go.Proofs.YtkohlohbogpooaaGreat.Sp
namespace Go.Proofs.YtkohlohbogpooaaGreat.Sp
open Go Go.RowKit Go.ChangeShapes Go.WideShapes
set_option linter.unusedVariables false
set_option linter.unusedSectionVars false
structure Bk (B:{H:Type}→DataW H→Nat):Prop where
  one:∀{H:Type} (d:DataW H),1≤B d
  slice:∀{H:Type} (es sp:List (DataW H)),(es.map B).sum+1≤B (.slice es sp)
  agg:∀{H:Type} (ps:List (DataW H)),(ps.map B).sum+1≤B (.agg ps)
section
variable {B : {H : Type} → DataW H → Nat} {P : Program} {t e : TypeId} {α β : Type} {r : Rp α} {s : Rp β} {mz : α → Nat} {mw : β → Nat}
def Reads2 {H:Type} (enc:TypeId×Value→H) (P:Program) (W:World) (base:Nat) (sp:Nat→Bool) (held:Bool) (n:Nat) (cs:List Value):List (TypeId×Nat)→List (DataW H×List MemPlace)→Prop
  |[],[]=>True
  |q :: ps,x :: xs=>DataW.trod enc P W base sp held n q.1 ((cs.drop q.2).take (P.cellsOf q.1))=some x∧Reads2 enc P W base sp held n cs ps xs
  |_,_=>False
theorem Reads2.of {H:Type} {enc:TypeId×Value→H} {W:World} {base:Nat} {sp:Nat→Bool} {held:Bool} {n:Nat} {cs:List Value}:∀{ps:List (TypeId×Nat)} {xs:List (DataW H×List MemPlace)},xs.length=ps.length→(∀(i:Nat) (q:TypeId×Nat),ps[i]? =some q→DataW.trod enc P W base sp held n q.1 ((cs.drop q.2).take (P.cellsOf q.1))=xs[i]?)→Reads2 enc P W base sp held n cs ps xs
  |[],[],_,_=>trivial
  |[],_ :: _,h,_=>by simp at h
  |_ :: _,[],h,_=>by simp at h
  |q :: ps,x :: xs,hl,h=>⟨by simpa using h 0 q rfl,Reads2.of (by simpa using hl) fun i q' hq=>by simpa using h (i+1) q' (by simpa using hq)⟩
end
end Go.Proofs.YtkohlohbogpooaaGreat.Sp
