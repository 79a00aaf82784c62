/- Lemmas on the walk and plain lemmas that the claim of this folder uses; each states its own conditions. Lines were printed by a program of ours. -/
import Derived.Test.YtkohlohbogpooaaGreatZ6D
set_option linter.unusedVariables false
set_option linter.unusedSimpArgs false
set_option linter.unusedSectionVars false
open Go.Value renaming int → ya
open Go.IntKind renaming i64 → yb
open Go.Proofs.Tryz renaming underlying68 → yc, underlying42 → yd, underlying55 → ye, underlying88 → yf, underlying56 → yg, underlying3 → yh, underlying65 → yi, results31 → yj, underlying44 → yk, underlying66 → yl, underlying5 → ym
namespace Go.Proofs.YtkohlohbogpooaaGreat.Rd
open Mx
set_option linter.unusedVariables false
abbrev Fi:=Nat→Nat→Int
def add1 (f:Fi) (a b:Nat) (v:Int):Fi:=fun i j=>if i=a∧j=b then f i j+v else f i j
def uf (f:Fi) (c:Cm):Fi:=add1 (add1 (add1 (add1 f c.a.toNat c.a.toNat c.w) c.b.toNat c.b.toNat c.w) c.a.toNat c.b.toNat (-c.w)) c.b.toNat c.a.toNat (-c.w)
def J0 (p:List Int):Fi:=fun i j=>if p.getD i 0=p.getD j 0 then 1 else 0
def FK (p:List Int) (l:List Cm):Fi:=l.foldl uf (J0 p)
def rs (r:List Int) (c:Cm):List Int:=
  let r1:=r.set c.a.toNat (r.getD c.a.toNat 0+c.w*c.d)
  r1.set c.b.toNat (r1.getD c.b.toNat 0 - c.w*c.d)
def RK (n:Nat) (l:List Cm):List Int:=l.foldl rs (List.replicate n 0)
def mkI (K N:Nat) (f:Fi):List (List Int):=(List.range K).map fun i=>(List.range N).map (f i)
theorem mkI_len (K N:Nat) (f:Fi):(mkI K N f).length=K:=by unfold mkI;simp
theorem mkI_row {K N i:Nat} {f:Fi} (h:i<K):(mkI K N f).getD i []=(List.range N).map (f i):=by
  unfold mkI;rw [List.getD_eq_getElem?_getD,List.getElem?_map,List.getElem?_range h];rfl
theorem mapI_get {N j:Nat} {g:Nat→Int} (h:j<N):((List.range N).map g).getD j 0=g j:=by
  rw [List.getD_eq_getElem?_getD,List.getElem?_map,List.getElem?_range h];rfl
theorem mkI_get {K N i j:Nat} {f:Fi} (h:i<K) (hj:j<N):((mkI K N f).getD i []).getD j 0=f i j:=by rw [mkI_row h,mapI_get hj]
theorem mkI_rl {K N i:Nat} {f:Fi} (h:i<K):((mkI K N f).getD i []).length=N:=by rw [mkI_row h];simp
theorem mkI_set {K N a b:Nat} {f:Fi} {v:Int} (ha:a<K) (hb:b<N):(mkI K N f).set a (((mkI K N f).getD a []).set b (f a b+v))=mkI K N (add1 f a b v):=by
  refine ext_getD [] (by rw [List.length_set,mkI_len,mkI_len]) fun i hi=> ?_
  rw [List.length_set,mkI_len] at hi
  rw [getD_set (by rw [mkI_len];exact ha),mkI_row (f:=add1 f a b v) hi]
  by_cases e:i=a
  · subst e
    rw [if_pos rfl]
    refine ext_getD 0 (by rw [List.length_set,mkI_rl hi];simp) fun j hj=> ?_
    rw [List.length_set,mkI_rl hi] at hj
    rw [getD_set (by rw [mkI_rl hi];exact hb),mapI_get hj,mkI_get hi hj]
    unfold add1
    by_cases k:j=b
    · subst k;rw [if_pos rfl,if_pos ⟨rfl,rfl⟩]
    · rw [if_neg k,if_neg (fun z=>k z.2)]
  · rw [if_neg e, mkI_row hi]
    exact List.map_congr_left fun j _=>by unfold add1;rw [if_neg (fun z=>e z.1)]
theorem mkI_sub {K N a b:Nat} {f:Fi} {v:Int} (ha:a<K) (hb:b<N):(mkI K N f).set a (((mkI K N f).getD a []).set b (f a b - v))=mkI K N (add1 f a b (-v)):=by rw [Int.sub_eq_add_neg];exact mkI_set ha hb
theorem take_fold {α:Type} {β:Type} (g:β→α→β) (z:β) {l:List α} {i:Nat} (d:α) (h:i<l.length):(l.take (i+1)).foldl g z=g ((l.take i).foldl g z) (l.getD i d):=by
  rw [List.take_add_one,List.getElem?_eq_getElem h,List.foldl_append,List.getD_eq_getElem?_getD,List.getElem?_eq_getElem h];rfl
theorem mkI_succ (K N:Nat) (f:Fi):mkI (K+1) N f=mkI K N f++[(List.range N).map (f K)]:=by unfold mkI;rw [List.range_succ,List.map_append];rfl
def fz (i n:Nat) (f:Nat→Int):List Int:=(List.range n).map fun c=>if c<i then f c else 0
theorem fz_len (i n:Nat) (f:Nat→Int):(fz i n f).length=n:=by unfold fz;simp
theorem fz_start (n:Nat) (f:Nat→Int):List.replicate n 0=fz 0 n f:=by
  refine ext_getD 0 (by rw [fz_len,List.length_replicate]) fun c hc=> ?_
  rw [List.length_replicate] at hc
  unfold fz
  rw [mapI_get hc,if_neg (by omega),List.getD_eq_getElem?_getD,List.getElem?_replicate,if_pos hc];rfl
theorem fz_step {i n:Nat} {f:Nat→Int} (hi:i<n):(fz i n f).set i (f i)=fz (i+1) n f:=by
  refine ext_getD 0 (by rw [List.length_set,fz_len,fz_len]) fun c hc=> ?_
  rw [List.length_set,fz_len] at hc
  rw [getD_set (by rw [fz_len];exact hi)]
  unfold fz
  rw [mapI_get hc,mapI_get hc]
  by_cases k:c=i
  · subst k;rw [if_pos rfl,if_pos (by omega)]
  · rw [if_neg k]
    by_cases q:c<i
    · rw [if_pos q,if_pos (by omega)]
    · rw [if_neg q,if_neg (by omega)]
theorem fz_step' {i n:Nat} {f:Nat→Int} {v:Int} (hi:i<n) (hv:f i=v):(fz i n f).set i v=fz (i+1) n f:=by rw [← hv];exact fz_step hi
theorem fz_skip {i n:Nat} {f:Nat→Int} (hi:i<n) (h0:f i=0):fz i n f=fz (i+1) n f:=by
  rw [← fz_step hi,h0]
  refine ext_getD 0 (by rw [List.length_set]) fun c hc=> ?_
  rw [fz_len] at hc
  rw [getD_set (by rw [fz_len];exact hi)]
  by_cases k:c=i
  · subst k;rw [if_pos rfl];unfold fz;rw [mapI_get hc,if_neg (by omega)]
  · rw [if_neg k]
theorem fz_end (n:Nat) (f:Nat→Int):fz n n f=(List.range n).map f:=by
  unfold fz;exact List.map_congr_left fun c hc=>by rw [if_pos (List.mem_range.1 hc)]
theorem rnd_take {l:List Cm} {i:Nat} {p:List Int} (h:i<l.length):rnd (l.take (i+1)) p=st (rnd (l.take i) p) (l.getD i c0):=take_fold st p c0 h
theorem FK_take {l:List Cm} {i:Nat} {p:List Int} (h:i<l.length):FK p (l.take (i+1))=uf (FK p (l.take i)) (l.getD i c0):=take_fold uf _ c0 h
theorem RK_take {l:List Cm} {i n:Nat} (h:i<l.length):RK n (l.take (i+1))=rs (RK n (l.take i)) (l.getD i c0):=take_fold rs _ c0 h
theorem J0_1 {p:List Int} {i j:Nat} (h:p.getD i 0=p.getD j 0):J0 p i j=1:=if_pos h
theorem J0_0 {p:List Int} {i j:Nat} (h:¬p.getD i 0=p.getD j 0):J0 p i j=0:=if_neg h
def fb (f:Fi) (B:Int):Prop:=∀i j,-B≤f i j∧f i j≤B
theorem fb_add {f:Fi} {B v W:Int} {a b:Nat} (h:fb f B) (hv: -W≤v∧v≤W):fb (add1 f a b v) (B+W):=fun i j=>by
  have:=h i j
  unfold add1;split <;> omega
theorem fb_uf {f:Fi} {B:Int} {c:Cm} (h:fb f B) (hw:1≤c.w∧c.w≤4096):fb (uf f c) (B+16384):=fun i j=>by
  have:=fb_add (W:=4096) (v:= -c.w) (a:=c.b.toNat) (b:=c.a.toNat) (fb_add (W:=4096) (v:= -c.w) (a:=c.a.toNat) (b:=c.b.toNat) (fb_add (W:=4096) (v:=c.w) (a:=c.b.toNat) (b:=c.b.toNat) (fb_add (W:=4096) (v:=c.w) (a:=c.a.toNat) (b:=c.a.toNat) h (by omega)) (by omega)) (by omega)) (by omega) i j
  unfold uf;omega
theorem fb_J0 (p:List Int):fb (J0 p) 1:=fun i j=>by unfold J0;split <;> omega
theorem mul_wd {w d:Int} (hw:1≤w∧w≤4096) (hd: -65535≤d∧d≤65535): -268431360≤w*d∧w*d≤268431360:=by
  have h1:0≤w*(65535 - d):=Int.mul_nonneg (by omega) (by omega)
  have h2:0≤w*(d+65535):=Int.mul_nonneg (by omega) (by omega)
  rw [Int.mul_sub] at h1
  rw [Int.mul_add] at h2
  omega
def rb (r:List Int) (B:Int):Prop:=∀i,-B≤r.getD i 0∧r.getD i 0≤B
theorem rb_set {r:List Int} {B v:Int} {k:Nat} (h:rb r B) (hv: -B≤v∧v≤B):rb (r.set k v) B:=fun i=>by
  by_cases hk:k<r.length
  · rw [getD_set hk]; split
    · exact hv
    · exact h i
  · rw [List.set_eq_of_length_le (by omega)];exact h i
theorem rb_up {r:List Int} {B C:Int} (h:rb r B) (k:B≤C):rb r C:=fun i=>by have:=h i;omega
theorem rb_rs {r:List Int} {B:Int} {c:Cm} (h:rb r B) (hw:1≤c.w∧c.w≤4096) (hd: -65535≤c.d∧c.d≤65535):rb (rs r c) (B+536862720):=by
  have h1:=mul_wd hw hd
  have h2:=h c.a.toNat
  have ha:rb (r.set c.a.toNat (r.getD c.a.toNat 0+c.w*c.d)) (B+268431360):=rb_set (rb_up h (by omega)) (by omega)
  have h3:=ha c.b.toNat
  exact rb_set (rb_up ha (by omega)) (by omega)
theorem rb_zero (n:Nat):rb (List.replicate n 0) 0:=fun i=>by
  rw [List.getD_eq_getElem?_getD,List.getElem?_replicate];split <;> exact ⟨Int.le_refl _,Int.le_refl _⟩
theorem FK_fb {p:List Int} {l:List Cm} {n:Nat} (h:Oks n l):∀k,k≤l.length→fb (FK p (l.take k)) (1+16384*k)
  |0,_=>fun i j=>by have:=fb_J0 p i j;show _≤J0 p i j∧J0 p i j≤_;omega
  |k+1,hk=>by
    have ih:=FK_fb (p:=p) h k (by omega)
    unfold FK at ih ⊢
    rw [take_fold uf (J0 p) c0 (by omega)]
    have:=fb_uf ih (h.getD (show k<l.length by omega)).w
    intro i j
    have:=this i j
    omega
theorem RK_rb {l:List Cm} {n:Nat} (h:Oks n l):∀k,k≤l.length→rb (RK n (l.take k)) (536862720*k)
  |0,_=>by have:=rb_zero n;exact rb_up this (by omega)
  |k+1,hk=>by
    have ih:=RK_rb h k (by omega)
    unfold RK at ih ⊢
    rw [take_fold rs _ c0 (by omega)]
    have ho:=h.getD (show k<l.length by omega)
    exact rb_up (rb_rs ih ho.w ho.d) (by omega)
theorem rs_len (r:List Int) (c:Cm):(rs r c).length=r.length:=by unfold rs;simp
theorem RKf_len:∀(l:List Cm) (r:List Int),(l.foldl rs r).length=r.length
  |[],r=>rfl
  |c :: l,r=>by show (l.foldl rs (rs r c)).length=_;rw [RKf_len l,rs_len]
theorem RK_len (n:Nat) (l:List Cm):(RK n l).length=n:=by unfold RK;rw [RKf_len];simp
def S (f:Cm→Rat):List Cm→Rat
  |[]=>0
  |c :: l=>f c+S f l
theorem S_cons (f:Cm→Rat) (c:Cm) (l:List Cm):S f (c :: l)=f c+S f l:=rfl
theorem S_congr {f g:Cm→Rat}:∀{l:List Cm},(∀c∈l,f c=g c)→S f l=S g l
  |[],_=>rfl
  |c :: l,h=>by unfold S;rw [h c (List.mem_cons_self ..),S_congr fun x hx=>h x (List.mem_cons_of_mem _ hx)]
theorem S_add (f g:Cm→Rat):∀l,S (fun c=>f c+g c) l=S f l+S g l
  |[]=>by unfold S;grind
  |c :: l=>by unfold S;rw [S_add f g l];grind
theorem S_mul (k:Rat) (f:Cm→Rat):∀l,S (fun c=>k*f c) l=k*S f l
  |[]=>by unfold S;grind
  |c :: l=>by unfold S;rw [S_mul k f l];grind
theorem S_zero {f:Cm→Rat}:∀{l:List Cm},(∀c∈l,f c=0)→S f l=0
  |[],_=>rfl
  |c :: l,h=>by unfold S;rw [h c (List.mem_cons_self ..),S_zero fun x hx=>h x (List.mem_cons_of_mem _ hx)];grind
theorem S_nn {f:Cm→Rat}:∀{l:List Cm},(∀c∈l,0≤f c)→0≤S f l
  |[],_=>by unfold S;grind
  |c :: l,h=>by
    have h1:=h c (List.mem_cons_self ..)
    have h2:=S_nn fun x hx=>h x (List.mem_cons_of_mem _ hx)
    unfold S;grind
theorem S_all0 {f:Cm→Rat}:∀{l:List Cm},(∀c∈l,0≤f c)→S f l≤0→∀c∈l,f c=0
  |[],_,_,c,hc=>by cases hc
  |x :: l,h,h0,c,hc=>by
    have h1:=h x (List.mem_cons_self ..)
    have h2:=S_nn fun y hy=>h y (List.mem_cons_of_mem _ hy)
    unfold S at h0
    rcases List.mem_cons.1 hc with e|e
    · rw [e];grind
    · exact S_all0 (fun y hy=>h y (List.mem_cons_of_mem _ hy)) (by grind) c e
theorem S_sm (n:Nat) (g:Nat→Cm→Rat):∀l,sm n (fun i=>S (g i) l)=S (fun c=>sm n (fun i=>g i c)) l
  |[]=>sm_zero fun _ _=>rfl
  |c :: l=>by
    unfold S
    rw [← S_sm n g l,←sm_add]
def dl (i:Nat) (k:Int):Rat:=if i=k.toNat then 1 else 0
def xa (x:Nat→Rat) (k:Int):Rat:=x k.toNat
theorem sm_dl {n:Nat} {k:Int} {x:Nat→Rat} (h:k.toNat<n):sm n (fun i=>x i*dl i k)=xa x k:=by
  have:=sm_one (n:=n) (p:=k.toNat) (v:=0) (f:=x) h
  rw [xa,←this]
  exact sm_congr fun i _=>by unfold dl;split <;> grind
theorem add1_sm {n a b i:Nat} {f:Fi} {v:Int} {x:Nat→Rat} (hb:b<n):sm n (fun j=>((add1 f a b v i j:Int):Rat)*x j)=sm n (fun j=>((f i j:Int):Rat)*x j)+(if i=a then (v:Rat)*x b else 0):=by
  by_cases e:i=a
  · rw [if_pos e]
    have:=sm_one (n:=n) (p:=b) (v:=0) (f:=fun j=>(v:Rat)*x j) hb
    rw [← this,←sm_add]
    refine sm_congr fun j _=> ?_
    unfold add1
    by_cases k:j=b
    · rw [if_pos ⟨e,k⟩,if_pos k,Rat.intCast_add];grind
    · rw [if_neg (fun z=>k z.2),if_neg k];grind
  · rw [if_neg e]
    rw [sm_congr fun j _=>by unfold add1;rw [if_neg (fun z=>e z.1)]]
    grind
theorem uf_sm {n i:Nat} {f:Fi} {c:Cm} {x:Nat→Rat} (hc:Ok n c):sm n (fun j=>((uf f c i j:Int):Rat)*x j)=sm n (fun j=>((f i j:Int):Rat)*x j)+(c.w:Rat)*(dl i c.a - dl i c.b)*(xa x c.a - xa x c.b):=by
  have h1:=hc.a;have h2:=hc.b;have h3:=hc.ne
  unfold uf
  rw [add1_sm h1,add1_sm h2,add1_sm h2,add1_sm h1,Rat.intCast_neg]
  unfold dl xa
  by_cases e:i=c.a.toNat
  · have : ¬ i = c.b.toNat := by omega
    rw [if_pos e,if_neg this,if_pos e,if_neg this,if_pos e,if_neg this];grind
  · by_cases k : i = c.b.toNat
    · rw [if_neg e,if_pos k,if_neg e,if_pos k,if_neg e,if_pos k];grind
    · rw [if_neg e,if_neg k,if_neg e,if_neg k,if_neg e,if_neg k];grind
theorem foldl_sm {n i:Nat} {x:Nat→Rat}:∀{l:List Cm} {f:Fi},Oks n l→sm n (fun j=>((l.foldl uf f i j:Int):Rat)*x j)=sm n (fun j=>((f i j:Int):Rat)*x j)+S (fun c=>(c.w:Rat)*(dl i c.a - dl i c.b)*(xa x c.a - xa x c.b)) l
  |[],f,_=>by unfold S;show sm n (fun j=>((f i j:Int):Rat)*x j)=_;grind
  |c :: l,f,h=>by
    show sm n (fun j=>((l.foldl uf (uf f c) i j:Int):Rat)*x j)=_
    rw [foldl_sm (l:=l) (f:=uf f c) (fun y hy=>h y (List.mem_cons_of_mem _ hy)),uf_sm (h c (List.mem_cons_self ..)),S_cons]
    grind
def T (n:Nat) (p:List Int) (x:Nat→Rat) (v:Int):Rat:=sm n fun j=>if p.getD j 0=v then x j else 0
theorem J0_sm {n i:Nat} {p:List Int} {x:Nat→Rat}:sm n (fun j=>((J0 p i j:Int):Rat)*x j)=T n p x (p.getD i 0):=by
  refine sm_congr fun j _=> ?_
  unfold J0
  by_cases e:p.getD i 0=p.getD j 0
  · rw [if_pos e,if_pos e.symm];have:((1:Int):Rat)=1:=rfl;rw [this];grind
  · rw [if_neg e,if_neg (fun z=>e z.symm)];have:((0:Int):Rat)=0:=rfl;rw [this];grind
theorem FK_sm {n i:Nat} {p:List Int} {l:List Cm} {x:Nat→Rat} (h:Oks n l):sm n (fun j=>((FK p l i j:Int):Rat)*x j)=T n p x (p.getD i 0)+S (fun c=>(c.w:Rat)*(dl i c.a - dl i c.b)*(xa x c.a - xa x c.b)) l:=by
  unfold FK;rw [foldl_sm h,J0_sm]
theorem add1_symm {f:Fi} {c:Cm} (h:∀i j,f i j=f j i) (i j:Nat):uf f c i j=uf f c j i:=by
  unfold uf add1
  have:=h i j
  by_cases h1:i=c.a.toNat <;> by_cases h2:i=c.b.toNat <;> by_cases h3:j=c.a.toNat <;> by_cases h4:j=c.b.toNat <;> simp [h1,h2,h3,h4] <;> simp_all <;> omega
theorem FK_symm {p:List Int} (l:List Cm) (i j:Nat):FK p l i j=FK p l j i:=by
  have key:∀(l:List Cm) (f:Fi),(∀i j,f i j=f j i)→∀i j,l.foldl uf f i j=l.foldl uf f j i:=by
    intro l
    induction l with
    |nil=>intro f h i j;exact h i j
    |cons c l ih=>intro f h i j;exact ih (uf f c) (add1_symm h) i j
  exact key l _ (fun i j=>by unfold J0;split <;> split <;> omega) i j
end Go.Proofs.YtkohlohbogpooaaGreat.Rd
namespace Go.Proofs.YtkohlohbogpooaaGreat.Sp
open Go
set_option linter.unusedVariables false
abbrev Cm:=Rd.Cm
def okC (k:IntKind) (z:Cm):Prop:=InK k z.a∧InK k z.b∧InK k z.d∧InK k z.w
def rI4 (k:IntKind):Rp Cm:=fl 4 (fun z=>[.int k z.a,.int k z.b,.int k z.d,.int k z.w]) (okC k) (fun _=>rfl) (fun _=>rfl)
section
variable {P : Program} {n : Sz} {m : Fm} {O : List As} {R : List Fa} {d : Option Tmp} {ty : TypeId} {ps : String} {af : Array Edge} {gd : Option (Nat × Bool)} {T : TypeId} {hs : HP} {M : List (List Int)}
theorem zyb {t:TypeId} {x:Operand} {o:Nat} {x0:Int} (i k j:Nat) (hi:O[i]? =some (rowsM T (rI .i64) hs M)) (hk:k<hs.length) (hM:k<M.length) (ht:Ty P t 1 false) (h:evo m x=some (rowPtr (rp hs k) o)) (ho:o=j*1) (hx:(M.getD k [])[j]? =some x0):
    Vl P n ⟨d,.load t x,ty,ps,af,gd⟩ m O R (Y:=Unit) (fun _=>InK .i64 x0) (fun _=> .int .i64 x0) (fun _=>[]):=fun a f hh g sp hr=>by
  obtain ⟨k1,k2,ap,e0,hA,_,_⟩:=Sep.pick i hi sp
  have hA2:Sep g (List.zipWith (rmA T (rI .i64)) hs M) k1:=hA
  obtain ⟨y,hok,hR,hrun⟩:=zE (P:=P) (n:=n) (d:=d) (ty:=ty) (ps:=ps) (af:=af) (gd:=gd) (O:=List.zipWith (rmA T (rI .i64)) hs M) (R:=R) (v:= .int .i64 x0) k j (zip_at hk hM) ht h ho hx rfl a f k1 g hA2 hr
  exact ⟨(),hok,trivial,fun w hw hg=>hrun w (Has.mono hw (by rw [e0];exact Hp.le_joinL _ _)) hg⟩
end
theorem mkI_sm {hs:HP} (K N:Nat) (f:Rd.Fi) (hh:hs.length=K):Mx.Sm hs (Rd.mkI K N f) K N:=⟨hh,Rd.mkI_len ..,fun i hi=>Rd.mkI_rl hi⟩
end Go.Proofs.YtkohlohbogpooaaGreat.Sp
namespace Go.Proofs.YtkohlohbogpooaaGreat.Rd
open Mx
set_option linter.unusedVariables false
def A0 (n:Nat) (l:List Cm):Mt:=mk n n fun i j=>eI (mkI n n (FK (prt n l) l)) i j
theorem A0_e {n:Nat} {l:List Cm} {i j:Nat} (hi:i<n) (hj:j<n):e (A0 n l) i j=((FK (prt n l) l i j:Int):Rat):=by
  unfold A0;rw [mk_e hi hj];unfold eI;rw [mkI_get hi hj]
def rr (n:Nat) (l:List Cm):List Rat:=(RK n l).map fun z:Int=>(z:Rat)
theorem rr_get {n:Nat} {l:List Cm} {i:Nat}:(rr n l).getD i 0=(((RK n l).getD i 0:Int):Rat):=by
  unfold rr
  rw [List.getD_eq_getElem?_getD,List.getElem?_map,List.getD_eq_getElem?_getD]
  cases (RK n l)[i]? <;> rfl
theorem rs_get {r:List Int} {c:Cm} {n i:Nat} (hr:r.length=n) (hc:Ok n c):(((rs r c).getD i 0:Int):Rat)=((r.getD i 0:Int):Rat)+(c.w:Rat)*(c.d:Rat)*(dl i c.a - dl i c.b):=by
  have h1:=hc.a;have h2:=hc.b;have h3:=hc.ne
  unfold rs dl
  dsimp only
  rw [getD_set (by rw [List.length_set];omega),getD_set (by omega),getD_set (by omega)]
  by_cases e:i=c.b.toNat
  · have k : ¬ i = c.a.toNat := by omega
    have k2:¬c.b.toNat=c.a.toNat:=by omega
    rw [if_pos e,if_neg k2,if_neg k,if_pos e,e,Rat.intCast_sub,Rat.intCast_mul];grind
  · rw [if_neg e]
    by_cases k:i=c.a.toNat
    · rw [if_pos k,if_pos k,if_neg e,k,Rat.intCast_add,Rat.intCast_mul];grind
    · rw [if_neg k,if_neg k,if_neg e];grind
theorem RKf_get {n i:Nat}:∀{l:List Cm} {r:List Int},Oks n l→r.length=n→(((l.foldl rs r).getD i 0:Int):Rat)=((r.getD i 0:Int):Rat)+S (fun c=>(c.w:Rat)*(c.d:Rat)*(dl i c.a - dl i c.b)) l
  |[],r,_,_=>by unfold S;show ((r.getD i 0:Int):Rat)=_;grind
  |c :: l,r,h,hr=>by
    show (((l.foldl rs (rs r c)).getD i 0:Int):Rat)=_
    rw [RKf_get (l:=l) (r:=rs r c) (fun y hy=>h y (List.mem_cons_of_mem _ hy)) ((rs_len r c).trans hr),rs_get hr (h c (List.mem_cons_self ..)),S_cons]
    grind
theorem RK_get {n i:Nat} {l:List Cm} (h:Oks n l):(((RK n l).getD i 0:Int):Rat)=S (fun c=>(c.w:Rat)*(c.d:Rat)*(dl i c.a - dl i c.b)) l:=by
  unfold RK
  rw [RKf_get h (by simp)]
  have:(List.replicate n (0:Int)).getD i 0=0:=by rw [List.getD_eq_getElem?_getD,List.getElem?_replicate];split <;> rfl
  rw [this];have:((0:Int):Rat)=0:=rfl;rw [this];grind
theorem rr_len (n:Nat) (l:List Cm):(rr n l).length=n:=by unfold rr;rw [List.length_map,RK_len]
theorem rr_take {n i:Nat} {l:List Cm} (h:i<n):(rr n l).take (i+1)=(rr n l).take i++[(((RK n l).getD i 0:Int):Rat)]:=by
  rw [List.take_add_one,List.getElem?_eq_getElem (by rw [rr_len];exact h)]
  congr 1
  rw [← rr_get,List.getD_eq_getElem?_getD,List.getElem?_eq_getElem (by rw [rr_len];exact h)];rfl
theorem A0_hq {n:Nat} {l:List Cm} (h:Oks n l) (hl:l.length≤12) (i c:Nat):Big.hq (e (A0 n l) i c)≤3:=by
  by_cases hi:i<n
  · by_cases hj : c < n
    · rw [A0_e hi hj]
      have:=FK_fb (p:=prt n l) h l.length (Nat.le_refl _) i c
      rw [List.take_length] at this
      exact Big.hq_64 (by omega) (by omega)
    · unfold e A0;rw [mk_row hi,range_getD,if_neg hj,Big.hq_zero];decide
  · unfold e
    have:(A0 n l).getD i []=[]:=by rw [List.getD_eq_getElem?_getD,List.getElem?_eq_none (by unfold A0;rw [mk_len];omega)];rfl
    rw [this];show Big.hq (0:Rat)≤3;rw [Big.hq_zero];decide
theorem rr_hq {n:Nat} {l:List Cm} (h:Oks n l) (hl:l.length≤12) (i:Nat):Big.hq ((rr n l).getD i 0)≤3:=by
  rw [rr_get]
  have:=RK_rb h l.length (Nat.le_refl _) i
  rw [List.take_length] at this
  exact Big.hq_64 (by omega) (by omega)
theorem H6 {n:Nat} (h:n≤6):H 3 n≤200000:=Nat.le_trans (H_mono 3 h) (by decide)
section
variable {n : Nat} {l : List Cm}
theorem sm_rr (h:Oks n l) (y:Nat→Rat):sm n (fun t=>y t*(rr n l).getD t 0)=S (fun c=>(c.w:Rat)*(c.d:Rat)*(xa y c.a - xa y c.b)) l:=by
  rw [sm_congr fun t _=>by rw [rr_get,RK_get h,←S_mul],S_sm]
  refine S_congr fun c hc=> ?_
  have ho:=h c hc
  rw [← sm_dl (x:=y) ho.a,←sm_dl (x:=y) ho.b,←sm_sub,←sm_mul]
  exact sm_congr fun t _=>by grind
theorem sm_A (h:Oks n l) (y x:Nat→Rat):sm n (fun i=>y i*sm n (fun j=>e (A0 n l) i j*x j))=sm n (fun i=>y i*T n (prt n l) x ((prt n l).getD i 0))+S (fun c=>(c.w:Rat)*(xa y c.a - xa y c.b)*(xa x c.a - xa x c.b)) l:=by
  have e1:sm n (fun i=>y i*sm n (fun j=>e (A0 n l) i j*x j))=sm n (fun i=>y i*T n (prt n l) x ((prt n l).getD i 0)+S (fun c=>y i*((c.w:Rat)*(dl i c.a - dl i c.b)*(xa x c.a - xa x c.b))) l):=by
    refine sm_congr fun i hi=> ?_
    rw [sm_congr fun j hj=>by rw [A0_e hi hj],FK_sm h,S_mul];grind
  rw [e1,sm_add,S_sm]
  congr 1
  refine S_congr fun c hc=> ?_
  have ho:=h c hc
  rw [← sm_dl (x:=y) ho.a,←sm_dl (x:=y) ho.b,←sm_sub]
  rw [show (c.w:Rat)*sm n (fun i=>y i*dl i c.a - y i*dl i c.b)*(xa x c.a - xa x c.b)=(c.w:Rat)*(xa x c.a - xa x c.b)*sm n (fun i=>y i*dl i c.a - y i*dl i c.b) by grind,←sm_mul]
  exact sm_congr fun t _=>by grind
theorem sq_nn (x:Rat):0≤x*x:=by
  rcases Rat.le_total (a:=0) (b:=x) with h|h
  · exact Rat.mul_nonneg h h
  · have:=Rat.mul_nonneg (show 0≤ -x by grind) (show 0≤ -x by grind);grind
theorem sm_nn {m:Nat} {f:Nat→Rat} (h:∀i,i<m→0≤f i):0≤sm m f:=by
  induction m with
  |zero=>unfold sm;grind
  |succ m ih=>rw [sm_succ];have a:=ih fun i hi=>h i (by omega);have b:=h m (by omega);grind
theorem T_sq (h:Oks n l) (y:Nat→Rat):sm n (fun i=>y i*T n (prt n l) y ((prt n l).getD i 0))=sm n (fun v=>T n (prt n l) y (v:Int)*T n (prt n l) y (v:Int)):=by
  have e1:sm n (fun v=>T n (prt n l) y (v:Int)*T n (prt n l) y (v:Int))=sm n (fun v=>sm n (fun i=>if v=((prt n l).getD i 0).toNat then y i*T n (prt n l) y (v:Int) else 0)):=by
    refine sm_congr fun v hv=> ?_
    conv=>lhs;rw [show T n (prt n l) y (v:Int)*T n (prt n l) y (v:Int)=T n (prt n l) y (v:Int)*sm n (fun j=>if (prt n l).getD j 0=(v:Int) then y j else 0) from rfl]
    rw [← sm_mul]
    refine sm_congr fun i hi=> ?_
    have h0:=rds_nn h n i
    have h0':0≤(prt n l).getD i 0:=h0
    by_cases k:(prt n l).getD i 0=(v:Int)
    · rw [if_pos k,if_pos (by omega)];grind
    · rw [if_neg k,if_neg (by omega)];grind
  rw [e1,sm_swap]
  refine sm_congr fun i hi=> ?_
  have h0:0≤(prt n l).getD i 0:=rds_nn h n i
  have h1:(prt n l).getD i 0<n:=rds_lt h n i hi
  rw [sm_one (n:=n) (p:=((prt n l).getD i 0).toNat) (v:=0) (f:=fun v=>y i*T n (prt n l) y (v:Int)) (by omega)]
  rw [show ((((prt n l).getD i 0).toNat:Nat):Int)=(prt n l).getD i 0 by omega]
theorem A0_symm {i j:Nat} (hi:i<n) (hj:j<n):e (A0 n l) i j=e (A0 n l) j i:=by rw [A0_e hi hj,A0_e hj hi,FK_symm]
theorem w_pos (h:Oks n l) {c:Cm} (hc:c∈l):(0:Rat)<(c.w:Rat):=by
  have:=(h c hc).w
  have h1:((1:Int):Rat)≤(c.w:Rat):=Rat.intCast_le_intCast.2 this.1
  have h2:((1:Int):Rat)=1:=rfl
  grind
theorem cons (h:Oks n l):Cons (A0 n l) (rr n l) n n:=fun y hy=>by
  have h1:sm n (fun c=>y c*sm n (fun t=>e (A0 n l) c t*y t))=0:=sm_zero fun c hc=>by
    rw [sm_congr fun t ht=>by rw [A0_symm hc ht,Rat.mul_comm],hy c hc];grind
  rw [sm_A h,T_sq h] at h1
  have h2:=sm_nn (m:=n) (f:=fun v=>T n (prt n l) y (v:Int)*T n (prt n l) y (v:Int)) fun v _=>sq_nn _
  have hp:∀c∈l,0≤(c.w:Rat)*(xa y c.a - xa y c.b)*(xa y c.a - xa y c.b):=fun c hc=>by
    have hw:=w_pos h hc
    have:=Rat.mul_nonneg (show 0≤(c.w:Rat) by grind) (sq_nn (xa y c.a - xa y c.b));grind
  have h3:=S_all0 hp (by grind)
  rw [sm_rr h]
  refine S_zero fun c hc=> ?_
  have h4:=h3 c hc
  have hw:=w_pos h hc
  have:xa y c.a - xa y c.b=0:=by
    rcases Rat.mul_eq_zero.1 h4 with k|k
    · rcases Rat.mul_eq_zero.1 k with q | q
      · grind
      · exact q
    · exact k
  rw [this];grind
structure Lv (n:Nat) (l:List Cm) (o:Nat→Rat):Prop where
  t:∀v,T n (prt n l) o v=0
  g:∀i,i<n→S (fun c=>(c.w:Rat)*(xa o c.b - xa o c.a+(c.d:Rat))*(dl i c.b - dl i c.a)) l=0
theorem lv_of (h:Oks n l) (hn:1≤n) {o:Nat→Rat} (ho:∀i,i<n→sm n (fun c=>e (A0 n l) i c*o c)=(rr n l).getD i 0):Lv n l o:=by
  have ht:∀v,T n (prt n l) o v=0:=fun v=>by
    have h1:=sm_A h (fun i=>if (prt n l).getD i 0=v then 1 else 0) o
    rw [sm_congr fun i hi=>by rw [ho i hi],sm_rr h] at h1
    have ez:∀c∈l,xa (fun i=>if (prt n l).getD i 0=v then (1:Rat) else 0) c.a - xa (fun i=>if (prt n l).getD i 0=v then (1:Rat) else 0) c.b=0:=fun c hc=>by
      unfold xa;dsimp only;rw [prt_eq h hn hc];grind
    rw [S_zero fun c hc=>by rw [ez c hc];grind,S_zero fun c hc=>by rw [ez c hc];grind] at h1
    have h2:sm n (fun i=>(if (prt n l).getD i 0=v then (1:Rat) else 0)*T n (prt n l) o ((prt n l).getD i 0))=T n (prt n l) o v*sm n (fun i=>if (prt n l).getD i 0=v then (1:Rat) else 0):=by
      rw [← sm_mul]
      refine sm_congr fun i hi=> ?_
      split
      · rename_i k;rw [k];grind
      · grind
    rw [h2] at h1
    by_cases k:∃i,i<n∧(prt n l).getD i 0=v
    · obtain ⟨i, hi, hv⟩ := k
      have h3:(1:Rat)≤sm n (fun i=>if (prt n l).getD i 0=v then (1:Rat) else 0):=by
        have a:=sm_one (n:=n) (p:=i) (v:=0) (f:=fun _=>(1:Rat)) hi
        have b:=sm_nn (m:=n) (f:=fun c=>(if (prt n l).getD c 0=v then (1:Rat) else 0) - (if c=i then 1 else 0)) fun c hc=>by
          by_cases q:c=i
          · subst q;rw [if_pos hv,if_pos rfl];grind
          · rw [if_neg q];split <;> grind
        rw [sm_sub,a] at b;grind
      have h4:T n (prt n l) o v*sm n (fun i=>if (prt n l).getD i 0=v then (1:Rat) else 0)=0:=by grind
      rcases Rat.mul_eq_zero.1 h4 with q|q
      · exact q
      · grind
    · exact sm_zero fun i hi=>if_neg fun z=>k ⟨i,hi,z⟩
  refine ⟨ht,fun i hi=> ?_⟩
  have h1:=ho i hi
  rw [rr_get,RK_get h,sm_congr fun j hj=>by rw [A0_e hi hj],FK_sm h,ht] at h1
  have h2:S (fun c=>(c.w:Rat)*(xa o c.b - xa o c.a+(c.d:Rat))*(dl i c.b - dl i c.a)) l=S (fun c=>(c.w:Rat)*(dl i c.a - dl i c.b)*(xa o c.a - xa o c.b)) l+(-1)*S (fun c=>(c.w:Rat)*(c.d:Rat)*(dl i c.a - dl i c.b)) l:=by
    rw [← S_mul,←S_add];exact S_congr fun c _=>by grind
  rw [h2];grind
def loss (l:List Cm) (o:Nat→Rat):Rat:=S (fun c=>(c.w:Rat)*((xa o c.b - xa o c.a+(c.d:Rat))*(xa o c.b - xa o c.a+(c.d:Rat)))) l
theorem loss_le (h:Oks n l) {o:Nat→Rat} (ho:Lv n l o) (r:Nat→Rat):loss l o≤loss l r:=by
  have key:S (fun c=>(c.w:Rat)*(xa o c.b - xa o c.a+(c.d:Rat))*((xa r c.b - xa o c.b) - (xa r c.a - xa o c.a))) l=0:=by
    have h1:sm n (fun i=>(r i - o i)*S (fun c=>(c.w:Rat)*(xa o c.b - xa o c.a+(c.d:Rat))*(dl i c.b - dl i c.a)) l)=0:=sm_zero fun i hi=>by rw [ho.g i hi];grind
    rw [sm_congr fun i _=>by rw [← S_mul],S_sm] at h1
    rw [← h1]
    refine S_congr fun c hc=> ?_
    have hk:=h c hc
    have a:=sm_dl (x:=fun i=>r i - o i) hk.a
    have b:=sm_dl (x:=fun i=>r i - o i) hk.b
    have d:sm n (fun i=>(r i - o i)*((c.w:Rat)*(xa o c.b - xa o c.a+(c.d:Rat))*(dl i c.b - dl i c.a)))=((c.w:Rat)*(xa o c.b - xa o c.a+(c.d:Rat)))*(sm n (fun i=>(r i - o i)*dl i c.b) - sm n (fun i=>(r i - o i)*dl i c.a)):=by
      rw [← sm_sub,←sm_mul];exact sm_congr fun i _=>by grind
    rw [d,a,b];unfold xa;grind
  have h2:loss l r=loss l o+2*S (fun c=>(c.w:Rat)*(xa o c.b - xa o c.a+(c.d:Rat))*((xa r c.b - xa o c.b) - (xa r c.a - xa o c.a))) l+S (fun c=>(c.w:Rat)*(((xa r c.b - xa o c.b) - (xa r c.a - xa o c.a))*((xa r c.b - xa o c.b) - (xa r c.a - xa o c.a)))) l:=by
    unfold loss;rw [← S_mul,←S_add,←S_add];exact S_congr fun c _=>by grind
  have h3:=S_nn (l:=l) (f:=fun c=>(c.w:Rat)*(((xa r c.b - xa o c.b) - (xa r c.a - xa o c.a))*((xa r c.b - xa o c.b) - (xa r c.a - xa o c.a)))) fun c hc=>by
    have hw:=w_pos h hc
    exact Rat.mul_nonneg (by grind) (sq_nn _)
  rw [h2,key];grind
theorem exact (h:Oks n l) {o t:Nat→Rat} (ho:Lv n l o) (ht:∀c∈l,xa t c.b - xa t c.a+(c.d:Rat)=0):∀c∈l,xa o c.b - xa o c.a+(c.d:Rat)=0:=fun c hc=>by
  have h1:=loss_le h ho t
  have h2:loss l t=0:=S_zero fun c hc=>by rw [ht c hc];grind
  have h3:=S_all0 (l:=l) (f:=fun c=>(c.w:Rat)*((xa o c.b - xa o c.a+(c.d:Rat))*(xa o c.b - xa o c.a+(c.d:Rat)))) (fun c hc=>by
    have hw:=w_pos h hc
    exact Rat.mul_nonneg (by grind) (sq_nn _)) (by rw [h2] at h1;exact h1) c hc
  have hw:=w_pos h hc
  rcases Rat.mul_eq_zero.1 h3 with k|k
  · grind
  · rcases Rat.mul_eq_zero.1 k with q|q <;> exact q
end
end Go.Proofs.YtkohlohbogpooaaGreat.Rd
namespace Go.Proofs.YtkohlohbogpooaaGreat.Sp
open Go
set_option linter.unusedVariables false
set_option maxRecDepth 100000
set_option maxHeartbeats 8000000
theorem zTc {n:Nat} {pL:Option Addr} {nL:Nat} {cL:Nat} {L:List Cm} (hnL:L.length=nL) (hn:1≤n∧n≤16) (hok:Rd.Oks n L):Con Tryz.prog 67 [ya yb ((n:Nat):Int),.slice pL nL cL] [] [slF (rI4 .i64) pL cL L] (Y:=(Option Addr)×Nat) (fun y=>True) (fun y=> .slice (y.1) n (y.2)) (fun y=>[]) (fun y=>[slF (rI .i64) (y.1) (y.2) (Rd.prt n L)]):=by
 refine zl Tryz.func67 rfl rfl rfl (fun c=> ?_)
 show RunC _ _ _ _ _ [(0,ya yb ((n:Nat):Int)),(1,.slice pL nL cL)] [] [slF (rI4 .i64) pL cL L]
 refine zY 0 rfl (fun hL0=> ?_)
 refine ze<|za<|e_p (zb rfl)<|zf<|zc<|ze<|za<|e_mv rfl<|zra rfl rfl (zCa (r:=rI .i64) (k:=n) (x0:=0) (γ0:=()) yd inf3 rfl rfl rfl rfl om om rfl (fun g _=>by exact zP.2 dd) dd) (fun b1 _=> ?_)
 refine e_p (zb rfl)<|zf<|zc<|ze<|ze ?_
 have e2:(List.replicate n 0:List Int)=(Rd.fz 0 n (fun jj=>((jj:Nat):Int))):=by exact Rd.fz_start _ _
 rw [e2]
 refine za<|e_mv rfl<|e_p (zD yd rfl)<|e_mv rfl<|zf<|zc<|zt<|zea (X:=Nat) (fun x:Nat=>x≤n) (fun x=>[(14,ya yb ((x:Nat):Int)),(13,ya yb ((n:Nat):Int)),(5,.slice (some ⟨b1,0,none⟩) n n),(4,.slice none 0 0),(0,ya yb ((n:Nat):Int)),(1,.slice pL nL cL)]) (fun x=>[rowA 3 (rI .i64) (some ⟨b1,0,none⟩) n (Rd.fz x n (fun jj=>((jj:Nat):Int)))]) (fun x=>[slF (rI4 .i64) pL cL L]) (fun x:Nat=>n - x) 0 (show 0≤n from by exact Nat.zero_le _) ((.e rfl (by first|rfl|(congr 1;omega)|simp_all) (.of rfl)):SubM _ _) (ho:=((.c (i:=0) rfl .n):PickO _ _ _)) ((.c (j:=0) rfl .n):SelR _ _ _) ?_
 rintro i hI
 replace hI:i≤n:=hI
 try dsimp only
 refine ze<|za<|e_p (zT rfl rfl)<|zf<|zc<|ze<|zB rfl (fun h3=> ?_) (fun h3=> ?_)
 ·
  refine zv<|zc<|ze<|zt<|ze<|za<|e_mv rfl<|e_p (zb rfl)<|zf<|zc<|za<|e_mv rfl<|e_mv rfl<|e_mv rfl<|e_p (zI (j:=i) yd sz3 rfl rfl rfl om)<|zza 0 rfl rfl rfl (zL (j:=i) (x0:=((i:Nat):Int)) (γ0:=()) rfl rfl (by first|omega|(rw [Rd.fz_len];omega)|(rw [List.length_set];omega)) rfl rfl sz3 (fun _ _=>by exact zP.2 om)) (fun _=> .z) (fun _ _=> ?_)
  refine zf<|zM<|zc<|za<|e_p (zH (z:=(((i+1):Nat):Int)) rfl rfl (w64 om))<|e_mv rfl<|zf<|zaa (i+1) (show (i+1)≤n from by show i+1≤n;omega) (by show n - (i+1)<n - i;omega) ((.of rfl):SubM _ _) (ho:=((.e (i:=0) rfl (by first|rfl|(rw [Rd.fz_step (f:=fun jj=>((jj:Nat):Int)) om])) .n):PickO _ _ _)) ((.c (j:=0) rfl .n):SelR _ _ _)
 ·
  refine zda<|zi<|zi<|zr<|zc<|ze<|ze ?_
  have e4:((Rd.fz i n (fun jj=>((jj:Nat):Int))):List Int)=(Rd.rds n L 0):=by rw [show i=n by omega];exact Rd.fz_end _ _
  rw [e4]
  refine za<|e_mv rfl<|e_mv rfl<|zf<|zc<|zt<|zea (X:=Nat) (fun x:Nat=>x≤n) (fun x=>[(23,ya yb ((x:Nat):Int)),(22,ya yb ((n:Nat):Int)),(5,.slice (some ⟨b1,0,none⟩) n n),(4,.slice none 0 0),(1,.slice pL nL cL)]) (fun x=>[rowA 3 (rI .i64) (some ⟨b1,0,none⟩) n (Rd.rds n L x)]) (fun x=>[slF (rI4 .i64) pL cL L]) (fun x:Nat=>n - x) 0 (show 0≤n from by exact Nat.zero_le _) ((.e rfl (by first|rfl|(congr 1;omega)|simp_all) (.of rfl)):SubM _ _) (ho:=((.c (i:=0) rfl .n):PickO _ _ _)) ((.c (j:=0) rfl .n):SelR _ _ _) ?_
  rintro k hK
  replace hK:k≤n:=hK
  try dsimp only
  refine ze<|za<|e_p (zT rfl rfl)<|zf<|zc<|ze<|zB rfl (fun h5=> ?_) (fun h5=> ?_)
  ·
   refine zv<|zc<|ze<|zt<|ze<|za<|e_mv rfl<|e_p (zD ye rfl)<|e_mv rfl<|zf<|zc<|zt<|zea (X:=Nat) (fun x:Nat=>x≤nL) (fun x=>[(27,ya yb ((x:Nat):Int)),(26,ya yb ((nL:Nat):Int)),(25,.slice pL nL cL),(23,ya yb ((k:Nat):Int)),(22,ya yb ((n:Nat):Int)),(5,.slice (some ⟨b1,0,none⟩) n n),(4,.slice none 0 0),(1,.slice pL nL cL)]) (fun x=>[rowA 3 (rI .i64) (some ⟨b1,0,none⟩) n (Rd.rnd (L.take x) (Rd.rds n L k))]) (fun x=>[slF (rI4 .i64) pL cL L]) (fun x:Nat=>nL - x) 0 (show 0≤nL from by exact Nat.zero_le _) ((.e rfl (by first|rfl|(congr 1;omega)|simp_all) (.of rfl)):SubM _ _) (ho:=((.e (i:=0) rfl (by rfl) .n):PickO _ _ _)) ((.c (j:=0) rfl .n):SelR _ _ _) ?_
   rintro i hI3
   replace hI3:i≤nL:=hI3
   try dsimp only
   refine ze<|za<|e_p (zT rfl rfl)<|zf<|zc<|ze<|zB rfl (fun h6=> ?_) (fun h6=> ?_)
   ·
    have hoi:=hok.getD (show i<L.length by omega)
    have hoa:=hoi.a
    have hob:=hoi.b
    have hoa0:=hoi.a0
    have hob0:=hoi.b0
    have hone:=hoi.ne
    have hod:=hoi.d
    have how:=hoi.w
    have hrl:(Rd.rnd (L.take i) (Rd.rds n L k)).length=n:=(Rd.rnd_len _ _).trans (Rd.rds_len _ _ _)
    refine zv<|zc<|ze<|zt<|ze<|za<|zV (x0:=(L.getD i Rd.c0)) 0 i rfl ye sz68 rfl rfl rfl (by first|rfl|assumption|omega|exact Rd.fz_len _ _ _|exact Rd.rds_len _ _ _) rfl rfl (gD (d:=Rd.c0) om) (fun b7 o8 hok9=> ?_)
    obtain ⟨hok90,hok91,hok92,hok93⟩:=hok9
    replace hok90:=zP.1 hok90
    replace hok91:=zP.1 hok91
    replace hok92:=zP.1 hok92
    replace hok93:=zP.1 hok93
    refine e_ru (zha (j:=0) 0 ty68 rfl rfl rfl (.t4 .nil))<|zK rfl rfl (zw zr68 rfl) (fun b10=> ?_)
    refine zk 0 rfl rfl rfl rfl rfl sz68 rfl (.t4 .nil) .z<|zf<|zc<|ze<|zZ (OW:=[]) (O:=[boxA b10 68 [ya yb ((L.getD i Rd.c0).a),ya yb ((L.getD i Rd.c0).b),ya yb ((L.getD i Rd.c0).d),ya yb ((L.getD i Rd.c0).w)],rowA 3 (rI .i64) (some ⟨b1,0,none⟩) n (Rd.rnd (L.take i) (Rd.rds n L k))]) 100000 mixed (.then (.block (.then (.then (.block (.block (.then (.then (.block (.then .ret)))))))))) kr<|e_dm 0 rfl rfl rfl<|e_pv 1 rfl rfl (zh yc rfl sz3 rfl rfl)<|e_u 2 rfl rfl (zg 0 ty3 rfl rfl rfl)<|e_pv 3 rfl rfl (zI (j:=((L.getD i Rd.c0).a).toNat) yd sz3 rfl rfl om om)<|d_vl 4 rfl rfl kr kr rfl rfl (zE 1 (((L.getD i Rd.c0).a).toNat) rfl ty3 rfl rfl (gD (d:=0) om) rfl) (fun _ hok11=> ?_)
    replace hok11:=zP.1 hok11
    refine e_dm 5 rfl rfl rfl<|e_pv 6 rfl rfl (zh yc rfl sz3 rfl rfl)<|e_u 7 rfl rfl (zg 0 ty3 rfl rfl rfl)<|e_pv 8 rfl rfl (zI (j:=((L.getD i Rd.c0).b).toNat) yd sz3 rfl rfl om om)<|d_vl 9 rfl rfl kr kr rfl rfl (zE 1 (((L.getD i Rd.c0).b).toNat) rfl ty3 rfl rfl (gD (d:=0) om) rfl) (fun _ hok12=> ?_)
    replace hok12:=zP.1 hok12
    refine e_pv 10 rfl rfl (zdg rfl rfl)<|e_pv 11 rfl rfl (zb rfl)<|zX kr<|zc<|zma (.c (i:=1) rfl (.c (i:=0) rfl .n))<|zZ (OW:=[rowA 3 (rI .i64) (some ⟨b1,0,none⟩) n (Rd.rnd (L.take i) (Rd.rds n L k))]) (O:=[boxA b10 68 [ya yb ((L.getD i Rd.c0).a),ya yb ((L.getD i Rd.c0).b),ya yb ((L.getD i Rd.c0).d),ya yb ((L.getD i Rd.c0).w)]]) 9 mixed (.block (.then (.then (.block (.block (.then (.then (.block (.then .ret))))))))) kr<|e_dm 0 rfl rfl rfl<|e_pv 1 rfl rfl (zh yc rfl sz3 rfl rfl)<|e_uw 2 rfl rfl (zg 1 ty3 rfl rfl rfl)<|e_dm 3 rfl rfl rfl<|e_pv 4 rfl rfl (zh yc rfl sz3 rfl rfl)<|e_u 5 rfl rfl (zg 0 ty3 rfl rfl rfl)<|e_dm 6 rfl rfl rfl<|e_dm 7 rfl rfl rfl<|e_pv 8 rfl rfl (zI (j:=((L.getD i Rd.c0).a).toNat) yd sz3 rfl rfl om om)<|e_one 9 (zob (A':=fun _=>rowA 3 (rI .i64) (some ⟨b1,0,none⟩) n ((Rd.rnd (L.take i) (Rd.rds n L k)).set (((L.getD i Rd.c0).a).toNat) (min ((Rd.rnd (L.take i) (Rd.rds n L k)).getD (((L.getD i Rd.c0).a).toNat) 0) ((Rd.rnd (L.take i) (Rd.rds n L k)).getD (((L.getD i Rd.c0).b).toNat) 0)))) kr rfl rfl rfl (zL (j:=((L.getD i Rd.c0).a).toNat) (x0:=(min ((Rd.rnd (L.take i) (Rd.rds n L k)).getD (((L.getD i Rd.c0).a).toNat) 0) ((Rd.rnd (L.take i) (Rd.rds n L k)).getD (((L.getD i Rd.c0).b).toNat) 0))) (γ0:=()) rfl rfl (by first|omega|(rw [Rd.fz_len];omega)|(rw [List.length_set];omega)) rfl rfl sz3 (fun _ _=>by exact zP.2 om)) (fun _ _=> ?_))
    refine e_pv 10 rfl rfl (zI (j:=((L.getD i Rd.c0).b).toNat) yd sz3 rfl rfl om om)<|e_one 11 (zob (A':=fun _=>rowA 3 (rI .i64) (some ⟨b1,0,none⟩) n (((Rd.rnd (L.take i) (Rd.rds n L k)).set (((L.getD i Rd.c0).a).toNat) (min ((Rd.rnd (L.take i) (Rd.rds n L k)).getD (((L.getD i Rd.c0).a).toNat) 0) ((Rd.rnd (L.take i) (Rd.rds n L k)).getD (((L.getD i Rd.c0).b).toNat) 0))).set (((L.getD i Rd.c0).b).toNat) (min ((Rd.rnd (L.take i) (Rd.rds n L k)).getD (((L.getD i Rd.c0).a).toNat) 0) ((Rd.rnd (L.take i) (Rd.rds n L k)).getD (((L.getD i Rd.c0).b).toNat) 0)))) kr rfl rfl rfl (zL (j:=((L.getD i Rd.c0).b).toNat) (x0:=(min ((Rd.rnd (L.take i) (Rd.rds n L k)).getD (((L.getD i Rd.c0).a).toNat) 0) ((Rd.rnd (L.take i) (Rd.rds n L k)).getD (((L.getD i Rd.c0).b).toNat) 0))) (γ0:=()) rfl rfl (by first|omega|(rw [Rd.fz_len];omega)|(rw [List.length_set];omega)) rfl rfl sz3 (fun _ _=>by exact zP.2 om)) (fun _ _=> ?_))
    refine zX kr<|zM<|zc<|za<|e_p (zH (z:=(((i+1):Nat):Int)) rfl rfl (w64 om))<|e_mv rfl<|zf<|zaa (i+1) (show (i+1)≤nL from by show i+1≤nL;omega) (by show nL - (i+1)<nL - i;omega) ((.of rfl):SubM _ _) (ho:=((.e (i:=0) rfl (by first|rfl|(rw [Rd.rnd_take om];rfl)) .n):PickO _ _ _)) ((.c (j:=1) rfl .n):SelR _ _ _)
   ·
    refine zda<|zi<|zi<|zr<|zM<|zc<|za<|e_p (zH (z:=(((k+1):Nat):Int)) rfl rfl (w64 om))<|e_mv rfl<|zf ?_
    have e13:((Rd.rnd (L.take i) (Rd.rds n L k)):List Int)=(Rd.rds n L (k+1)):=by rw [show L.take i=L from List.take_of_length_le om];rfl
    rw [e13]
    refine zaa (k+1) (show (k+1)≤n from by show k+1≤n;omega) (by show n - (k+1)<n - k;omega) ((.of rfl):SubM _ _) (ho:=((.c (i:=0) rfl .n):PickO _ _ _)) ((.c (j:=0) rfl .n):SelR _ _ _)
  ·
   refine zda<|zi<|zi<|zr<|zc<|ze<|za<|e_mv rfl<|e_p (zb rfl)<|zf<|zc<|zJ ?_
   have e14:((Rd.rds n L k):List Int)=(Rd.prt n L):=by rw [show k=n by omega];rfl
   rw [e14]
   refine zbb 0 rfl .z ?_
   exact zy Tryz.results67 (some ⟨b1,0,none⟩,n) trivial (zo rfl) rfl (ho:=(.n:PickO _ _ _)) ((.c (j:=0) rfl .n):SelR _ _ _)
end Go.Proofs.YtkohlohbogpooaaGreat.Sp
namespace Go.Proofs.YtkohlohbogpooaaGreat.Sp
open Go
set_option linter.unusedVariables false
set_option maxRecDepth 100000
set_option maxHeartbeats 8000000
theorem zOc {ni:Int} {pL:Option Addr} {nL:Nat} {cL:Nat} {L:List Cm} (hnL:L.length=nL) (hsm:Rd.offC ni L=0→ni≤6∧nL≤12):Con Tryz.prog 31 [ya yb ni,.slice pL nL cL] [] [slF (rI4 .i64) pL cL L] (Y:=(Option Addr)×Nat×(List Rat)) (fun y=>(Rd.offC ni L=0→y.2.2.length=(ni:Int).toNat∧Rd.Lv (ni:Int).toNat L (fun c=>y.2.2.getD c 0)∧(∀c,Big.hq (y.2.2.getD c 0)≤200000))∧(Rd.offC ni L≠0→y.2.2=[])) (fun y=> .tuple #[.slice (y.1) (y.2.2.length) (y.2.1),ya yb (Rd.offC ni L)]) (fun y=>[]) (fun y=>[slF rQ (y.1) (y.2.1) (y.2.2)]):=by
 refine zl Tryz.func31 rfl rfl rfl (fun c=> ?_)
 show RunC _ _ _ _ _ [(0,ya yb ni),(1,.slice pL nL cL)] [] [slF (rI4 .i64) pL cL L]
 refine zY 0 rfl (fun hL0=> ?_)
 refine ze<|za<|e_p (zb rfl)<|e_p (zb rfl)<|zf<|zc<|ze<|zGa (X:=Unit) (fun x=>True) (fun x=>[(30,.bool (decide (((ni<1)∨(16<ni))∨(64<((nL:Nat):Int))))),(5,ya yb 0),(4,.slice none 0 0),(0,ya yb ni),(1,.slice pL nL cL)]) (fun x=>[]) (fun x=>[slF (rI4 .i64) pL cL L]) ?_ ?_
 ·
  refine za<|e_mv rfl<|e_p (zT rfl rfl)<|zW rfl rfl (zba rfl) (fun h1=> ?_) (fun h1=> ?_)
  ·
   refine e_no<|e_no<|e_p (zn rfl rfl)<|e_mv rfl<|e_no<|e_no<|e_no<|e_p (zn rfl rfl)<|zf ?_
   exact zia () (show True from by first|trivial|omega|simp_all) ((.e rfl (congrArg Value.bool cbu) (.of rfl)):SubM _ _) (ho:=(.n:PickO _ _ _)) ((.c (j:=0) rfl .n):SelR _ _ _)
  ·
   refine e_mv rfl<|e_p (zna rfl rfl)<|e_p (zn rfl rfl)<|zW rfl rfl (zba rfl) (fun h2=> ?_) (fun h2=> ?_)
   ·
    refine e_no<|e_no<|e_no<|e_p (zn rfl rfl)<|zf ?_
    exact zia () (show True from by first|trivial|omega|simp_all) ((.e rfl (congrArg Value.bool cbu) (.of rfl)):SubM _ _) (ho:=(.n:PickO _ _ _)) ((.c (j:=0) rfl .n):SelR _ _ _)
   ·
    refine e_mv rfl<|e_p (zD ye rfl)<|e_p (zna rfl rfl)<|e_p (zn rfl rfl)<|zf ?_
    exact zia () (show True from by first|trivial|omega|simp_all) ((.e rfl (congrArg Value.bool cbu) (.of rfl)):SubM _ _) (ho:=(.n:PickO _ _ _)) ((.c (j:=0) rfl .n):SelR _ _ _)
 ·
  rintro ⟨⟩ -
  try dsimp only
  refine zB rfl (fun h30=> ?_) (fun h30=> ?_)
  ·
   refine ze<|za<|e_p (zb rfl)<|e_p (zb rfl)<|zf<|zc<|zJ<|zm<|zqb rQ ?_
   exact zqa yj (none,0,([]:List Rat)) (⟨fun k=>absurd ((show Rd.offC ni L=3 from if_pos om).symm.trans k) dd,fun _=>rfl⟩) (zo rfl) (zo rfl) (by rw [show Rd.offC ni L=3 from if_pos om];rfl) (ho:=(.n:PickO _ _ _)) ((.c (j:=0) rfl .n):SelR _ _ _)
  ·
   refine zv<|zc<|ze<|ze<|za<|e_mv rfl<|e_p (zD ye rfl)<|e_mv rfl<|zf<|zc<|zt<|zea (X:=Nat) (fun x:Nat=>x≤nL∧∀j,j<x→Rd.cc ni (L.getD j Rd.c0)=0) (fun x=>[(33,ya yb ((x:Nat):Int)),(32,ya yb ((nL:Nat):Int)),(31,.slice pL nL cL),(0,ya yb ni),(1,.slice pL nL cL)]) (fun x=>[]) (fun x=>[slF (rI4 .i64) pL cL L]) (fun x:Nat=>nL - x) 0 (show 0≤nL∧∀j,j<0→Rd.cc ni (L.getD j Rd.c0)=0 from by exact ⟨Nat.zero_le _,fun j h=>by omega⟩) ((.e rfl (by first|rfl|(congr 1;omega)|simp_all) (.of rfl)):SubM _ _) (ho:=(.n:PickO _ _ _)) ((.c (j:=0) rfl .n):SelR _ _ _) ?_
   rintro i hI
   replace hI:i≤nL∧∀j,j<i→Rd.cc ni (L.getD j Rd.c0)=0:=hI
   try dsimp only
   obtain ⟨hi,hall⟩:=hI
   refine ze<|za<|e_p (zT rfl rfl)<|zf<|zc<|ze<|zB rfl (fun h3=> ?_) (fun h3=> ?_)
   ·
    refine zv<|zc<|ze<|zt<|ze<|za<|zV (x0:=(L.getD i Rd.c0)) 0 i rfl ye sz68 rfl rfl rfl (by first|rfl|assumption|omega|exact Rd.fz_len _ _ _|exact Rd.RK_len _ _|exact Rd.prt_len _ _|(rw [Mx.oz_len om];done)|(rw [Mx.oz_len (by rw [List.length_append];simp;omega)];done)|(rw [oh_len];assumption)|(simp;done)) rfl rfl (gD (d:=Rd.c0) om) (fun b4 o5 hok6=> ?_)
    obtain ⟨hok60,hok61,hok62,hok63⟩:=hok6
    replace hok60:=zP.1 hok60
    replace hok61:=zP.1 hok61
    replace hok62:=zP.1 hok62
    replace hok63:=zP.1 hok63
    refine e_ru (zha (j:=0) 0 ty68 rfl rfl rfl (.t4 .nil))<|zK rfl rfl (zw zr68 rfl) (fun b7=> ?_)
    refine zk 0 rfl rfl rfl rfl rfl sz68 rfl (.t4 .nil) .z<|zf<|zc<|zt<|zGa (X:=Unit) (fun x=>True) (fun x=>[(37,.bool (decide (((((((((L.getD i Rd.c0).a<0)∨(ni≤(L.getD i Rd.c0).a))∨((L.getD i Rd.c0).b<0))∨(ni≤(L.getD i Rd.c0).b))∨((L.getD i Rd.c0).d<(-65535)))∨(65535<(L.getD i Rd.c0).d))∨((L.getD i Rd.c0).w<1))∨(4096<(L.getD i Rd.c0).w)))),(7,.pointer (some ⟨b7,0,none⟩)),(33,ya yb ((i:Nat):Int)),(32,ya yb ((nL:Nat):Int)),(31,.slice pL nL cL),(0,ya yb ni),(1,.slice pL nL cL)]) (fun x=>[boxA b7 68 [ya yb ((L.getD i Rd.c0).a),ya yb ((L.getD i Rd.c0).b),ya yb ((L.getD i Rd.c0).d),ya yb ((L.getD i Rd.c0).w)]]) (fun x=>[atF b4 o5 [ya yb ((L.getD i Rd.c0).a),ya yb ((L.getD i Rd.c0).b),ya yb ((L.getD i Rd.c0).d),ya yb ((L.getD i Rd.c0).w)],slF (rI4 .i64) pL cL L]) ?_ ?_
    ·
     refine za<|e_p (zh yc rfl sz3 rfl rfl)<|e_ru (zg 0 ty3 rfl rfl rfl)<|e_p (zT rfl rfl)<|zW rfl rfl (zba rfl) (fun h8=> ?_) (fun h8=> ?_)
     ·
      refine e_no<|e_no<|e_no<|e_no<|e_p (zn rfl rfl)<|e_mv rfl<|e_no<|e_no<|e_no<|e_p (zn rfl rfl)<|e_mv rfl<|e_no<|e_no<|e_no<|e_no<|e_p (zn rfl rfl)<|e_mv rfl<|e_no<|e_no<|e_no<|e_p (zn rfl rfl)<|e_mv rfl<|e_no<|e_no<|e_no<|e_p (zn rfl rfl)<|e_mv rfl<|e_no<|e_no<|e_no<|e_p (zn rfl rfl)<|e_mv rfl<|e_no<|e_no<|e_no<|e_p (zn rfl rfl)<|e_p (zb rfl)<|zf ?_
      exact zia () (show True from by first|trivial|omega|simp_all) ((.e rfl (congrArg Value.bool cbu) (.of rfl)):SubM _ _) (ho:=((.c (i:=0) rfl .n):PickO _ _ _)) ((.of [0,1] rfl):SelR _ _ _)
     ·
      refine e_p (zh yc rfl sz3 rfl rfl)<|e_ru (zg 0 ty3 rfl rfl rfl)<|e_mv rfl<|e_p (zIa rfl rfl)<|e_p (zn rfl rfl)<|zW rfl rfl (zba rfl) (fun h9=> ?_) (fun h9=> ?_)
      ·
       refine e_no<|e_no<|e_no<|e_p (zn rfl rfl)<|e_mv rfl<|e_no<|e_no<|e_no<|e_no<|e_p (zn rfl rfl)<|e_mv rfl<|e_no<|e_no<|e_no<|e_p (zn rfl rfl)<|e_mv rfl<|e_no<|e_no<|e_no<|e_p (zn rfl rfl)<|e_mv rfl<|e_no<|e_no<|e_no<|e_p (zn rfl rfl)<|e_mv rfl<|e_no<|e_no<|e_no<|e_p (zn rfl rfl)<|e_p (zb rfl)<|zf ?_
       exact zia () (show True from by first|trivial|omega|simp_all) ((.e rfl (congrArg Value.bool cbu) (.of rfl)):SubM _ _) (ho:=((.c (i:=0) rfl .n):PickO _ _ _)) ((.of [0,1] rfl):SelR _ _ _)
      ·
       refine e_p (zh yc rfl sz3 rfl rfl)<|e_ru (zg 0 ty3 rfl rfl rfl)<|e_p (zT rfl rfl)<|e_p (zn rfl rfl)<|zW rfl rfl (zba rfl) (fun h10=> ?_) (fun h10=> ?_)
       ·
        refine e_no<|e_no<|e_no<|e_no<|e_p (zn rfl rfl)<|e_mv rfl<|e_no<|e_no<|e_no<|e_p (zn rfl rfl)<|e_mv rfl<|e_no<|e_no<|e_no<|e_p (zn rfl rfl)<|e_mv rfl<|e_no<|e_no<|e_no<|e_p (zn rfl rfl)<|e_mv rfl<|e_no<|e_no<|e_no<|e_p (zn rfl rfl)<|e_p (zb rfl)<|zf ?_
        exact zia () (show True from by first|trivial|omega|simp_all) ((.e rfl (congrArg Value.bool cbu) (.of rfl)):SubM _ _) (ho:=((.c (i:=0) rfl .n):PickO _ _ _)) ((.of [0,1] rfl):SelR _ _ _)
       ·
        refine e_p (zh yc rfl sz3 rfl rfl)<|e_ru (zg 0 ty3 rfl rfl rfl)<|e_mv rfl<|e_p (zIa rfl rfl)<|e_p (zn rfl rfl)<|zW rfl rfl (zba rfl) (fun h11=> ?_) (fun h11=> ?_)
        ·
         refine e_no<|e_no<|e_no<|e_p (zn rfl rfl)<|e_mv rfl<|e_no<|e_no<|e_no<|e_p (zn rfl rfl)<|e_mv rfl<|e_no<|e_no<|e_no<|e_p (zn rfl rfl)<|e_mv rfl<|e_no<|e_no<|e_no<|e_p (zn rfl rfl)<|e_p (zb rfl)<|zf ?_
         exact zia () (show True from by first|trivial|omega|simp_all) ((.e rfl (congrArg Value.bool cbu) (.of rfl)):SubM _ _) (ho:=((.c (i:=0) rfl .n):PickO _ _ _)) ((.of [0,1] rfl):SelR _ _ _)
        ·
         refine e_p (zh yc rfl sz3 rfl rfl)<|e_ru (zg 0 ty3 rfl rfl rfl)<|e_p (zT rfl rfl)<|e_p (zn rfl rfl)<|zW rfl rfl (zba rfl) (fun h12=> ?_) (fun h12=> ?_)
         ·
          refine e_no<|e_no<|e_no<|e_p (zn rfl rfl)<|e_mv rfl<|e_no<|e_no<|e_no<|e_p (zn rfl rfl)<|e_mv rfl<|e_no<|e_no<|e_no<|e_p (zn rfl rfl)<|e_p (zb rfl)<|zf ?_
          exact zia () (show True from by first|trivial|omega|simp_all) ((.e rfl (congrArg Value.bool cbu) (.of rfl)):SubM _ _) (ho:=((.c (i:=0) rfl .n):PickO _ _ _)) ((.of [0,1] rfl):SelR _ _ _)
         ·
          refine e_p (zh yc rfl sz3 rfl rfl)<|e_ru (zg 0 ty3 rfl rfl rfl)<|e_p (zna rfl rfl)<|e_p (zn rfl rfl)<|zW rfl rfl (zba rfl) (fun h13=> ?_) (fun h13=> ?_)
          ·
           refine e_no<|e_no<|e_no<|e_p (zn rfl rfl)<|e_mv rfl<|e_no<|e_no<|e_no<|e_p (zn rfl rfl)<|e_p (zb rfl)<|zf ?_
           exact zia () (show True from by first|trivial|omega|simp_all) ((.e rfl (congrArg Value.bool cbu) (.of rfl)):SubM _ _) (ho:=((.c (i:=0) rfl .n):PickO _ _ _)) ((.of [0,1] rfl):SelR _ _ _)
          ·
           refine e_p (zh yc rfl sz3 rfl rfl)<|e_ru (zg 0 ty3 rfl rfl rfl)<|e_p (zT rfl rfl)<|e_p (zn rfl rfl)<|zW rfl rfl (zba rfl) (fun h14=> ?_) (fun h14=> ?_)
           ·
            refine e_no<|e_no<|e_no<|e_p (zn rfl rfl)<|e_p (zb rfl)<|zf ?_
            exact zia () (show True from by first|trivial|omega|simp_all) ((.e rfl (congrArg Value.bool cbu) (.of rfl)):SubM _ _) (ho:=((.c (i:=0) rfl .n):PickO _ _ _)) ((.of [0,1] rfl):SelR _ _ _)
           ·
            refine e_p (zh yc rfl sz3 rfl rfl)<|e_ru (zg 0 ty3 rfl rfl rfl)<|e_p (zna rfl rfl)<|e_p (zn rfl rfl)<|e_p (zb rfl)<|zf ?_
            exact zia () (show True from by first|trivial|omega|simp_all) ((.e rfl (congrArg Value.bool cbu) (.of rfl)):SubM _ _) (ho:=((.c (i:=0) rfl .n):PickO _ _ _)) ((.of [0,1] rfl):SelR _ _ _)
    ·
     rintro ⟨⟩ -
     try dsimp only
     refine zB rfl (fun h37=> ?_) (fun h37=> ?_)
     ·
      refine ze<|za<|e_p (zb rfl)<|e_p (zb rfl)<|zf<|zc<|zJ<|zS<|zS<|zm<|zm<|zS<|zm<|zqb rQ ?_
      have hc2:Rd.cc ni (L.getD i Rd.c0)=2:=if_pos (by unfold Rd.bad;omega)
      have hof:Rd.offC ni L=2:=by unfold Rd.offC;rw [if_neg om,Rd.cfst_at hall om (by rw [hc2];decide)];exact hc2
      exact zqa yj (none,0,([]:List Rat)) (⟨fun k=>absurd (hof.symm.trans k) dd,fun _=>rfl⟩) (zo rfl) (zo rfl) (by rw [hof];rfl) (ho:=(.n:PickO _ _ _)) ((.c (j:=0) rfl .n):SelR _ _ _)
     ·
      refine ze<|za<|e_p (zh yc rfl sz3 rfl rfl)<|e_ru (zg 0 ty3 rfl rfl rfl)<|e_p (zh yc rfl sz3 rfl rfl)<|e_ru (zg 0 ty3 rfl rfl rfl)<|e_p (zta rfl rfl)<|e_p (zb rfl)<|zf<|zc<|zB rfl (fun h78=> ?_) (fun h78=> ?_)
      ·
       refine ze<|za<|e_p (zb rfl)<|e_p (zb rfl)<|zf<|zc<|zJ<|zS<|zS<|zm<|zm<|zS<|zm<|zqb rQ ?_
       have hc2:Rd.cc ni (L.getD i Rd.c0)=1:=by unfold Rd.cc;rw [if_neg (by unfold Rd.bad;omega),if_pos h78]
       have hof:Rd.offC ni L=1:=by unfold Rd.offC;rw [if_neg om,Rd.cfst_at hall om (by rw [hc2];decide)];exact hc2
       exact zqa yj (none,0,([]:List Rat)) (⟨fun k=>absurd (hof.symm.trans k) dd,fun _=>rfl⟩) (zo rfl) (zo rfl) (by rw [hof];rfl) (ho:=(.n:PickO _ _ _)) ((.c (j:=0) rfl .n):SelR _ _ _)
      ·
       refine zv<|zM<|zM<|zc<|za<|e_p (zH (z:=(((i+1):Nat):Int)) rfl rfl (w64 om))<|e_mv rfl<|zf<|zaa (i+1) (show (i+1)≤nL∧∀j,j<(i+1)→Rd.cc ni (L.getD j Rd.c0)=0 from by refine ⟨by omega,fun j hj=> ?_⟩;by_cases e:j=i;subst e;unfold Rd.cc;rw [if_neg (by unfold Rd.bad;omega),if_neg h78];exact hall j om) (by show nL - (i+1)<nL - i;omega) ((.of rfl):SubM _ _) (ho:=(.n:PickO _ _ _)) ((.c (j:=1) rfl .n):SelR _ _ _)
   ·
    refine zda<|zi<|zi<|zr<|zc<|ze ?_
    have hof:Rd.offC ni L=0:=by unfold Rd.offC;rw [if_neg om];exact Rd.cfst_all (fun j hj=>hall j om)
    obtain ⟨n,e15⟩:∃q:Nat,ni=(q:Int):=⟨ni.toNat,by omega⟩
    subst e15
    have hko:=Rd.offC_ok hof
    have hok:=hko.2.2.2
    have hs6:=hsm hof
    have hn16:1≤n∧n≤16:=⟨hko.1,hko.2.1⟩
    have hpl:=Rd.prt_len n L
    refine za<|e_mv rfl<|zra rfl rfl (zCa (r:=rV) (k:=n) (x0:=(none,0,0)) (γ0:=()) yf inf42 rfl rfl rfl rfl om om rfl (fun g _=>by trivial) dd) (fun b16 _=> ?_)
    refine e_p (zb rfl)<|zf<|zc<|ze<|za<|e_mv rfl<|zra rfl rfl (zCa (r:=rI .i64) (k:=n) (x0:=0) (γ0:=()) yd inf3 rfl rfl rfl rfl om om rfl (fun g _=>by exact zP.2 dd) dd) (fun b17 _=> ?_)
    refine e_p (zb rfl)<|zf<|zc<|ze ?_
    have e18:(List.replicate n 0:List Int)=(Rd.RK n (L.take 0)):=by rfl
    rw [e18]
    refine za<|e_mv rfl<|e_mv rfl<|zu rfl rfl (.c rfl (.c rfl .n)) ce67 (zTc (n:=n) (pL:=pL) (nL:=nL) (cL:=cL) (L:=L) (hnL:=ass) (hn:=by first|rfl|assumption|omega|exact Rd.mkI_len _ _ _|(rw [Rd.mkI_rl om];done)|(intro i hi;rw [Rd.mkI_rl hi,Rd.mkI_rl om];done)) (hok:=by first|rfl|assumption|omega|exact Rd.mkI_len _ _ _|(rw [Rd.mkI_rl om];done)|(intro i hi;rw [Rd.mkI_rl hi,Rd.mkI_rl om];done))) (.c (j:=0) rfl .n) ?_
    rintro ⟨p319,c320⟩ -
    dsimp only [aq,nq,cq]
    refine e_p (zb rfl)<|zf<|zc<|ze<|ze<|zxd (fun w mm=>mm.rmNil 3 (rI .i64)) ?_
    have e21:(List.replicate n (none,0,0):List (Option Addr×Nat×Nat))=(Mx.oz ([]:HP) n n):=by exact Mx.oz_start n n
    rw [e21]
    refine za<|e_mv rfl<|e_p (zD yf rfl)<|e_mv rfl<|zf<|zc<|zt<|zea (X:=Nat×HP) (fun x:Nat×HP=>x.1≤n∧x.2.length=x.1) (fun x=>[(94,ya yb ((x.1:Nat):Int)),(93,ya yb ((n:Nat):Int)),(10,.slice p319 n c320),(9,.slice (some ⟨b17,0,none⟩) n n),(8,.slice (some ⟨b16,0,none⟩) n n),(0,ya yb ((n:Nat):Int)),(1,.slice pL nL cL)]) (fun x=>[rowsM 3 (rI .i64) (x.2) (Rd.mkI x.1 n (Rd.J0 (Rd.prt n L))),rowA 3 (rI .i64) (some ⟨b17,0,none⟩) n (Rd.RK n (L.take 0)),rowA 42 rV (some ⟨b16,0,none⟩) n (Mx.oz x.2 n n)]) (fun x=>[slF (rI .i64) p319 c320 (Rd.prt n L),slF (rI4 .i64) pL cL L]) (fun x:Nat×HP=>n - x.1) (0,([]:HP)) (show 0≤n∧([]:HP).length=0 from by exact ⟨Nat.zero_le _,rfl⟩) ((.e rfl (by first|rfl|(congr 1;omega)|simp_all) (.of rfl)):SubM _ _) (ho:=((.e (i:=0) rfl (by rfl) (.of [0,0] rfl)):PickO _ _ _)) ((.of [0,1] rfl):SelR _ _ _) ?_
    rintro ⟨i,hs⟩ hI2
    replace hI2:i≤n∧hs.length=i:=hI2
    try dsimp only
    obtain ⟨hi2,hlen⟩:=hI2
    refine ze<|za<|e_p (zT rfl rfl)<|zf<|zc<|ze<|zB rfl (fun h22=> ?_) (fun h22=> ?_)
    ·
     refine zv<|zc<|ze<|zt<|ze<|za<|e_mv rfl<|e_p (zb rfl)<|zf<|zc<|ze<|za<|e_mv rfl<|e_mv rfl<|e_mv rfl<|zra rfl rfl (zCa (r:=rI .i64) (k:=n) (x0:=0) (γ0:=()) yd inf3 rfl rfl rfl rfl om om rfl (fun g _=>by exact zP.2 dd) dd) (fun b23 _=> ?_)
     refine e_p (zI (j:=i) yf sz42 rfl rfl rfl om)<|zza 3 rfl rfl rfl (zL (j:=i) (x0:=(some ⟨b23,0,none⟩,n,n)) (γ0:=()) rfl rfl (by first|omega|(rw [Rd.fz_len];omega)|(rw [Mx.oz_len om];omega)|(rw [Rd.RK_len];omega)|(rw [List.length_set,Rd.RK_len];omega)) rfl rfl sz42 (fun _ _=>by trivial)) (fun _=>(.s (.s (.s .z)))) (fun _ _=> ?_)
     refine zf<|zc<|ze ?_
     have e24:(((Mx.oz hs n n).set i (some ⟨b23,0,none⟩,n,n)):List (Option Addr×Nat×Nat))=(Mx.oz (hs++[((some ⟨b23,0,none⟩:Option Addr),n)]) n n):=by exact Mx.oz_step' hlen om
     rw [e24]
     have e25:(List.replicate n 0:List Int)=(Rd.fz 0 n ((Rd.J0 (Rd.prt n L)) i)):=by exact Rd.fz_start _ _
     rw [e25]
     refine za<|e_mv rfl<|e_p (zD yf rfl)<|e_mv rfl<|zf<|zc<|zt<|zea (X:=Nat) (fun x:Nat=>x≤n) (fun x=>[(104,ya yb ((x:Nat):Int)),(103,ya yb ((n:Nat):Int)),(11,ya yb ((i:Nat):Int)),(94,ya yb ((i:Nat):Int)),(93,ya yb ((n:Nat):Int)),(10,.slice p319 n c320),(9,.slice (some ⟨b17,0,none⟩) n n),(8,.slice (some ⟨b16,0,none⟩) n n),(0,ya yb ((n:Nat):Int)),(1,.slice pL nL cL)]) (fun x=>[rowA 3 (rI .i64) (some ⟨b23,0,none⟩) n (Rd.fz x n ((Rd.J0 (Rd.prt n L)) i)),rowsM 3 (rI .i64) hs (Rd.mkI i n (Rd.J0 (Rd.prt n L))),rowA 3 (rI .i64) (some ⟨b17,0,none⟩) n (Rd.RK n (L.take 0)),rowA 42 rV (some ⟨b16,0,none⟩) n (Mx.oz (hs++[((some ⟨b23,0,none⟩:Option Addr),n)]) n n)]) (fun x=>[slF (rI .i64) p319 c320 (Rd.prt n L),slF (rI4 .i64) pL cL L]) (fun x:Nat=>n - x) 0 (show 0≤n from by exact Nat.zero_le _) ((.e rfl (by first|rfl|(congr 1;omega)|simp_all) (.of rfl)):SubM _ _) (ho:=((.of [0,0,0,0] rfl):PickO _ _ _)) ((.of [0,1] rfl):SelR _ _ _) ?_
     rintro j hJ
     replace hJ:j≤n:=hJ
     try dsimp only
     refine ze<|za<|e_p (zT rfl rfl)<|zf<|zc<|ze<|zB rfl (fun h26=> ?_) (fun h26=> ?_)
     ·
      refine zv<|zc<|ze<|zt<|ze<|za<|e_mv rfl<|e_p (zb rfl)<|zf<|zc<|ze<|zZ (OW:=[]) (O:=[rowA 3 (rI .i64) (some ⟨b23,0,none⟩) n (Rd.fz j n ((Rd.J0 (Rd.prt n L)) i)),rowsM 3 (rI .i64) hs (Rd.mkI i n (Rd.J0 (Rd.prt n L))),rowA 3 (rI .i64) (some ⟨b17,0,none⟩) n (Rd.RK n (L.take 0)),rowA 42 rV (some ⟨b16,0,none⟩) n (Mx.oz (hs++[((some ⟨b23,0,none⟩:Option Addr),n)]) n n)]) 100000 mixed (.then (.block (.then (.then (.block (.block (.then (.then (.block (.then .ret)))))))))) kr<|e_dm 0 rfl rfl rfl<|e_dm 1 rfl rfl rfl<|zoa (x0:=((Rd.prt n L).getD i 0)) 2 rfl rfl kr kr 0 i rfl yd sz3 rfl rfl rfl (by first|rfl|assumption|omega|exact Rd.fz_len _ _ _|exact Rd.RK_len _ _|exact Rd.prt_len _ _|(rw [Mx.oz_len om];done)|(rw [Mx.oz_len (by rw [List.length_append];simp;omega)];done)|(rw [oh_len];assumption)|(simp;done)) rfl rfl (gD (d:=0) om) (fun b27 o28 hok29=> ?_)
      replace hok29:=zP.1 hok29
      refine e_u 3 rfl rfl (zj (j:=0) 0 ty3 rfl rfl rfl rfl)<|e_dm 4 rfl rfl rfl<|e_dm 5 rfl rfl rfl<|zoa (x0:=((Rd.prt n L).getD j 0)) 6 rfl rfl kr kr 1 j rfl yd sz3 rfl rfl rfl (by first|rfl|assumption|omega|exact Rd.fz_len _ _ _|exact Rd.RK_len _ _|exact Rd.prt_len _ _|(rw [Mx.oz_len om];done)|(rw [Mx.oz_len (by rw [List.length_append];simp;omega)];done)|(rw [oh_len];assumption)|(simp;done)) rfl rfl (gD (d:=0) om) (fun b30 o31 hok32=> ?_)
      replace hok32:=zP.1 hok32
      refine e_u 7 rfl rfl (zj (j:=0) 0 ty3 rfl rfl rfl rfl)<|e_pv 8 rfl rfl (zta rfl rfl)<|zX kr<|zc<|zB rfl (fun h115=> ?_) (fun h115=> ?_)
      ·
       refine za<|e_mv rfl<|e_mv rfl<|e_p (zI (j:=i) yf sz42 rfl rfl rfl om)<|r_vl rfl rfl (zE (x0:=(some ⟨b23,0,none⟩,n,n)) (v:= .slice (some ⟨b23,0,none⟩) n n) 3 i rfl ty42 rfl rfl (by exact Mx.oz_last (K:=n) om) rfl) (fun _ hok33=> ?_)
       refine e_mv rfl<|e_p (zI (j:=j) yd sz3 rfl rfl rfl om)<|zza 0 rfl rfl rfl (zL (j:=j) (x0:=1) (γ0:=()) rfl rfl (by first|omega|(rw [Rd.fz_len];omega)|(rw [Mx.oz_len om];omega)|(rw [Rd.RK_len];omega)|(rw [List.length_set,Rd.RK_len];omega)) rfl rfl sz3 (fun _ _=>by exact zP.2 om)) (fun _=> .z) (fun _ _=> ?_)
       refine zf<|zM<|zc<|za<|e_p (zH (z:=(((j+1):Nat):Int)) rfl rfl (w64 om))<|e_mv rfl<|zf<|zaa (j+1) (show (j+1)≤n from by show j+1≤n;omega) (by show n - (j+1)<n - j;omega) ((.of rfl):SubM _ _) (ho:=((.e (i:=0) rfl (by first|rfl|(rw [Rd.fz_step' om (Rd.J0_1 h115)])) (.of [0,0,0] rfl)):PickO _ _ _)) ((.of [2,3] rfl):SelR _ _ _)
      ·
       refine zv<|zM<|zc<|za<|e_p (zH (z:=(((j+1):Nat):Int)) rfl rfl (w64 om))<|e_mv rfl<|zf<|zaa (j+1) (show (j+1)≤n from by show j+1≤n;omega) (by show n - (j+1)<n - j;omega) ((.of rfl):SubM _ _) (ho:=((.e (i:=0) rfl (by first|rfl|(rw [Rd.fz_skip om (Rd.J0_0 h115)])) (.of [0,0,0] rfl)):PickO _ _ _)) ((.of [2,3] rfl):SelR _ _ _)
     ·
      refine zda<|zi<|zi<|zr<|zM<|zc<|za<|e_p (zH (z:=(((i+1):Nat):Int)) rfl rfl (w64 om))<|e_mv rfl<|zf ?_
      have e34:((Rd.fz j n ((Rd.J0 (Rd.prt n L)) i)):List Int)=((List.range n).map ((Rd.J0 (Rd.prt n L)) i)):=by rw [show j=n by omega];exact Rd.fz_end _ _
      rw [e34]
      refine zQc (fun w mm=>mm.rmSnoc 0 0 rfl rfl (by rw [Rd.mkI_len];exact hlen)) ?_
      try dsimp only [List.eraseIdx]
      refine zaa ((i+1),(hs++[((some ⟨b23,0,none⟩:Option Addr),n)])) (show (i+1)≤n∧(hs++[((some ⟨b23,0,none⟩:Option Addr),n)]).length=(i+1) from by exact ⟨by omega,by rw [List.length_append,hlen];rfl⟩) (by show n - (i+1)<n - i;omega) ((.of rfl):SubM _ _) (ho:=((.e (i:=0) rfl (by first|rfl|(rw [Rd.mkI_succ])) (.of [0,0] rfl)):PickO _ _ _)) ((.of [0,1] rfl):SelR _ _ _)
    ·
     refine zda<|zi<|zi<|zr<|zc<|ze<|ze ?_
     have hlen2:hs.length=n:=hlen.trans om
     have e35:((Mx.oz hs n n):List (Option Addr×Nat×Nat))=(oh hs n):=by exact Mx.oz_end hlen2
     rw [e35]
     have e36:((Rd.mkI i n (Rd.J0 (Rd.prt n L))):List (List Int))=(Rd.mkI n n (Rd.J0 (Rd.prt n L))):=by rw [show i=n by omega]
     rw [e36]
     refine za<|e_mv rfl<|e_p (zD ye rfl)<|e_mv rfl<|zf<|zc<|zt<|zea (X:=Nat) (fun x:Nat=>x≤nL) (fun x=>[(126,ya yb ((x:Nat):Int)),(125,ya yb ((nL:Nat):Int)),(124,.slice pL nL cL),(9,.slice (some ⟨b17,0,none⟩) n n),(8,.slice (some ⟨b16,0,none⟩) n n)]) (fun x=>[rowsM 3 (rI .i64) hs (Rd.mkI n n (Rd.FK (Rd.prt n L) (L.take x))),rowA 3 (rI .i64) (some ⟨b17,0,none⟩) n (Rd.RK n (L.take x)),rowA 42 rV (some ⟨b16,0,none⟩) n (oh hs n)]) (fun x=>[slF (rI .i64) p319 c320 (Rd.prt n L),slF (rI4 .i64) pL cL L]) (fun x:Nat=>nL - x) 0 (show 0≤nL from by exact Nat.zero_le _) ((.e rfl (by first|rfl|(congr 1;omega)|simp_all) (.of rfl)):SubM _ _) (ho:=((.e (i:=0) rfl (by rfl) (.of [0,0] rfl)):PickO _ _ _)) ((.of [0,1] rfl):SelR _ _ _) ?_
     rintro i hI4
     replace hI4:i≤nL:=hI4
     try dsimp only
     refine ze<|za<|e_p (zT rfl rfl)<|zf<|zc<|ze<|zB rfl (fun h37=> ?_) (fun h37=> ?_)
     ·
      refine zv<|zc<|ze<|zt<|ze<|za<|zV (x0:=(L.getD i Rd.c0)) 1 i rfl ye sz68 rfl rfl rfl (by first|rfl|assumption|omega|exact Rd.fz_len _ _ _|exact Rd.RK_len _ _|exact Rd.prt_len _ _|(rw [Mx.oz_len om];done)|(rw [Mx.oz_len (by rw [List.length_append];simp;omega)];done)|(rw [oh_len];assumption)|(simp;done)) rfl rfl (gD (d:=Rd.c0) om) (fun b38 o39 hok40=> ?_)
      obtain ⟨hok400,hok401,hok402,hok403⟩:=hok40
      replace hok400:=zP.1 hok400
      replace hok401:=zP.1 hok401
      replace hok402:=zP.1 hok402
      replace hok403:=zP.1 hok403
      refine e_ru (zha (j:=0) 0 ty68 rfl rfl rfl (.t4 .nil))<|zK rfl rfl (zw zr68 rfl) (fun b41=> ?_)
      refine zk 0 rfl rfl rfl rfl rfl sz68 rfl (.t4 .nil) .z<|zf<|zc<|ze ?_
      obtain ⟨cm,hcm⟩:∃z:Cm,z=(L.getD i Rd.c0):=⟨_,rfl⟩
      rw [← hcm]
      have hoi:Rd.Ok n cm:=by rw [hcm];exact hok.getD (show i<L.length by omega)
      have hoa:=hoi.a
      have hob:=hoi.b
      have hoa0:=hoi.a0
      have hob0:=hoi.b0
      have hone:=hoi.ne
      have hod:=hoi.d
      have how:=hoi.w
      have hmw:=Rd.mul_wd how hod
      obtain ⟨F0,hF0⟩:∃z:Rd.Fi,z=(Rd.FK (Rd.prt n L) (L.take i)):=⟨_,rfl⟩
      rw [← hF0]
      obtain ⟨R0,hR0⟩:∃z:List Int,z=(Rd.RK n (L.take i)):=⟨_,rfl⟩
      rw [← hR0]
      have hfb0:Rd.fb F0 (1+16384*((i:Nat):Int)):=by rw [hF0];exact Rd.FK_fb hok i om
      have hrb0:Rd.rb R0 (536862720*((i:Nat):Int)):=by rw [hR0];exact Rd.RK_rb hok i om
      have hrl0:R0.length=n:=by rw [hR0];exact Rd.RK_len _ _
      have hv1:=hfb0 cm.a.toNat cm.a.toNat
      have hfb1:=Rd.fb_add (W:=4096) (v:=cm.w) (a:=cm.a.toNat) (b:=cm.a.toNat) hfb0 om
      have hv2:=hfb1 cm.b.toNat cm.b.toNat
      have hfb2:=Rd.fb_add (W:=4096) (v:=cm.w) (a:=cm.b.toNat) (b:=cm.b.toNat) hfb1 om
      have hv3:=hfb2 cm.a.toNat cm.b.toNat
      have hfb3:=Rd.fb_add (W:=4096) (v:= -cm.w) (a:=cm.a.toNat) (b:=cm.b.toNat) hfb2 om
      have hv4:=hfb3 cm.b.toNat cm.a.toNat
      have hra:=hrb0 cm.a.toNat
      have hrl1:(R0.set cm.a.toNat (R0.getD cm.a.toNat 0+cm.w*cm.d)).length=n:=by rw [List.length_set];exact hrl0
      have hrb1:=(Rd.rb_set (k:=cm.a.toNat) (v:=R0.getD cm.a.toNat 0+cm.w*cm.d) (Rd.rb_up hrb0 (C:=536862720*((i:Nat):Int)+268431360) om) om) cm.b.toNat
      refine zma (.c (i:=1) rfl (.c (i:=0) rfl (.c (i:=0) rfl (.c (i:=0) rfl .n))))<|zZ (OW:=[rowsM 3 (rI .i64) hs (Rd.mkI n n F0)]) (O:=[boxA b41 68 [ya yb (cm.a),ya yb (cm.b),ya yb (cm.d),ya yb (cm.w)],rowA 3 (rI .i64) (some ⟨b17,0,none⟩) n R0,rowA 42 rV (some ⟨b16,0,none⟩) n (oh hs n)]) 13 mixed (.then (.block (.then (.then (.block (.then .ret)))))) kr<|e_dm 0 rfl rfl rfl<|e_pv 1 rfl rfl (zh yc rfl sz3 rfl rfl)<|e_uw 2 rfl rfl (zg 1 ty3 rfl rfl rfl)<|e_pv 3 rfl rfl (zI (j:=(cm.a).toNat) yf sz42 rfl rfl om om)<|zdb 4 rfl rfl kr kr kr rfl rfl (zE (x0:=((rp hs ((cm.a).toNat)),n,(rc hs ((cm.a).toNat)))) (v:= .slice (rp hs ((cm.a).toNat)) n (rc hs ((cm.a).toNat))) 3 ((cm.a).toNat) rfl ty42 rfl rfl (oh_get ((mkI_sm n n F0 hlen2).hk om)) rfl) (fun _ hok42=> ?_)
      refine e_pv 5 rfl rfl (zh yc rfl sz3 rfl rfl)<|e_uw 6 rfl rfl (zg 1 ty3 rfl rfl rfl)<|e_uw 7 rfl rfl (zla 0 ((cm.a).toNat) ((cm.a).toNat) rfl ((mkI_sm n n F0 hlen2).hk om) ((mkI_sm n n F0 hlen2).mk' om) ((mkI_sm n n F0 hlen2).row om) yd sz3 rfl rfl om om)<|zdb 8 rfl rfl kr kr kr rfl rfl (zyb (x0:=(((Rd.mkI n n F0).getD ((cm.a).toNat) []).getD ((cm.a).toNat) 0)) 0 ((cm.a).toNat) ((cm.a).toNat) rfl ((mkI_sm n n F0 hlen2).hk om) ((mkI_sm n n F0 hlen2).mk' om) ty3 rfl rfl (gD (d:=(0:Int)) (by rw [(mkI_sm n n F0 hlen2).row om];omega))) (fun _ hok43=> ?_)
      replace hok43:=zP.1 hok43
      have e44:((Rd.mkI n n F0).getD ((cm.a).toNat) []).getD ((cm.a).toNat) 0=F0 (cm.a).toNat (cm.a).toNat:=by exact Rd.mkI_get om om
      rw [e44]
      refine e_pv 9 rfl rfl (zh yc rfl sz3 rfl rfl)<|e_uw 10 rfl rfl (zg 1 ty3 rfl rfl rfl)<|e_pv 11 rfl rfl (zH (z:=((F0 (cm.a).toNat (cm.a).toNat)+cm.w)) rfl rfl (w64 om))<|e_uw 12 rfl rfl (zla 0 ((cm.a).toNat) ((cm.a).toNat) rfl ((mkI_sm n n F0 hlen2).hk om) ((mkI_sm n n F0 hlen2).mk' om) ((mkI_sm n n F0 hlen2).row om) yd sz3 rfl rfl om om)<|e_one 13 (zob (A':=fun _=>rowsM 3 (rI .i64) hs ((Rd.mkI n n F0).set ((cm.a).toNat) (((Rd.mkI n n F0).getD ((cm.a).toNat) []).set ((cm.a).toNat) ((F0 (cm.a).toNat (cm.a).toNat)+cm.w)))) kr rfl rfl rfl (zab (r:=rI .i64) (k:=((cm.a).toNat)) (j:=(cm.a).toNat) (x0:=((F0 (cm.a).toNat (cm.a).toNat)+cm.w)) (γ0:=()) ((mkI_sm n n F0 hlen2).hk om) ((mkI_sm n n F0 hlen2).mk' om) rfl rfl (by rw [(mkI_sm n n F0 hlen2).row om];omega) rfl rfl sz3 (fun _ _=>by exact zP.2 om)) (fun _ _=> ?_))
      refine zX kr<|zc<|ze ?_
      have e45:(((Rd.mkI n n F0).set ((cm.a).toNat) (((Rd.mkI n n F0).getD ((cm.a).toNat) []).set ((cm.a).toNat) ((F0 (cm.a).toNat (cm.a).toNat)+cm.w))):List (List Int))=(Rd.mkI n n (Rd.add1 F0 cm.a.toNat cm.a.toNat cm.w)):=by exact Rd.mkI_set om om
      rw [e45]
      refine zZ (OW:=[rowsM 3 (rI .i64) hs (Rd.mkI n n (Rd.add1 F0 cm.a.toNat cm.a.toNat cm.w))]) (O:=[boxA b41 68 [ya yb (cm.a),ya yb (cm.b),ya yb (cm.d),ya yb (cm.w)],rowA 3 (rI .i64) (some ⟨b17,0,none⟩) n R0,rowA 42 rV (some ⟨b16,0,none⟩) n (oh hs n)]) 13 mixed (.then (.block (.then (.then (.block (.then .ret)))))) kr<|e_dm 0 rfl rfl rfl<|e_pv 1 rfl rfl (zh yc rfl sz3 rfl rfl)<|e_uw 2 rfl rfl (zg 1 ty3 rfl rfl rfl)<|e_pv 3 rfl rfl (zI (j:=(cm.b).toNat) yf sz42 rfl rfl om om)<|zdb 4 rfl rfl kr kr kr rfl rfl (zE (x0:=((rp hs ((cm.b).toNat)),n,(rc hs ((cm.b).toNat)))) (v:= .slice (rp hs ((cm.b).toNat)) n (rc hs ((cm.b).toNat))) 3 ((cm.b).toNat) rfl ty42 rfl rfl (oh_get ((mkI_sm n n (Rd.add1 F0 cm.a.toNat cm.a.toNat cm.w) hlen2).hk om)) rfl) (fun _ hok46=> ?_)
      refine e_pv 5 rfl rfl (zh yc rfl sz3 rfl rfl)<|e_uw 6 rfl rfl (zg 1 ty3 rfl rfl rfl)<|e_uw 7 rfl rfl (zla 0 ((cm.b).toNat) ((cm.b).toNat) rfl ((mkI_sm n n (Rd.add1 F0 cm.a.toNat cm.a.toNat cm.w) hlen2).hk om) ((mkI_sm n n (Rd.add1 F0 cm.a.toNat cm.a.toNat cm.w) hlen2).mk' om) ((mkI_sm n n (Rd.add1 F0 cm.a.toNat cm.a.toNat cm.w) hlen2).row om) yd sz3 rfl rfl om om)<|zdb 8 rfl rfl kr kr kr rfl rfl (zyb (x0:=(((Rd.mkI n n (Rd.add1 F0 cm.a.toNat cm.a.toNat cm.w)).getD ((cm.b).toNat) []).getD ((cm.b).toNat) 0)) 0 ((cm.b).toNat) ((cm.b).toNat) rfl ((mkI_sm n n (Rd.add1 F0 cm.a.toNat cm.a.toNat cm.w) hlen2).hk om) ((mkI_sm n n (Rd.add1 F0 cm.a.toNat cm.a.toNat cm.w) hlen2).mk' om) ty3 rfl rfl (gD (d:=(0:Int)) (by rw [(mkI_sm n n (Rd.add1 F0 cm.a.toNat cm.a.toNat cm.w) hlen2).row om];omega))) (fun _ hok47=> ?_)
      replace hok47:=zP.1 hok47
      have e48:((Rd.mkI n n (Rd.add1 F0 cm.a.toNat cm.a.toNat cm.w)).getD ((cm.b).toNat) []).getD ((cm.b).toNat) 0=(Rd.add1 F0 cm.a.toNat cm.a.toNat cm.w) (cm.b).toNat (cm.b).toNat:=by exact Rd.mkI_get om om
      rw [e48]
      refine e_pv 9 rfl rfl (zh yc rfl sz3 rfl rfl)<|e_uw 10 rfl rfl (zg 1 ty3 rfl rfl rfl)<|e_pv 11 rfl rfl (zH (z:=(((Rd.add1 F0 cm.a.toNat cm.a.toNat cm.w) (cm.b).toNat (cm.b).toNat)+cm.w)) rfl rfl (w64 om))<|e_uw 12 rfl rfl (zla 0 ((cm.b).toNat) ((cm.b).toNat) rfl ((mkI_sm n n (Rd.add1 F0 cm.a.toNat cm.a.toNat cm.w) hlen2).hk om) ((mkI_sm n n (Rd.add1 F0 cm.a.toNat cm.a.toNat cm.w) hlen2).mk' om) ((mkI_sm n n (Rd.add1 F0 cm.a.toNat cm.a.toNat cm.w) hlen2).row om) yd sz3 rfl rfl om om)<|e_one 13 (zob (A':=fun _=>rowsM 3 (rI .i64) hs ((Rd.mkI n n (Rd.add1 F0 cm.a.toNat cm.a.toNat cm.w)).set ((cm.b).toNat) (((Rd.mkI n n (Rd.add1 F0 cm.a.toNat cm.a.toNat cm.w)).getD ((cm.b).toNat) []).set ((cm.b).toNat) (((Rd.add1 F0 cm.a.toNat cm.a.toNat cm.w) (cm.b).toNat (cm.b).toNat)+cm.w)))) kr rfl rfl rfl (zab (r:=rI .i64) (k:=((cm.b).toNat)) (j:=(cm.b).toNat) (x0:=(((Rd.add1 F0 cm.a.toNat cm.a.toNat cm.w) (cm.b).toNat (cm.b).toNat)+cm.w)) (γ0:=()) ((mkI_sm n n (Rd.add1 F0 cm.a.toNat cm.a.toNat cm.w) hlen2).hk om) ((mkI_sm n n (Rd.add1 F0 cm.a.toNat cm.a.toNat cm.w) hlen2).mk' om) rfl rfl (by rw [(mkI_sm n n (Rd.add1 F0 cm.a.toNat cm.a.toNat cm.w) hlen2).row om];omega) rfl rfl sz3 (fun _ _=>by exact zP.2 om)) (fun _ _=> ?_))
      refine zX kr<|zc<|ze ?_
      have e49:(((Rd.mkI n n (Rd.add1 F0 cm.a.toNat cm.a.toNat cm.w)).set ((cm.b).toNat) (((Rd.mkI n n (Rd.add1 F0 cm.a.toNat cm.a.toNat cm.w)).getD ((cm.b).toNat) []).set ((cm.b).toNat) (((Rd.add1 F0 cm.a.toNat cm.a.toNat cm.w) (cm.b).toNat (cm.b).toNat)+cm.w))):List (List Int))=(Rd.mkI n n (Rd.add1 (Rd.add1 F0 cm.a.toNat cm.a.toNat cm.w) cm.b.toNat cm.b.toNat cm.w)):=by exact Rd.mkI_set om om
      rw [e49]
      refine zZ (OW:=[rowsM 3 (rI .i64) hs (Rd.mkI n n (Rd.add1 (Rd.add1 F0 cm.a.toNat cm.a.toNat cm.w) cm.b.toNat cm.b.toNat cm.w))]) (O:=[boxA b41 68 [ya yb (cm.a),ya yb (cm.b),ya yb (cm.d),ya yb (cm.w)],rowA 3 (rI .i64) (some ⟨b17,0,none⟩) n R0,rowA 42 rV (some ⟨b16,0,none⟩) n (oh hs n)]) 13 mixed (.then (.block (.then (.then (.block (.then .ret)))))) kr<|e_dm 0 rfl rfl rfl<|e_pv 1 rfl rfl (zh yc rfl sz3 rfl rfl)<|e_uw 2 rfl rfl (zg 1 ty3 rfl rfl rfl)<|e_pv 3 rfl rfl (zI (j:=(cm.a).toNat) yf sz42 rfl rfl om om)<|zdb 4 rfl rfl kr kr kr rfl rfl (zE (x0:=((rp hs ((cm.a).toNat)),n,(rc hs ((cm.a).toNat)))) (v:= .slice (rp hs ((cm.a).toNat)) n (rc hs ((cm.a).toNat))) 3 ((cm.a).toNat) rfl ty42 rfl rfl (oh_get ((mkI_sm n n (Rd.add1 (Rd.add1 F0 cm.a.toNat cm.a.toNat cm.w) cm.b.toNat cm.b.toNat cm.w) hlen2).hk om)) rfl) (fun _ hok50=> ?_)
      refine e_pv 5 rfl rfl (zh yc rfl sz3 rfl rfl)<|e_uw 6 rfl rfl (zg 1 ty3 rfl rfl rfl)<|e_uw 7 rfl rfl (zla 0 ((cm.a).toNat) ((cm.b).toNat) rfl ((mkI_sm n n (Rd.add1 (Rd.add1 F0 cm.a.toNat cm.a.toNat cm.w) cm.b.toNat cm.b.toNat cm.w) hlen2).hk om) ((mkI_sm n n (Rd.add1 (Rd.add1 F0 cm.a.toNat cm.a.toNat cm.w) cm.b.toNat cm.b.toNat cm.w) hlen2).mk' om) ((mkI_sm n n (Rd.add1 (Rd.add1 F0 cm.a.toNat cm.a.toNat cm.w) cm.b.toNat cm.b.toNat cm.w) hlen2).row om) yd sz3 rfl rfl om om)<|zdb 8 rfl rfl kr kr kr rfl rfl (zyb (x0:=(((Rd.mkI n n (Rd.add1 (Rd.add1 F0 cm.a.toNat cm.a.toNat cm.w) cm.b.toNat cm.b.toNat cm.w)).getD ((cm.a).toNat) []).getD ((cm.b).toNat) 0)) 0 ((cm.a).toNat) ((cm.b).toNat) rfl ((mkI_sm n n (Rd.add1 (Rd.add1 F0 cm.a.toNat cm.a.toNat cm.w) cm.b.toNat cm.b.toNat cm.w) hlen2).hk om) ((mkI_sm n n (Rd.add1 (Rd.add1 F0 cm.a.toNat cm.a.toNat cm.w) cm.b.toNat cm.b.toNat cm.w) hlen2).mk' om) ty3 rfl rfl (gD (d:=(0:Int)) (by rw [(mkI_sm n n (Rd.add1 (Rd.add1 F0 cm.a.toNat cm.a.toNat cm.w) cm.b.toNat cm.b.toNat cm.w) hlen2).row om];omega))) (fun _ hok51=> ?_)
      replace hok51:=zP.1 hok51
      have e52:((Rd.mkI n n (Rd.add1 (Rd.add1 F0 cm.a.toNat cm.a.toNat cm.w) cm.b.toNat cm.b.toNat cm.w)).getD ((cm.a).toNat) []).getD ((cm.b).toNat) 0=(Rd.add1 (Rd.add1 F0 cm.a.toNat cm.a.toNat cm.w) cm.b.toNat cm.b.toNat cm.w) (cm.a).toNat (cm.b).toNat:=by exact Rd.mkI_get om om
      rw [e52]
      refine e_pv 9 rfl rfl (zh yc rfl sz3 rfl rfl)<|e_uw 10 rfl rfl (zg 1 ty3 rfl rfl rfl)<|e_pv 11 rfl rfl (zja (z:=(((Rd.add1 (Rd.add1 F0 cm.a.toNat cm.a.toNat cm.w) cm.b.toNat cm.b.toNat cm.w) (cm.a).toNat (cm.b).toNat) - cm.w)) rfl rfl (w64 om))<|e_uw 12 rfl rfl (zla 0 ((cm.a).toNat) ((cm.b).toNat) rfl ((mkI_sm n n (Rd.add1 (Rd.add1 F0 cm.a.toNat cm.a.toNat cm.w) cm.b.toNat cm.b.toNat cm.w) hlen2).hk om) ((mkI_sm n n (Rd.add1 (Rd.add1 F0 cm.a.toNat cm.a.toNat cm.w) cm.b.toNat cm.b.toNat cm.w) hlen2).mk' om) ((mkI_sm n n (Rd.add1 (Rd.add1 F0 cm.a.toNat cm.a.toNat cm.w) cm.b.toNat cm.b.toNat cm.w) hlen2).row om) yd sz3 rfl rfl om om)<|e_one 13 (zob (A':=fun _=>rowsM 3 (rI .i64) hs ((Rd.mkI n n (Rd.add1 (Rd.add1 F0 cm.a.toNat cm.a.toNat cm.w) cm.b.toNat cm.b.toNat cm.w)).set ((cm.a).toNat) (((Rd.mkI n n (Rd.add1 (Rd.add1 F0 cm.a.toNat cm.a.toNat cm.w) cm.b.toNat cm.b.toNat cm.w)).getD ((cm.a).toNat) []).set ((cm.b).toNat) (((Rd.add1 (Rd.add1 F0 cm.a.toNat cm.a.toNat cm.w) cm.b.toNat cm.b.toNat cm.w) (cm.a).toNat (cm.b).toNat) - cm.w)))) kr rfl rfl rfl (zab (r:=rI .i64) (k:=((cm.a).toNat)) (j:=(cm.b).toNat) (x0:=(((Rd.add1 (Rd.add1 F0 cm.a.toNat cm.a.toNat cm.w) cm.b.toNat cm.b.toNat cm.w) (cm.a).toNat (cm.b).toNat) - cm.w)) (γ0:=()) ((mkI_sm n n (Rd.add1 (Rd.add1 F0 cm.a.toNat cm.a.toNat cm.w) cm.b.toNat cm.b.toNat cm.w) hlen2).hk om) ((mkI_sm n n (Rd.add1 (Rd.add1 F0 cm.a.toNat cm.a.toNat cm.w) cm.b.toNat cm.b.toNat cm.w) hlen2).mk' om) rfl rfl (by rw [(mkI_sm n n (Rd.add1 (Rd.add1 F0 cm.a.toNat cm.a.toNat cm.w) cm.b.toNat cm.b.toNat cm.w) hlen2).row om];omega) rfl rfl sz3 (fun _ _=>by exact zP.2 om)) (fun _ _=> ?_))
      refine zX kr<|zc<|ze ?_
      have e53:(((Rd.mkI n n (Rd.add1 (Rd.add1 F0 cm.a.toNat cm.a.toNat cm.w) cm.b.toNat cm.b.toNat cm.w)).set ((cm.a).toNat) (((Rd.mkI n n (Rd.add1 (Rd.add1 F0 cm.a.toNat cm.a.toNat cm.w) cm.b.toNat cm.b.toNat cm.w)).getD ((cm.a).toNat) []).set ((cm.b).toNat) (((Rd.add1 (Rd.add1 F0 cm.a.toNat cm.a.toNat cm.w) cm.b.toNat cm.b.toNat cm.w) (cm.a).toNat (cm.b).toNat) - cm.w))):List (List Int))=(Rd.mkI n n (Rd.add1 (Rd.add1 (Rd.add1 F0 cm.a.toNat cm.a.toNat cm.w) cm.b.toNat cm.b.toNat cm.w) cm.a.toNat cm.b.toNat (-cm.w))):=by exact Rd.mkI_sub om om
      rw [e53]
      refine zZ (OW:=[rowsM 3 (rI .i64) hs (Rd.mkI n n (Rd.add1 (Rd.add1 (Rd.add1 F0 cm.a.toNat cm.a.toNat cm.w) cm.b.toNat cm.b.toNat cm.w) cm.a.toNat cm.b.toNat (-cm.w)))]) (O:=[boxA b41 68 [ya yb (cm.a),ya yb (cm.b),ya yb (cm.d),ya yb (cm.w)],rowA 3 (rI .i64) (some ⟨b17,0,none⟩) n R0,rowA 42 rV (some ⟨b16,0,none⟩) n (oh hs n)]) 13 mixed (.then (.block (.then (.then (.block (.then .ret)))))) kr<|e_dm 0 rfl rfl rfl<|e_pv 1 rfl rfl (zh yc rfl sz3 rfl rfl)<|e_uw 2 rfl rfl (zg 1 ty3 rfl rfl rfl)<|e_pv 3 rfl rfl (zI (j:=(cm.b).toNat) yf sz42 rfl rfl om om)<|zdb 4 rfl rfl kr kr kr rfl rfl (zE (x0:=((rp hs ((cm.b).toNat)),n,(rc hs ((cm.b).toNat)))) (v:= .slice (rp hs ((cm.b).toNat)) n (rc hs ((cm.b).toNat))) 3 ((cm.b).toNat) rfl ty42 rfl rfl (oh_get ((mkI_sm n n (Rd.add1 (Rd.add1 (Rd.add1 F0 cm.a.toNat cm.a.toNat cm.w) cm.b.toNat cm.b.toNat cm.w) cm.a.toNat cm.b.toNat (-cm.w)) hlen2).hk om)) rfl) (fun _ hok54=> ?_)
      refine e_pv 5 rfl rfl (zh yc rfl sz3 rfl rfl)<|e_uw 6 rfl rfl (zg 1 ty3 rfl rfl rfl)<|e_uw 7 rfl rfl (zla 0 ((cm.b).toNat) ((cm.a).toNat) rfl ((mkI_sm n n (Rd.add1 (Rd.add1 (Rd.add1 F0 cm.a.toNat cm.a.toNat cm.w) cm.b.toNat cm.b.toNat cm.w) cm.a.toNat cm.b.toNat (-cm.w)) hlen2).hk om) ((mkI_sm n n (Rd.add1 (Rd.add1 (Rd.add1 F0 cm.a.toNat cm.a.toNat cm.w) cm.b.toNat cm.b.toNat cm.w) cm.a.toNat cm.b.toNat (-cm.w)) hlen2).mk' om) ((mkI_sm n n (Rd.add1 (Rd.add1 (Rd.add1 F0 cm.a.toNat cm.a.toNat cm.w) cm.b.toNat cm.b.toNat cm.w) cm.a.toNat cm.b.toNat (-cm.w)) hlen2).row om) yd sz3 rfl rfl om om)<|zdb 8 rfl rfl kr kr kr rfl rfl (zyb (x0:=(((Rd.mkI n n (Rd.add1 (Rd.add1 (Rd.add1 F0 cm.a.toNat cm.a.toNat cm.w) cm.b.toNat cm.b.toNat cm.w) cm.a.toNat cm.b.toNat (-cm.w))).getD ((cm.b).toNat) []).getD ((cm.a).toNat) 0)) 0 ((cm.b).toNat) ((cm.a).toNat) rfl ((mkI_sm n n (Rd.add1 (Rd.add1 (Rd.add1 F0 cm.a.toNat cm.a.toNat cm.w) cm.b.toNat cm.b.toNat cm.w) cm.a.toNat cm.b.toNat (-cm.w)) hlen2).hk om) ((mkI_sm n n (Rd.add1 (Rd.add1 (Rd.add1 F0 cm.a.toNat cm.a.toNat cm.w) cm.b.toNat cm.b.toNat cm.w) cm.a.toNat cm.b.toNat (-cm.w)) hlen2).mk' om) ty3 rfl rfl (gD (d:=(0:Int)) (by rw [(mkI_sm n n (Rd.add1 (Rd.add1 (Rd.add1 F0 cm.a.toNat cm.a.toNat cm.w) cm.b.toNat cm.b.toNat cm.w) cm.a.toNat cm.b.toNat (-cm.w)) hlen2).row om];omega))) (fun _ hok55=> ?_)
      replace hok55:=zP.1 hok55
      have e56:((Rd.mkI n n (Rd.add1 (Rd.add1 (Rd.add1 F0 cm.a.toNat cm.a.toNat cm.w) cm.b.toNat cm.b.toNat cm.w) cm.a.toNat cm.b.toNat (-cm.w))).getD ((cm.b).toNat) []).getD ((cm.a).toNat) 0=(Rd.add1 (Rd.add1 (Rd.add1 F0 cm.a.toNat cm.a.toNat cm.w) cm.b.toNat cm.b.toNat cm.w) cm.a.toNat cm.b.toNat (-cm.w)) (cm.b).toNat (cm.a).toNat:=by exact Rd.mkI_get om om
      rw [e56]
      refine e_pv 9 rfl rfl (zh yc rfl sz3 rfl rfl)<|e_uw 10 rfl rfl (zg 1 ty3 rfl rfl rfl)<|e_pv 11 rfl rfl (zja (z:=(((Rd.add1 (Rd.add1 (Rd.add1 F0 cm.a.toNat cm.a.toNat cm.w) cm.b.toNat cm.b.toNat cm.w) cm.a.toNat cm.b.toNat (-cm.w)) (cm.b).toNat (cm.a).toNat) - cm.w)) rfl rfl (w64 om))<|e_uw 12 rfl rfl (zla 0 ((cm.b).toNat) ((cm.a).toNat) rfl ((mkI_sm n n (Rd.add1 (Rd.add1 (Rd.add1 F0 cm.a.toNat cm.a.toNat cm.w) cm.b.toNat cm.b.toNat cm.w) cm.a.toNat cm.b.toNat (-cm.w)) hlen2).hk om) ((mkI_sm n n (Rd.add1 (Rd.add1 (Rd.add1 F0 cm.a.toNat cm.a.toNat cm.w) cm.b.toNat cm.b.toNat cm.w) cm.a.toNat cm.b.toNat (-cm.w)) hlen2).mk' om) ((mkI_sm n n (Rd.add1 (Rd.add1 (Rd.add1 F0 cm.a.toNat cm.a.toNat cm.w) cm.b.toNat cm.b.toNat cm.w) cm.a.toNat cm.b.toNat (-cm.w)) hlen2).row om) yd sz3 rfl rfl om om)<|e_one 13 (zob (A':=fun _=>rowsM 3 (rI .i64) hs ((Rd.mkI n n (Rd.add1 (Rd.add1 (Rd.add1 F0 cm.a.toNat cm.a.toNat cm.w) cm.b.toNat cm.b.toNat cm.w) cm.a.toNat cm.b.toNat (-cm.w))).set ((cm.b).toNat) (((Rd.mkI n n (Rd.add1 (Rd.add1 (Rd.add1 F0 cm.a.toNat cm.a.toNat cm.w) cm.b.toNat cm.b.toNat cm.w) cm.a.toNat cm.b.toNat (-cm.w))).getD ((cm.b).toNat) []).set ((cm.a).toNat) (((Rd.add1 (Rd.add1 (Rd.add1 F0 cm.a.toNat cm.a.toNat cm.w) cm.b.toNat cm.b.toNat cm.w) cm.a.toNat cm.b.toNat (-cm.w)) (cm.b).toNat (cm.a).toNat) - cm.w)))) kr rfl rfl rfl (zab (r:=rI .i64) (k:=((cm.b).toNat)) (j:=(cm.a).toNat) (x0:=(((Rd.add1 (Rd.add1 (Rd.add1 F0 cm.a.toNat cm.a.toNat cm.w) cm.b.toNat cm.b.toNat cm.w) cm.a.toNat cm.b.toNat (-cm.w)) (cm.b).toNat (cm.a).toNat) - cm.w)) (γ0:=()) ((mkI_sm n n (Rd.add1 (Rd.add1 (Rd.add1 F0 cm.a.toNat cm.a.toNat cm.w) cm.b.toNat cm.b.toNat cm.w) cm.a.toNat cm.b.toNat (-cm.w)) hlen2).hk om) ((mkI_sm n n (Rd.add1 (Rd.add1 (Rd.add1 F0 cm.a.toNat cm.a.toNat cm.w) cm.b.toNat cm.b.toNat cm.w) cm.a.toNat cm.b.toNat (-cm.w)) hlen2).mk' om) rfl rfl (by rw [(mkI_sm n n (Rd.add1 (Rd.add1 (Rd.add1 F0 cm.a.toNat cm.a.toNat cm.w) cm.b.toNat cm.b.toNat cm.w) cm.a.toNat cm.b.toNat (-cm.w)) hlen2).row om];omega) rfl rfl sz3 (fun _ _=>by exact zP.2 om)) (fun _ _=> ?_))
      refine zX kr<|zc<|ze ?_
      have e57:(((Rd.mkI n n (Rd.add1 (Rd.add1 (Rd.add1 F0 cm.a.toNat cm.a.toNat cm.w) cm.b.toNat cm.b.toNat cm.w) cm.a.toNat cm.b.toNat (-cm.w))).set ((cm.b).toNat) (((Rd.mkI n n (Rd.add1 (Rd.add1 (Rd.add1 F0 cm.a.toNat cm.a.toNat cm.w) cm.b.toNat cm.b.toNat cm.w) cm.a.toNat cm.b.toNat (-cm.w))).getD ((cm.b).toNat) []).set ((cm.a).toNat) (((Rd.add1 (Rd.add1 (Rd.add1 F0 cm.a.toNat cm.a.toNat cm.w) cm.b.toNat cm.b.toNat cm.w) cm.a.toNat cm.b.toNat (-cm.w)) (cm.b).toNat (cm.a).toNat) - cm.w))):List (List Int))=(Rd.mkI n n (Rd.add1 (Rd.add1 (Rd.add1 (Rd.add1 F0 cm.a.toNat cm.a.toNat cm.w) cm.b.toNat cm.b.toNat cm.w) cm.a.toNat cm.b.toNat (-cm.w)) cm.b.toNat cm.a.toNat (-cm.w))):=by exact Rd.mkI_sub om om
      rw [e57]
      refine zma (.c (i:=2) rfl (.c (i:=0) rfl (.c (i:=0) rfl (.c (i:=0) rfl .n))))<|zZ (OW:=[rowA 3 (rI .i64) (some ⟨b17,0,none⟩) n R0]) (O:=[rowsM 3 (rI .i64) hs (Rd.mkI n n (Rd.add1 (Rd.add1 (Rd.add1 (Rd.add1 F0 cm.a.toNat cm.a.toNat cm.w) cm.b.toNat cm.b.toNat cm.w) cm.a.toNat cm.b.toNat (-cm.w)) cm.b.toNat cm.a.toNat (-cm.w))),boxA b41 68 [ya yb (cm.a),ya yb (cm.b),ya yb (cm.d),ya yb (cm.w)],rowA 42 rV (some ⟨b16,0,none⟩) n (oh hs n)]) 12 mixed (.then (.block (.then (.then (.block (.then .ret)))))) kr<|e_dm 0 rfl rfl rfl<|e_pv 1 rfl rfl (zh yc rfl sz3 rfl rfl)<|e_uw 2 rfl rfl (zg 2 ty3 rfl rfl rfl)<|e_pv 3 rfl rfl (zI (j:=(cm.a).toNat) yd sz3 rfl rfl om om)<|zdb 4 rfl rfl kr kr kr rfl rfl (zE 0 ((cm.a).toNat) rfl ty3 rfl rfl (gD (d:=0) om) rfl) (fun _ hok58=> ?_)
      replace hok58:=zP.1 hok58
      refine e_pv 5 rfl rfl (zh yc rfl sz3 rfl rfl)<|e_uw 6 rfl rfl (zg 2 ty3 rfl rfl rfl)<|e_pv 7 rfl rfl (zh yc rfl sz3 rfl rfl)<|e_uw 8 rfl rfl (zg 2 ty3 rfl rfl rfl)<|e_pv 9 rfl rfl (zwa (z:=(cm.w*cm.d)) rfl rfl (w64 om))<|e_pv 10 rfl rfl (zH (z:=((R0.getD ((cm.a).toNat) 0)+(cm.w*cm.d))) rfl rfl (w64 om))<|e_pv 11 rfl rfl (zI (j:=(cm.a).toNat) yd sz3 rfl rfl om om)<|e_one 12 (zob (A':=fun _=>rowA 3 (rI .i64) (some ⟨b17,0,none⟩) n (R0.set ((cm.a).toNat) ((R0.getD ((cm.a).toNat) 0)+(cm.w*cm.d)))) kr rfl rfl rfl (zL (j:=(cm.a).toNat) (x0:=((R0.getD ((cm.a).toNat) 0)+(cm.w*cm.d))) (γ0:=()) rfl rfl (by first|omega|(rw [Rd.fz_len];omega)|(rw [Mx.oz_len om];omega)|(rw [Rd.RK_len];omega)|(rw [List.length_set,Rd.RK_len];omega)) rfl rfl sz3 (fun _ _=>by exact zP.2 om)) (fun _ _=> ?_))
      refine zX kr<|zc<|zZ (OW:=[rowA 3 (rI .i64) (some ⟨b17,0,none⟩) n (R0.set ((cm.a).toNat) ((R0.getD ((cm.a).toNat) 0)+(cm.w*cm.d)))]) (O:=[rowsM 3 (rI .i64) hs (Rd.mkI n n (Rd.add1 (Rd.add1 (Rd.add1 (Rd.add1 F0 cm.a.toNat cm.a.toNat cm.w) cm.b.toNat cm.b.toNat cm.w) cm.a.toNat cm.b.toNat (-cm.w)) cm.b.toNat cm.a.toNat (-cm.w))),boxA b41 68 [ya yb (cm.a),ya yb (cm.b),ya yb (cm.d),ya yb (cm.w)],rowA 42 rV (some ⟨b16,0,none⟩) n (oh hs n)]) 12 mixed (.block (.then (.then (.block (.then .ret))))) kr<|e_dm 0 rfl rfl rfl<|e_pv 1 rfl rfl (zh yc rfl sz3 rfl rfl)<|e_uw 2 rfl rfl (zg 2 ty3 rfl rfl rfl)<|e_pv 3 rfl rfl (zI (j:=(cm.b).toNat) yd sz3 rfl rfl om om)<|zdb 4 rfl rfl kr kr kr rfl rfl (zE 0 ((cm.b).toNat) rfl ty3 rfl rfl (gD (d:=0) om) rfl) (fun _ hok59=> ?_)
      replace hok59:=zP.1 hok59
      refine e_pv 5 rfl rfl (zh yc rfl sz3 rfl rfl)<|e_uw 6 rfl rfl (zg 2 ty3 rfl rfl rfl)<|e_pv 7 rfl rfl (zh yc rfl sz3 rfl rfl)<|e_uw 8 rfl rfl (zg 2 ty3 rfl rfl rfl)<|e_pv 9 rfl rfl (zwa (z:=(cm.w*cm.d)) rfl rfl (w64 om))<|e_pv 10 rfl rfl (zja (z:=(((R0.set ((cm.a).toNat) ((R0.getD ((cm.a).toNat) 0)+(cm.w*cm.d))).getD ((cm.b).toNat) 0) - (cm.w*cm.d))) rfl rfl (w64 om))<|e_pv 11 rfl rfl (zI (j:=(cm.b).toNat) yd sz3 rfl rfl om om)<|e_one 12 (zob (A':=fun _=>rowA 3 (rI .i64) (some ⟨b17,0,none⟩) n ((R0.set ((cm.a).toNat) ((R0.getD ((cm.a).toNat) 0)+(cm.w*cm.d))).set ((cm.b).toNat) (((R0.set ((cm.a).toNat) ((R0.getD ((cm.a).toNat) 0)+(cm.w*cm.d))).getD ((cm.b).toNat) 0) - (cm.w*cm.d)))) kr rfl rfl rfl (zL (j:=(cm.b).toNat) (x0:=(((R0.set ((cm.a).toNat) ((R0.getD ((cm.a).toNat) 0)+(cm.w*cm.d))).getD ((cm.b).toNat) 0) - (cm.w*cm.d))) (γ0:=()) rfl rfl (by first|omega|(rw [Rd.fz_len];omega)|(rw [Mx.oz_len om];omega)|(rw [Rd.RK_len];omega)|(rw [List.length_set,Rd.RK_len];omega)) rfl rfl sz3 (fun _ _=>by exact zP.2 om)) (fun _ _=> ?_))
      refine zX kr<|zM<|zc<|za<|e_p (zH (z:=(((i+1):Nat):Int)) rfl rfl (w64 om))<|e_mv rfl<|zf ?_
      have e60:((Rd.mkI n n (Rd.add1 (Rd.add1 (Rd.add1 (Rd.add1 F0 cm.a.toNat cm.a.toNat cm.w) cm.b.toNat cm.b.toNat cm.w) cm.a.toNat cm.b.toNat (-cm.w)) cm.b.toNat cm.a.toNat (-cm.w))):List (List Int))=(Rd.mkI n n (Rd.FK (Rd.prt n L) (L.take (i+1)))):=by rw [Rd.FK_take (show i<L.length by omega),←hF0,←hcm];rfl
      rw [e60]
      have e61:(((R0.set ((cm.a).toNat) ((R0.getD ((cm.a).toNat) 0)+(cm.w*cm.d))).set ((cm.b).toNat) (((R0.set ((cm.a).toNat) ((R0.getD ((cm.a).toNat) 0)+(cm.w*cm.d))).getD ((cm.b).toNat) 0) - (cm.w*cm.d))):List Int)=(Rd.RK n (L.take (i+1))):=by rw [Rd.RK_take (show i<L.length by omega),←hR0,←hcm];rfl
      rw [e61]
      refine zaa (i+1) (show (i+1)≤nL from by show i+1≤nL;omega) (by show nL - (i+1)<nL - i;omega) ((.of rfl):SubM _ _) (ho:=((.of [1,0,1] rfl):PickO _ _ _)) ((.of [1,2] rfl):SelR _ _ _)
     ·
      refine zda<|zi<|zi<|zr<|zc<|ze ?_
      have hLt:L.take i=L:=List.take_of_length_le om
      have e62:((Rd.mkI n n (Rd.FK (Rd.prt n L) (L.take i))):List (List Int))=(Rd.mkI n n (Rd.FK (Rd.prt n L) L)):=by rw [hLt]
      rw [e62]
      have e63:((Rd.RK n (L.take i)):List Int)=(Rd.RK n L):=by rw [hLt]
      rw [e63]
      refine zxd (fun w mm=>mm.rmFreeze 2 0 rfl rfl ((mkI_sm n n (Rd.FK (Rd.prt n L) L) hlen2).hl) ((mkI_sm n n (Rd.FK (Rd.prt n L) L) hlen2).rl)) ?_
      try dsimp only [List.set]
      refine za<|e_mv rfl<|zu rfl rfl (.c rfl .n) ce68 (zyg (pL:=some ⟨b16,0,none⟩) (nL:=n) (cL:=n) (LL:=(Rd.mkI n n (Rd.FK (Rd.prt n L) L))) (N:=n) (hnL:=by first|rfl|assumption|omega|exact Rd.mkI_len _ _ _|(rw [Rd.mkI_rl om];done)|(intro i hi;rw [Rd.mkI_rl hi,Rd.mkI_rl om];done)) (hL1:=by first|rfl|assumption|omega|exact Rd.mkI_len _ _ _|(rw [Rd.mkI_rl om];done)|(intro i hi;rw [Rd.mkI_rl hi,Rd.mkI_rl om];done)) (hU:=by first|rfl|assumption|omega|exact Rd.mkI_len _ _ _|(rw [Rd.mkI_rl om];done)|(intro i hi;rw [Rd.mkI_rl hi,Rd.mkI_rl om];done)) (hK:=by first|rfl|assumption|omega|exact Rd.mkI_len _ _ _|(rw [Rd.mkI_rl om];done)|(intro i hi;rw [Rd.mkI_rl hi,Rd.mkI_rl om];done)) (hL0:=by first|rfl|assumption|omega|exact Rd.mkI_len _ _ _|(rw [Rd.mkI_rl om];done)|(intro i hi;rw [Rd.mkI_rl hi,Rd.mkI_rl om];done)) (hN:=by first|rfl|assumption|omega|exact Rd.mkI_len _ _ _|(rw [Rd.mkI_rl om];done)|(intro i hi;rw [Rd.mkI_rl hi,Rd.mkI_rl om];done))) (.c (j:=0) rfl .n) ?_
      rintro ⟨p364,c365⟩ -
      dsimp only [aq,nq,cq]
      refine e_mv rfl<|e_p (zq rfl rfl)<|e_p (zq rfl rfl)<|e_p (zb rfl)<|e_p (zb rfl)<|zf<|zc<|ze<|za<|e_p (zb rfl)<|zf<|zc<|ze<|ze ?_
      have e66:((Mx.mk n n (fun ii jj=>Mx.eI (Rd.mkI n n (Rd.FK (Rd.prt n L) L)) ii jj)):List (List Rat))=(Rd.A0 n L):=by rfl
      rw [e66]
      refine zuc 28 rQ ?_
      have hrl:=Rd.RK_len n L
      refine za<|e_mv rfl<|e_p (zD yd rfl)<|e_mv rfl<|zf<|zc<|zt<|zea (X:=Nat×(Option Addr)×Nat) (fun x:Nat×(Option Addr)×Nat=>x.1≤n) (fun x=>[(17,.slice (x.2.1) (x.1) (x.2.2)),(214,ya yb ((x.1:Nat):Int)),(213,ya yb ((n:Nat):Int)),(212,.slice (some ⟨b17,0,none⟩) n n),(15,.slice p364 n c365)]) (fun x=>[rowA 28 rQ (x.2.1) (x.2.2) ((Rd.rr n L).take x.1),rowA 3 (rI .i64) (some ⟨b17,0,none⟩) n (Rd.RK n L)]) (fun x=>[slF (rS rQ) p364 c365 (Rd.A0 n L),slF (rS (rI .i64)) (some ⟨b16,0,none⟩) n (Rd.mkI n n (Rd.FK (Rd.prt n L) L)),slF (rI .i64) p319 c320 (Rd.prt n L),slF (rI4 .i64) pL cL L]) (fun x:Nat×(Option Addr)×Nat=>n - x.1) (0,none,0) (show 0≤n from by exact Nat.zero_le _) ((.c rfl (.e rfl (by first|rfl|(congr 1;omega)|simp_all) (.of rfl))):SubM _ _) (ho:=((.e (i:=0) rfl (by first|rfl|(congr 1;omega)|simp_all) (.c (i:=1) rfl .n)):PickO _ _ _)) ((.of [0,1,2,3] rfl):SelR _ _ _) ?_
      rintro ⟨i,pB,cB⟩ hI5
      replace hI5:i≤n:=hI5
      try dsimp only
      have htl:((Rd.rr n L).take i).length=i:=by rw [List.length_take,Rd.rr_len];omega
      refine ze<|za<|e_p (zT rfl rfl)<|zf<|zc<|ze<|zB rfl (fun h67=> ?_) (fun h67=> ?_)
      ·
       refine zv<|zc<|ze<|zt<|ze<|za<|e_p (zI (j:=i) yd sz3 rfl rfl rfl om)<|r_vl rfl rfl (zE 1 i rfl ty3 rfl rfl (gD (d:=0) om) rfl) (fun _ hok68=> ?_)
       replace hok68:=zP.1 hok68
       refine e_p (zb rfl)<|zf<|zc<|za<|e_mv rfl<|e_mv rfl<|zu rfl rfl (.c rfl .n) ce56 (zQa (z:=((Rd.RK n L).getD i 0)) (hz:=by first|rfl|assumption|omega|exact Rd.mkI_len _ _ _|(rw [Rd.mkI_rl om];done)|(intro i hi;rw [Rd.mkI_rl hi,Rd.mkI_rl om];done))) (.n) ?_
       rintro ⟨w369,w470⟩ -
       dsimp only [aq,nq,cq]
       refine zra rfl rfl (zYa (r:=rQ) (k:=1) yg inf28 rfl dd dd dd (.c (x:=((((Rd.RK n L).getD i 0):Int):Rat)) (cs:=[w369.b,w369.l,w470.b,w470.l]) (w369,w470) rfl rfl rfl (fun g hr=>Holds.get 0 rfl hr) .n)) (fun b71 _=> ?_)
       refine zga 0 rfl .z<|zza 1 rfl rfl rfl (zsa 0 rfl yg inf28 dd rfl rfl (by first|rfl|assumption|omega|exact Rd.fz_len _ _ _|exact Rd.RK_len _ _|exact Rd.prt_len _ _|(rw [Mx.oz_len om];done)|(rw [Mx.oz_len (by rw [List.length_append];simp;omega)];done)|(rw [oh_len];assumption)|(simp;done)) rfl (by first|rfl|assumption|omega|exact Rd.fz_len _ _ _|exact Rd.RK_len _ _|exact Rd.prt_len _ _|(rw [Mx.oz_len om];done)|(rw [Mx.oz_len (by rw [List.length_append];simp;omega)];done)|(rw [oh_len];assumption)|(simp;done)) om om) (fun _=>(.s .z)) ?_
       rintro ⟨p72,c73⟩ -
       dsimp only [aq,nq,cq]
       refine e_p (zb rfl)<|zf<|zM<|zc<|za<|e_p (zH (z:=(((i+1):Nat):Int)) rfl rfl (w64 om))<|e_mv rfl<|zf<|zaa ((i+1),p72,c73) (show (i+1)≤n from by show i+1≤n;omega) (by show n - (i+1)<n - i;omega) ((.e rfl (by first|rfl|(congr 1;omega)|simp_all) (.of rfl)):SubM _ _) (ho:=((.e (i:=1) rfl (by first|rfl|(rw [Rd.rr_take om])) (.c (i:=1) rfl .n)):PickO _ _ _)) ((.of [2,3,4,5] rfl):SelR _ _ _)
      ·
       refine zda<|zi<|zi<|zr<|zc<|ze ?_
       have e74:(((Rd.rr n L).take i):List Rat)=(Rd.rr n L):=by exact List.take_of_length_le (by rw [Rd.rr_len];omega)
       rw [e74]
       have e75:(.slice pB i cB:Value)= .slice pB n cB:=by congr 1;omega
       rw [e75]
       refine za<|e_mv rfl<|e_mv rfl<|zga 0 rfl .z<|zu rfl rfl (.c rfl (.c rfl .n)) ce69 (zPe (pA:=p364) (nA:=n) (cA:=c365) (A:=(Rd.A0 n L)) (p:=pB) (cap:=cB) (l:=(Rd.rr n L)) (n9:=n) (b:=3) (hnM:=by exact Mx.mk_len _ _ _) (hM1:=by first|rfl|assumption|omega|exact Rd.mkI_len _ _ _|(rw [Rd.mkI_rl om];done)|(intro i hi;rw [Rd.mkI_rl hi,Rd.mkI_rl om];done)) (hAr:=by exact Mx.mk_rl _ _ _) (hN:=by first|rfl|assumption|omega|exact Rd.mkI_len _ _ _|(rw [Rd.mkI_rl om];done)|(intro i hi;rw [Rd.mkI_rl hi,Rd.mkI_rl om];done)) (hn:=by exact Rd.rr_len _ _) (hb1:=by first|rfl|assumption|omega|exact Rd.mkI_len _ _ _|(rw [Rd.mkI_rl om];done)|(intro i hi;rw [Rd.mkI_rl hi,Rd.mkI_rl om];done)) (hbA:=by exact Rd.A0_hq hok om) (hbl:=by exact Rd.rr_hq hok om) (hH:=by exact Rd.H6 om) (hcons:=by exact Rd.cons hok)) (.c (j:=1) rfl (.c (j:=0) rfl .n)) ?_
       rintro ⟨p376,c377,sol⟩ hsol
       dsimp only [aq,nq,cq]
       replace hsol:sol.length=n∧(∀i,i<n→Mx.sm n (fun c=>Mx.e (Rd.A0 n L) i c*sol.getD c 0)=(Rd.rr n L).getD i 0)∧(∀c,Big.hq (sol.getD c 0)≤Mx.H 3 n):=hsol
       refine e_p (zq rfl rfl)<|e_p (zq rfl rfl)<|e_p (zb rfl)<|e_p (zb rfl)<|zf<|zc<|zJ ?_
       exact zqa yj (p376,c377,sol) (⟨fun _=>⟨hsol.1,Rd.lv_of hok om hsol.2.1,fun c=>Nat.le_trans (hsol.2.2 c) (Rd.H6 om)⟩,fun k=>absurd hof k⟩) (zo rfl) (zo rfl) (by rw [hof,hsol.1]) (ho:=(.n:PickO _ _ _)) ((.c (j:=0) rfl .n):SelR _ _ _)
end Go.Proofs.YtkohlohbogpooaaGreat.Sp
namespace Go.Proofs.YtkohlohbogpooaaGreat.Rd
set_option linter.unusedVariables false
def q0:Option Rat:=some (Rat.divInt 0 1)
theorem kn_co:(if Bl.rok 3 1 100 [5,5,5] then ckC (some (Rat.divInt 1 8)) (some (Rat.divInt 0 1)) 32 32 3 1 else 1)=0:=by decide +kernel
theorem kn_out:out [5,5,5] (cor ((some (Rat.divInt 1 8)).getD 0) ((some (Rat.divInt 0 1)).getD 0) 32 32 (3:Int).toNat 100 [5,5,5])=[5,6,8]:=by decide +kernel
theorem kn_off {sol:List Rat} (hl:sol.length=(2:Int).toNat) (h:Lv (2:Int).toNat [⟨0,1,6,1⟩] (fun c=>sol.getD c 0)):sol=[Rat.divInt 3 1,Rat.divInt (-3) 1]:=by
  have h1:=h.t 0
  have h2:=h.g 0 (by decide)
  have e1:T 2 (prt 2 [⟨0,1,6,1⟩]) (fun c=>sol.getD c 0) 0=sol.getD 0 0+sol.getD 1 0:=by
    have hp:prt 2 [⟨0,1,6,1⟩]=[0,0]:=by decide +kernel
    rw [hp];unfold T
    rw [Mx.sm_succ,Mx.sm_succ,if_pos (by decide),if_pos (by decide)]
    show (0:Rat)+sol.getD 0 0+sol.getD 1 0=_;grind
  have e2:S (fun c=>(c.w:Rat)*(xa (fun c=>sol.getD c 0) c.b - xa (fun c=>sol.getD c 0) c.a+(c.d:Rat))*(dl 0 c.b - dl 0 c.a)) [⟨0,1,6,1⟩]= - (sol.getD 1 0 - sol.getD 0 0+6):=by
    unfold S S xa dl
    have a:((1:Int):Rat)=1:=rfl
    have b:((6:Int):Rat)=6:=rfl
    show ((1:Int):Rat)*(sol.getD 1 0 - sol.getD 0 0+((6:Int):Rat))*((if (0:Nat)=1 then (1:Rat) else 0) - (if (0:Nat)=0 then (1:Rat) else 0))+0=_
    rw [a,b,if_neg (by decide),if_pos rfl];grind
  have h1':T 2 (prt 2 [⟨0,1,6,1⟩]) (fun c=>sol.getD c 0) 0=0:=h1
  rw [e1] at h1'
  rw [e2] at h2
  have a3:Rat.divInt 3 1=3:=by decide +kernel
  have a4:Rat.divInt (-3) 1= -3:=by decide +kernel
  refine Mx.ext_getD 0 (by rw [hl];rfl) fun c hc=> ?_
  rw [hl] at hc
  have hc':c<2:=hc
  rcases (show c=0∨c=1 by omega) with e|e
  · subst e;show sol.getD 0 0=Rat.divInt 3 1;rw [a3];grind
  · subst e;show sol.getD 1 0=Rat.divInt (-3) 1;rw [a4];grind
theorem kn_tab:Tb [2,0,2] [1,1,2] [1,1,2]:=⟨rfl,fun i hi=>by
  have hi':i<3:=hi
  rcases (show i=0∨i=1∨i=2 by omega) with e|e|e
  · subst e;exact ⟨1,rfl,⟨by decide,by decide,by decide⟩⟩
  · subst e;exact ⟨1,rfl,⟨by decide,by decide,by decide⟩⟩
  · subst e;exact ⟨2,rfl,⟨by decide,by decide,by decide⟩⟩⟩
theorem kn_fd:((3:Nat):Int)*sI (fun jj=>lg [0,1,2] jj*lg [0,1,2] jj) 3≠sI (lg [0,1,2]) 3*sI (lg [0,1,2]) 3:=by decide
theorem kn_a:∀i,i<3→0≤lg [0,1,2] i∧lg [0,1,2] i≤65535:=by decide
theorem kn_b:∀i,i<3→0≤lg [1,3,5] i∧lg [1,3,5] i≤65535:=by decide
theorem kn_f1:Rat.divInt (((3:Nat):Int)*sI (fun jj=>lg [0,1,2] jj*lg [1,3,5] jj) 3 - sI (lg [0,1,2]) 3*sI (lg [1,3,5]) 3) (((3:Nat):Int)*sI (fun jj=>lg [0,1,2] jj*lg [0,1,2] jj) 3 - sI (lg [0,1,2]) 3*sI (lg [0,1,2]) 3)=Rat.divInt 2 1:=by decide +kernel
theorem kn_f2:Rat.divInt (sI (lg [1,3,5]) 3) ((3:Nat):Int) - Rat.divInt 2 1*Rat.divInt (sI (lg [0,1,2]) 3) ((3:Nat):Int)=Rat.divInt 1 1:=by decide +kernel
end Go.Proofs.YtkohlohbogpooaaGreat.Rd
namespace Go.Proofs.YtkohlohbogpooaaGreat.Sp
open Go
theorem addQe {R:List Fa} {u v:Wd} {q:Rat} (i:Nat) (hi:R[i]? =some (qF true u v q)):∀g,Holds g R→Holds g (eF u v (some q) :: R):=fun g h=>⟨qF_e (Holds.get i hi h),h⟩
section
variable {P : Program} {n : Sz} {m : Fm} {O : List As} {R : List Fa} {d : Option Tmp} {ty : TypeId} {ps : String} {af : Array Edge} {gd : Option (Nat × Bool)}
end
end Go.Proofs.YtkohlohbogpooaaGreat.Sp
namespace Go.Proofs.YtkohlohbogpooaaGreat.Sp
open Go
set_option linter.unusedVariables false
set_option maxRecDepth 100000
set_option maxHeartbeats 8000000
theorem zIf:Con Tryz.prog 10 [] [] [] (Y:=Unit) (fun y=>True) (fun y=> .bool true) (fun y=>[]) (fun y=>[]):=by
 refine zl Tryz.func10 rfl rfl rfl (fun c=> ?_)
 show RunC _ _ _ _ _ [] [] []
 refine ze<|za<|e_p (zb rfl)<|zf<|zc<|ze<|za<|e_p (zN zr23 rfl Tryz.underlying23 (.c sz3 (.c sz3 .n)) (.c rfl (.c rfl .n)) (.c rfl rfl rfl (.take .nil) (.c rfl rfl rfl (.skip (.take .nil)) .n)))<|zu rfl rfl (.c rfl (.c rfl .n)) ce25 (zHb (z1:=1) (z2:=8) (hz1:=by first|rfl|decide|omega|(decide +kernel)) (hz2:=by first|rfl|decide|omega|(decide +kernel)) (hy:=by first|rfl|decide|omega|(decide +kernel))) (.n) ?_
 rintro ⟨w31,w42⟩ -
 dsimp only [aq,nq,cq]
 refine zu rfl rfl (.c rfl (.c rfl .n)) ce25 (zHb (z1:=0) (z2:=1) (hz1:=by first|rfl|decide|omega|(decide +kernel)) (hz2:=by first|rfl|decide|omega|(decide +kernel)) (hy:=by first|rfl|decide|omega|(decide +kernel))) (.n) ?_
 rintro ⟨w33,w44⟩ -
 dsimp only [aq,nq,cq]
 refine e_p (zN zr30 rfl Tryz.underlying30 (.c sz23 (.c sz28 (.c sz28 .n))) (.c rfl (.c rfl (.c rfl .n))) (.c rfl rfl rfl (.t2 .nil) (.c rfl rfl rfl (.s2 (.t4 .nil)) (.c rfl rfl rfl (.s4 (.s2 (.t4 .nil))) .n))))<|zK rfl rfl (zw zr30 rfl) (fun b5=> ?_)
 refine zk 0 rfl rfl rfl rfl rfl sz30 rfl (.t8 (.t2 .nil)) .z<|zf<|zc<|ze<|za<|e_ru (zd 0 ty30 rfl rfl (.t8 (.t2 .nil)))<|zFb (addQe 1 rfl)<|zFb (addQe 1 rfl)<|zu rfl rfl (.c rfl (.c rfl (.c rfl .n))) ce12 (con_At (cx:=32) (cy:=32) (u1:=w31) (v1:=w42) (x1:=(some (Rat.divInt 1 8))) (u2:=w33) (v2:=w44) (x2:=(some (Rat.divInt 0 1))) (x9:=2) (y9:=0) (hq1:=by decide +kernel) (hq2:=by decide +kernel)) (.c (j:=1) rfl (.c (j:=0) rfl .n)) ?_
 rintro ⟨w36,w47⟩ hat
 dsimp only [aq,nq,cq]
 replace hat:(¬(((some (Rat.divInt 1 8)).isSome=true∧(some (Rat.divInt 0 1)).isSome=true)∧(-0x100000≤(32:Int)∧(32:Int)≤0x100000∧ -0x100000≤(32:Int)∧(32:Int)≤0x100000∧0≤(2:Int)∧(2:Int)<64∧0≤(0:Int)∧(0:Int)<64))→w36=wz∧w47=wz):=hat
 have e8:(if ((some (Rat.divInt 1 8)).isSome=true∧(some (Rat.divInt 0 1)).isSome=true) then (if (-0x100000≤(32:Int)∧(32:Int)≤0x100000∧ -0x100000≤(32:Int)∧(32:Int)≤0x100000∧0≤(2:Int)∧(2:Int)<64∧0≤(0:Int)∧(0:Int)<64) then 0 else 2) else 1:Int)=0:=by decide +kernel
 rw [e8]
 have e9:(decide (((some (Rat.divInt 1 8)).isSome=true∧(some (Rat.divInt 0 1)).isSome=true)∧(-0x100000≤(32:Int)∧(32:Int)≤0x100000∧ -0x100000≤(32:Int)∧(32:Int)≤0x100000∧0≤(2:Int)∧(2:Int)<64∧0≤(0:Int)∧(0:Int)<64)):Bool)=true:=by decide +kernel
 rw [e9]
 have e10:((if ((some (Rat.divInt 1 8)).isSome=true∧(some (Rat.divInt 0 1)).isSome=true)∧(-0x100000≤(32:Int)∧(32:Int)≤0x100000∧ -0x100000≤(32:Int)∧(32:Int)≤0x100000∧0≤(2:Int)∧(2:Int)<64∧0≤(0:Int)∧(0:Int)<64) then (Rd.gn ((some (Rat.divInt 1 8)).getD 0) ((some (Rat.divInt 0 1)).getD 0) 32 32 2 0) else 0):Rat)=(Rat.divInt 3 2):=by decide +kernel
 rw [e10]
 refine e_mv rfl<|e_p (zq rfl rfl)<|e_p (zq rfl rfl)<|zK rfl rfl (zw zr28 rfl) (fun b11=> ?_)
 refine zk 0 rfl rfl rfl rfl rfl sz28 rfl (.t4 .nil) .z<|e_p (zb rfl)<|zf<|zc<|ze<|za<|e_ru (zd 1 ty30 rfl rfl (.t8 (.t2 .nil)))<|zra rfl rfl (zR (enc:=fun z:Int=>[ya yb z]) (ok:=InK .i64) (h1:=fun _=>rfl) (h2:=fun _=>rfl) (k:=3) yd inf3 rfl dd dd dd (.c (x:=5) rfl rfl (fun _ _=>by exact zP.2 om) (.c (x:=5) rfl rfl (fun _ _=>by exact zP.2 om) (.c (x:=5) rfl rfl (fun _ _=>by exact zP.2 om) .n)))) (fun b12 _=> ?_)
 refine e_p (zN zr44 rfl yk (.c sz3 (.c sz3 (.c sz3 (.c sz42 .n)))) (.c rfl (.c rfl (.c rfl (.c rfl .n)))) (.c rfl rfl rfl (.take .nil) (.c rfl rfl rfl (.skip (.take .nil)) (.c rfl rfl rfl (.s2 (.take .nil)) (.c rfl rfl rfl (.s2 (.skip (.take .nil))) .n)))))<|zga 0 rfl .z<|zu rfl rfl (.c rfl (.c rfl .n)) ce21 (zde (cx:=32) (cy:=32) (u1:=w31) (v1:=w42) (x1:=(some (Rat.divInt 1 8))) (u2:=w33) (v2:=w44) (x2:=(some (Rat.divInt 0 1))) (w:=3) (h:=1) (m:=100) (p:=some ⟨b12,0,none⟩) (n:=3) (cap:=3) (l:=[5,5,5]) (hq1:=by decide +kernel) (hq2:=by decide +kernel) (hn:=by rfl)) (.c (j:=3) rfl (.c (j:=2) rfl (.c (j:=0) rfl .n))) ?_
 rintro ⟨p313,c314,oc⟩ hco
 dsimp only [aq,nq,cq]
 replace hco:((if Bl.rok 3 1 100 ([5,5,5]) then Rd.ckC (some (Rat.divInt 1 8)) (some (Rat.divInt 0 1)) 32 32 3 1 else 1)=0→oc=Rd.out ([5,5,5]) (Rd.cor ((some (Rat.divInt 1 8)).getD 0) ((some (Rat.divInt 0 1)).getD 0) 32 32 ((3:Int).toNat) 100 ([5,5,5])))∧((if Bl.rok 3 1 100 ([5,5,5]) then Rd.ckC (some (Rat.divInt 1 8)) (some (Rat.divInt 0 1)) 32 32 3 1 else 1)≠0→oc=[]):=hco
 have hc0:=Rd.kn_co
 have e15:(if Bl.rok 3 1 100 ([5,5,5]) then Rd.ckC (some (Rat.divInt 1 8)) (some (Rat.divInt 0 1)) 32 32 3 1 else 1:Int)=0:=by exact hc0
 rw [e15]
 have e16:oc=([5,6,8]:List Int):=by (rw [hco.1 hc0];exact Rd.kn_out)
 subst e16
 refine e_mv rfl<|e_p (zq rfl rfl)<|e_p (zq rfl rfl)<|zK rfl rfl (zw zr44 rfl) (fun b17=> ?_)
 refine zk 0 rfl rfl rfl rfl rfl sz44 rfl (.t4 .nil) .z<|e_p (zb rfl)<|zf<|zc<|ze<|za<|zra rfl rfl (zR (enc:=fun z:Int=>[ya yb z]) (ok:=InK .i64) (h1:=fun _=>rfl) (h2:=fun _=>rfl) (k:=3) yd inf3 rfl dd dd dd (.c (x:=0) rfl rfl (fun _ _=>by exact zP.2 om) (.c (x:=1) rfl rfl (fun _ _=>by exact zP.2 om) (.c (x:=2) rfl rfl (fun _ _=>by exact zP.2 om) .n)))) (fun b18 _=> ?_)
 refine zra rfl rfl (zR (enc:=fun z:Int=>[ya yb z]) (ok:=InK .i64) (h1:=fun _=>rfl) (h2:=fun _=>rfl) (k:=3) yd inf3 rfl dd dd dd (.c (x:=1) rfl rfl (fun _ _=>by exact zP.2 om) (.c (x:=3) rfl rfl (fun _ _=>by exact zP.2 om) (.c (x:=5) rfl rfl (fun _ _=>by exact zP.2 om) .n)))) (fun b19 _=> ?_)
 refine zga 1 rfl (.s .z)<|zga 0 rfl .z<|zu rfl rfl (.c rfl (.c rfl .n)) ce47 (zAg (p1:=some ⟨b18,0,none⟩) (n1:=3) (c1:=3) (l1:=[0,1,2]) (p2:=some ⟨b19,0,none⟩) (n2:=3) (c2:=3) (l2:=[1,3,5]) (hn1:=by rfl) (hn2:=by rfl) (hnn:=by rfl) (hn9:=dd) (hl1:=by exact Rd.kn_a) (hl2:=by exact Rd.kn_b) (hdg:=by exact Rd.kn_fd)) (.c (j:=1) rfl (.c (j:=0) rfl .n)) ?_
 rintro ⟨w320,w421,w522,w623⟩ -
 dsimp only [aq,nq,cq]
 have e24:((Rat.divInt (Rd.sI (Rd.lg ([1,3,5])) 3) ((3:Nat):Int) - Rat.divInt (((3:Nat):Int)*(Rd.sI (fun jj=>Rd.lg ([0,1,2]) jj*Rd.lg ([1,3,5]) jj) 3) - (Rd.sI (Rd.lg ([0,1,2])) 3)*(Rd.sI (Rd.lg ([1,3,5])) 3)) (((3:Nat):Int)*(Rd.sI (fun jj=>Rd.lg ([0,1,2]) jj*Rd.lg ([0,1,2]) jj) 3) - (Rd.sI (Rd.lg ([0,1,2])) 3)*(Rd.sI (Rd.lg ([0,1,2])) 3))*Rat.divInt (Rd.sI (Rd.lg ([0,1,2])) 3) ((3:Nat):Int)):Rat)=(Rat.divInt 1 1):=by rw [Rd.kn_f1];exact Rd.kn_f2
 rw [e24]
 have e25:((Rat.divInt (((3:Nat):Int)*(Rd.sI (fun jj=>Rd.lg ([0,1,2]) jj*Rd.lg ([1,3,5]) jj) 3) - (Rd.sI (Rd.lg ([0,1,2])) 3)*(Rd.sI (Rd.lg ([1,3,5])) 3)) (((3:Nat):Int)*(Rd.sI (fun jj=>Rd.lg ([0,1,2]) jj*Rd.lg ([0,1,2]) jj) 3) - (Rd.sI (Rd.lg ([0,1,2])) 3)*(Rd.sI (Rd.lg ([0,1,2])) 3))):Rat)=(Rat.divInt 2 1):=by exact Rd.kn_f1
 rw [e25]
 refine e_mv rfl<|e_p (zq rfl rfl)<|e_p (zq rfl rfl)<|e_p (zq rfl rfl)<|zK rfl rfl (zw zr28 rfl) (fun b26=> ?_)
 refine zK rfl rfl (zw zr28 rfl) (fun b27=> ?_)
 refine zk 1 rfl rfl rfl rfl rfl sz28 rfl (.t4 .nil) (.s .z)<|zk 0 rfl rfl rfl rfl rfl sz28 rfl (.t4 .nil) .z<|e_p (zb rfl)<|zf<|zc<|ze<|za<|e_p (zN zr68 rfl yc (.c sz3 (.c sz3 (.c sz3 (.c sz3 .n)))) (.c rfl (.c rfl (.c rfl (.c rfl .n)))) (.c rfl rfl rfl (.take .nil) (.c rfl rfl rfl (.skip (.take .nil)) (.c rfl rfl rfl (.s2 (.take .nil)) (.c rfl rfl rfl (.s2 (.skip (.take .nil))) .n)))))<|zra rfl rfl (zR (enc:=fun z:Cm=>[ya yb z.a,ya yb z.b,ya yb z.d,ya yb z.w]) (ok:=okC .i64) (h1:=fun _=>rfl) (h2:=fun _=>rfl) (k:=1) ye inf68 rfl dd dd dd (.c (x:=(⟨0,1,6,1⟩:Cm)) rfl rfl (fun _ _=>by exact ⟨zP.2 (by first|omega|decide|(dsimp only;omega)),zP.2 (by first|omega|decide|(dsimp only;omega)),zP.2 (by first|omega|decide|(dsimp only;omega)),zP.2 (by first|omega|decide|(dsimp only;omega))⟩) .n)) (fun b28 _=> ?_)
 refine zga 0 rfl .z<|zu rfl rfl (.c rfl (.c rfl .n)) ce31 (zOc (ni:=2) (pL:=some ⟨b28,0,none⟩) (nL:=1) (cL:=1) (L:=[(⟨0,1,6,1⟩:Cm)]) (hnL:=by rfl) (hsm:=by exact fun _=>by decide)) (.c (j:=0) rfl .n) ?_
 rintro ⟨p329,c330,so⟩ hof
 dsimp only [aq,nq,cq]
 replace hof:(Rd.offC 2 ([(⟨0,1,6,1⟩:Cm)])=0→so.length=(2:Int).toNat∧Rd.Lv (2:Int).toNat ([(⟨0,1,6,1⟩:Cm)]) (fun c=>so.getD c 0)∧(∀c,Big.hq (so.getD c 0)≤200000))∧(Rd.offC 2 ([(⟨0,1,6,1⟩:Cm)])≠0→so=[]):=hof
 have hf0:Rd.offC 2 [(⟨0,1,6,1⟩:Cm)]=0:=by decide
 have e31:(Rd.offC 2 ([(⟨0,1,6,1⟩:Cm)]):Int)=0:=by exact hf0
 rw [e31]
 have e32:so=([Rat.divInt 3 1,Rat.divInt (-3) 1]:List Rat):=by exact Rd.kn_off (hof.1 hf0).1 (hof.1 hf0).2.1
 subst e32
 refine e_mv rfl<|e_p (zq rfl rfl)<|e_p (zq rfl rfl)<|e_p (zb rfl)<|e_p (zb rfl)<|zf<|zc<|ze<|za<|zra rfl rfl (zR (enc:=fun z:Int=>[ya yb z]) (ok:=InK .i64) (h1:=fun _=>rfl) (h2:=fun _=>rfl) (k:=3) yd inf3 rfl dd dd dd (.c (x:=2) rfl rfl (fun _ _=>by exact zP.2 om) (.c (x:=0) rfl rfl (fun _ _=>by exact zP.2 om) (.c (x:=2) rfl rfl (fun _ _=>by exact zP.2 om) .n)))) (fun b33 _=> ?_)
 refine zra rfl rfl (zR (enc:=fun z:Int=>[ya yb z]) (ok:=InK .i64) (h1:=fun _=>rfl) (h2:=fun _=>rfl) (k:=3) yd inf3 rfl dd dd dd (.c (x:=1) rfl rfl (fun _ _=>by exact zP.2 om) (.c (x:=1) rfl rfl (fun _ _=>by exact zP.2 om) (.c (x:=2) rfl rfl (fun _ _=>by exact zP.2 om) .n)))) (fun b34 _=> ?_)
 refine zga 1 rfl (.s .z)<|zga 0 rfl .z<|zu rfl rfl (.c rfl (.c rfl .n)) ce38 (zHf (p1:=some ⟨b33,0,none⟩) (n1:=3) (c1:=3) (l1:=[2,0,2]) (p2:=some ⟨b34,0,none⟩) (n2:=3) (c2:=3) (l2:=[1,1,2]) (hn1:=by rfl) (hn2:=by rfl)) (.c (j:=1) rfl (.c (j:=0) rfl .n)) ?_
 rintro ⟨p335,c336,ot⟩ htb
 dsimp only [aq,nq,cq]
 replace htb:((Rd.tbC ([2,0,2]) ([1,1,2]))=0→Rd.Tb ([2,0,2]) ([1,1,2]) ot)∧((Rd.tbC ([2,0,2]) ([1,1,2]))≠0→ot=[]):=htb
 have ht0:Rd.tbC [2,0,2] [1,1,2]=0:=by decide +kernel
 have e37:(Rd.tbC ([2,0,2]) ([1,1,2]):Int)=0:=by exact ht0
 rw [e37]
 have e38:ot=([1,1,2]:List Int):=by exact (htb.1 ht0).uniq Rd.kn_tab
 subst e38
 refine e_mv rfl<|e_p (zq rfl rfl)<|e_p (zq rfl rfl)<|e_p (zb rfl)<|e_p (zb rfl)<|zf<|zc<|zGa (X:=Unit) (fun x=>True) (fun x=>[(0,.bool true)]) (fun x=>[boxA b27 28 (cw [w522,w623]),boxA b26 28 (cw [w320,w421]),boxA b17 44 [ya yb (if 0=0 then 3 else 0),ya yb (if 0=0 then 1 else 0),ya yb (if 0=0 then 100 else 0),.slice p313 (([5,6,8]:List Int).length) c314],boxA b11 28 (cw [w36,w47]),boxA b5 30 [ya yb 32,ya yb 32,w31.b,w31.l,w42.b,w42.l,w33.b,w33.l,w44.b,w44.l]]) (fun x=>[slF (rI .i64) p335 c336 ([1,1,2]:List Int),slF (rI .i64) (some ⟨b34,0,none⟩) 3 ([1,1,2]),slF (rI .i64) (some ⟨b33,0,none⟩) 3 ([2,0,2]),slF rQ p329 c330 ([Rat.divInt 3 1,Rat.divInt (-3) 1]:List Rat),slF (rI4 .i64) (some ⟨b28,0,none⟩) 1 ([(⟨0,1,6,1⟩:Cm)]),qF true w320 w421 (Rat.divInt 2 1),qF true w522 w623 (Rat.divInt 1 1),slF (rI .i64) (some ⟨b19,0,none⟩) 3 ([1,3,5]),slF (rI .i64) (some ⟨b18,0,none⟩) 3 ([0,1,2]),slF (rI .i64) p313 c314 ([5,6,8]:List Int),slF (rI .i64) (some ⟨b12,0,none⟩) 3 ([5,5,5]),qF true w36 w47 (Rat.divInt 3 2),eF w33 w44 (some (Rat.divInt 0 1)),eF w31 w42 (some (Rat.divInt 1 8)),qF true w33 w44 (Rat.divInt 0 1),qF true w31 w42 (Rat.divInt 1 8)]) ?_ ?_
 ·
  refine zZ (OW:=[]) (O:=[emA,emA,emA,boxA b27 28 (cw [w522,w623]),boxA b26 28 (cw [w320,w421]),emA,emA,boxA b17 44 [ya yb (if 0=0 then 3 else 0),ya yb (if 0=0 then 1 else 0),ya yb (if 0=0 then 100 else 0),.slice p313 (([5,6,8]:List Int).length) c314],emA,boxA b11 28 (cw [w36,w47]),boxA b5 30 [ya yb 32,ya yb 32,w31.b,w31.l,w42.b,w42.l,w33.b,w33.l,w44.b,w44.l]]) 100000 mixed (.then .ret) kr<|e_dm 0 rfl rfl rfl<|e_dm 1 rfl rfl rfl<|e_pv 2 rfl rfl (zH (z:=0) rfl rfl (w64 dd))<|e_dm 3 rfl rfl rfl<|e_pv 4 rfl rfl (zH (z:=0) rfl rfl (w64 dd))<|e_dm 5 rfl rfl rfl<|e_pv 6 rfl rfl (zH (z:=0) rfl rfl (w64 dd))<|e_dm 7 rfl rfl rfl<|e_pv 8 rfl rfl (zH (z:=0) rfl rfl (w64 dd))<|e_pv 9 rfl rfl (zta rfl rfl) ?_
  rw [show true=true from by decide]
  refine e_dm 10 rfl rfl rfl<|e_u 11 rfl rfl (zd 9 ty28 rfl rfl (.t4 .nil))<|e_one 12 (zC rfl rfl rfl rfl (.c rfl (.c rfl .n)) ce25 (zHb (z1:=3) (z2:=2) (hz1:=by first|rfl|decide|omega|(decide +kernel)) (hz2:=by first|rfl|decide|omega|(decide +kernel)) (hy:=by first|rfl|decide|omega|(decide +kernel))) (.n) ?_)
  rintro ⟨w339,w440⟩ -
  dsimp only [aq,nq,cq]
  refine e_one 13 (zMa rfl rfl rfl rfl (.c rfl (.c rfl .n)) ce18 (zKb (u1:=w36) (v1:=w47) (q1:=(Rat.divInt 3 2)) (u2:=w339) (v2:=w440) (q2:=Rat.divInt 3 2) (hl:=by first|rfl|decide|omega|(decide +kernel))) (.c (j:=12) rfl (.c (j:=0) rfl .n)) ?_)
  rw [show (decide ((Rat.divInt 3 2)=(Rat.divInt 3 2)))=true from by exact decide_eq_true rfl]
  refine e_pv 14 rfl rfl (zn rfl rfl)<|e_dm 15 rfl rfl rfl<|e_pv 16 rfl rfl (zh yk rfl sz42 rfl rfl)<|e_u 17 rfl rfl (zg 7 ty42 rfl rfl rfl)<|e_pv 18 rfl rfl (zD yd rfl)<|e_pv 19 rfl rfl (zta rfl rfl) ?_
  rw [show (decide (((([5,6,8]:List Int).length:Nat):Int)=3))=true from by decide]
  refine e_pv 20 rfl rfl (zn rfl rfl)<|e_dm 21 rfl rfl rfl<|e_pv 22 rfl rfl (zh yk rfl sz42 rfl rfl)<|e_u 23 rfl rfl (zg 7 ty42 rfl rfl rfl)<|zoa (x0:=(([5,6,8]:List Int).getD 2 0)) 24 rfl rfl kr kr 10 2 rfl yd sz3 rfl rfl rfl cbo rfl rfl (gD (d:=0) (by first|omega|decide)) (fun b41 o42 hok43=> ?_)
  replace hok43:=zP.1 hok43
  refine e_u 25 rfl rfl (zj (j:=0) 0 ty3 rfl rfl rfl rfl)<|e_pv 26 rfl rfl (zta rfl rfl) ?_
  rw [show (decide ((([5,6,8]:List Int).getD 2 0)=8))=true from by decide]
  refine e_pv 27 rfl rfl (zn rfl rfl)<|e_dm 28 rfl rfl rfl<|e_u 29 rfl rfl (zd 4 ty28 rfl rfl (.t4 .nil))<|e_one 30 (zC rfl rfl rfl rfl (.c rfl (.c rfl .n)) ce25 (zHb (z1:=2) (z2:=1) (hz1:=by first|rfl|decide|omega|(decide +kernel)) (hz2:=by first|rfl|decide|omega|(decide +kernel)) (hy:=by first|rfl|decide|omega|(decide +kernel))) (.n) ?_)
  rintro ⟨w344,w445⟩ -
  dsimp only [aq,nq,cq]
  refine e_one 31 (zMa rfl rfl rfl rfl (.c rfl (.c rfl .n)) ce18 (zKb (u1:=w320) (v1:=w421) (q1:=(Rat.divInt 2 1)) (u2:=w344) (v2:=w445) (q2:=Rat.divInt 2 1) (hl:=by first|rfl|decide|omega|(decide +kernel))) (.c (j:=8) rfl (.c (j:=0) rfl .n)) ?_)
  rw [show (decide ((Rat.divInt 2 1)=(Rat.divInt 2 1)))=true from by exact decide_eq_true rfl]
  refine e_pv 32 rfl rfl (zn rfl rfl)<|e_dm 33 rfl rfl rfl<|e_u 34 rfl rfl (zd 3 ty28 rfl rfl (.t4 .nil))<|e_one 35 (zC rfl rfl rfl rfl (.c rfl (.c rfl .n)) ce25 (zHb (z1:=1) (z2:=1) (hz1:=by first|rfl|decide|omega|(decide +kernel)) (hz2:=by first|rfl|decide|omega|(decide +kernel)) (hy:=by first|rfl|decide|omega|(decide +kernel))) (.n) ?_)
  rintro ⟨w346,w447⟩ -
  dsimp only [aq,nq,cq]
  refine e_one 36 (zMa rfl rfl rfl rfl (.c rfl (.c rfl .n)) ce18 (zKb (u1:=w522) (v1:=w623) (q1:=(Rat.divInt 1 1)) (u2:=w346) (v2:=w447) (q2:=Rat.divInt 1 1) (hl:=by first|rfl|decide|omega|(decide +kernel))) (.c (j:=10) rfl (.c (j:=0) rfl .n)) ?_)
  rw [show (decide ((Rat.divInt 1 1)=(Rat.divInt 1 1)))=true from by exact decide_eq_true rfl]
  refine e_pv 37 rfl rfl (zn rfl rfl)<|e_dm 38 rfl rfl rfl<|e_dm 39 rfl rfl rfl<|e_one 40 (zC rfl rfl rfl rfl (.c rfl (.c rfl .n)) ce25 (zHb (z1:=3) (z2:=1) (hz1:=by first|rfl|decide|omega|(decide +kernel)) (hz2:=by first|rfl|decide|omega|(decide +kernel)) (hy:=by first|rfl|decide|omega|(decide +kernel))) (.n) ?_)
  rintro ⟨w348,w449⟩ -
  dsimp only [aq,nq,cq]
  refine e_one 41 (zC rfl rfl rfl rfl (.c rfl (.c rfl .n)) ce25 (zHb (z1:=(-3)) (z2:=1) (hz1:=by first|rfl|decide|omega|(decide +kernel)) (hz2:=by first|rfl|decide|omega|(decide +kernel)) (hy:=by first|rfl|decide|omega|(decide +kernel))) (.n) ?_)
  rintro ⟨w350,w451⟩ -
  dsimp only [aq,nq,cq]
  refine e_one 42 (zZe rfl rfl rfl rfl (zYa (r:=rQ) (k:=2) yg inf28 rfl dd dd dd (.c (x:=(Rat.divInt 3 1)) (cs:=[w348.b,w348.l,w449.b,w449.l]) (w348,w449) rfl rfl rfl (fun g hr=>Holds.get 1 rfl hr) (.c (x:=(Rat.divInt (-3) 1)) (cs:=[w350.b,w350.l,w451.b,w451.l]) (w350,w451) rfl rfl rfl (fun g hr=>Holds.get 0 rfl hr) .n))) (fun b52 _=> ?_))
  refine zUb 0 rfl .z<|e_one 43 (zMa rfl rfl rfl rfl (.c rfl (.c rfl .n)) ce48 (zqd (p1:=p329) (n1:=([Rat.divInt 3 1,Rat.divInt (-3) 1]:List Rat).length) (c1:=c330) (l1:=([Rat.divInt 3 1,Rat.divInt (-3) 1]:List Rat)) (p2:=some ⟨b52,0,none⟩) (n2:=2) (c2:=2) (l2:=[(Rat.divInt 3 1),(Rat.divInt (-3) 1)]) (hn1:=by first|rfl|decide|omega|(decide +kernel)) (hn2:=by first|rfl|decide|omega|(decide +kernel)) (hl:=by first|rfl|decide|omega|(decide +kernel))) (.c (j:=10) rfl (.c (j:=0) rfl .n)) ?_)
  rw [show (decide (([Rat.divInt 3 1,Rat.divInt (-3) 1]:List Rat)=([(Rat.divInt 3 1),(Rat.divInt (-3) 1)])))=true from by exact decide_eq_true rfl]
  refine e_pv 44 rfl rfl (zn rfl rfl)<|e_dm 45 rfl rfl rfl<|e_dm 46 rfl rfl rfl<|e_one 47 (zZe rfl rfl rfl rfl (zR (enc:=fun z:Int=>[ya yb z]) (ok:=InK .i64) (h1:=fun _=>rfl) (h2:=fun _=>rfl) (k:=3) yd inf3 rfl dd dd dd (.c (x:=1) rfl rfl (fun _ _=>by exact zP.2 om) (.c (x:=1) rfl rfl (fun _ _=>by exact zP.2 om) (.c (x:=2) rfl rfl (fun _ _=>by exact zP.2 om) .n)))) (fun b53 _=> ?_))
  refine zUb 0 rfl .z<|e_one 48 (zMa rfl rfl rfl rfl (.c rfl (.c rfl .n)) ce40 (zGf (p1:=p335) (n1:=([1,1,2]:List Int).length) (c1:=c336) (l1:=([1,1,2]:List Int)) (p2:=some ⟨b53,0,none⟩) (n2:=3) (c2:=3) (l2:=[1,1,2]) (hn1:=by first|rfl|decide|omega|(decide +kernel)) (hn2:=by first|rfl|decide|omega|(decide +kernel))) (.c (j:=8) rfl (.c (j:=0) rfl .n)) ?_)
  rw [show (decide (([1,1,2]:List Int)=([1,1,2])))=true from by exact decide_eq_true rfl]
  refine e_pv 49 rfl rfl (zn rfl rfl)<|e_pv 50 rfl rfl (zb rfl)<|zX kr ?_
  exact zia () (show True from by first|trivial|omega|simp_all) ((.c rfl .n):SubM _ _) (ho:=((.of [5,5,7,8,8] rfl):PickO _ _ _)) ((.of [8,9,10,11,12,13,14,15,16,17,18,19,20,21,22,23] rfl):SelR _ _ _)
 ·
  rintro ⟨⟩ -
  try dsimp only [cw]
  refine zJ ?_
  exact zy Tryz.results10 () trivial (zo rfl) rfl (ho:=(.n:PickO _ _ _)) (.n:SelR _ _ _)
end Go.Proofs.YtkohlohbogpooaaGreat.Sp
namespace Go.Proofs.YtkohlohbogpooaaGreat.Sp
open Go
set_option linter.unusedVariables false
set_option maxRecDepth 100000
set_option maxHeartbeats 400000
theorem zcg {u1:Wd} {v1:Wd} {q1:Rat} {u2:Wd} {v2:Wd} {q2:Rat} (hl:Big.hq q1+Big.hq q2+1≤1099511627776):Con Tryz.prog 36 [.agg #[u1.b,u1.l,v1.b,v1.l],.agg #[u2.b,u2.l,v2.b,v2.l]] [] [qF true u1 v1 q1,qF true u2 v2 q2] (Y:=Wd×Wd) (fun y=>True) (fun y=> .agg #[y.1.b,y.1.l,y.2.b,y.2.l]) (fun y=>[]) (fun y=>[qF true y.1 y.2 (q1+q2)]):=by
 refine zl Tryz.func36 rfl rfl rfl (fun c=> ?_)
 show RunC _ _ _ _ _ [(0,.agg #[u1.b,u1.l,v1.b,v1.l]),(1,.agg #[u2.b,u2.l,v2.b,v2.l])] [] [qF true u1 v1 q1,qF true u2 v2 q2]
 refine ze<|za<|zK rfl rfl (zU rfl rfl) (fun b1=> ?_)
 refine zK rfl rfl (zU rfl rfl) (fun b2=> ?_)
 refine zK rfl rfl (zw zr28 rfl) (fun b3=> ?_)
 refine zf<|zc<|ze<|za<|e_ru (zd 2 ty28 rfl rfl (.t4 .nil))<|e_ru (zd 1 ty28 rfl rfl (.t4 .nil))<|zu rfl rfl (.c rfl (.c rfl .n)) ce65 (zJd (k1:=true) (u1:=u1) (v1:=v1) (q1:=q1) (k2:=true) (u2:=u2) (v2:=v2) (q2:=q2) (hl:=ass)) (.c (j:=0) rfl (.c (j:=1) rfl .n)) ?_
 rintro ⟨w34,w45⟩ -
 dsimp only [aq,nq,cq]
 refine zk 0 rfl rfl rfl rfl rfl sz28 rfl (.t4 .nil) .z<|zf<|zc<|zJ ?_
 exact zy Tryz.results36 (w34,w45) trivial (zp 0 ty28 rfl rfl (.t4 .nil)) rfl (ho:=(.n:PickO _ _ _)) ((.c (j:=0) rfl .n):SelR _ _ _)
end Go.Proofs.YtkohlohbogpooaaGreat.Sp
namespace Go.Proofs.YtkohlohbogpooaaGreat.Rd
open Go Big Mx
set_option linter.unusedVariables false
def dt (o:List Rat) (c:Cm):Rat:=Rat.divInt c.w 1*(o.getD c.b.toNat 0 - o.getD c.a.toNat 0+Rat.divInt c.d 1)
section
variable {n : Nat} {l : List Cm} {o : List Rat} {i k : Nat}
theorem dt_hq {B:Nat} (h:∀i,hq (o.getD i 0)≤B) (c:Cm) (hd: -65535≤c.d∧c.d≤65535) (hw:1≤c.w∧c.w≤4096):hq (Rat.divInt c.w 1)≤3∧hq (Rat.divInt c.d 1)≤3∧hq (o.getD c.b.toNat 0 - o.getD c.a.toNat 0)≤2*B+1∧hq (o.getD c.b.toNat 0 - o.getD c.a.toNat 0+Rat.divInt c.d 1)≤2*B+5∧hq (dt o c)≤2*B+8:=by
  have h1:=dq (n:=c.w) (d:=1) (by omega) (by omega) (by omega)
  have h2:=dq (n:=c.d) (d:=1) (by omega) (by omega) (by omega)
  have h3:=hq_sub (o.getD c.b.toNat 0) (o.getD c.a.toNat 0)
  have h4:=h c.b.toNat
  have h5:=h c.a.toNat
  have h6:=hq_add (o.getD c.b.toNat 0 - o.getD c.a.toNat 0) (Rat.divInt c.d 1)
  have h7:=hq_mul (Rat.divInt c.w 1) (o.getD c.b.toNat 0 - o.getD c.a.toNat 0+Rat.divInt c.d 1)
  unfold dt;omega
end
def oG (lo:List (Option Rat)) (i:Nat):Rat:=(lo.getD i none).getD 0
def ls (l:List Cm) (lo:List (Option Rat)) (k:Nat):Rat:=S (fun c=>(c.w:Rat)*((xa (oG lo) c.b - xa (oG lo) c.a+(c.d:Rat))*(xa (oG lo) c.b - xa (oG lo) c.a+(c.d:Rat)))) (l.take k)
def lt (lo:List (Option Rat)) (c:Cm):Rat:=(lo.getD c.b.toNat none).getD 0 - (lo.getD c.a.toNat none).getD 0+Rat.divInt c.d 1
structure Cn (tv:List Int) (o:List Cm):Prop where
  ok:Oks 6 o
  eq:∀c∈o,c.d=tv.getD c.a.toNat 0 - tv.getD c.b.toNat 0
theorem Cn.nil (tv:List Int):Cn tv []:=⟨fun c h=>(by cases h),fun c h=>(by cases h)⟩
theorem Cn.snoc {tv:List Int} {o:List Cm} (x:Cn tv o) {c:Cm} (h:Ok 6 c) (e:c.d=tv.getD c.a.toNat 0 - tv.getD c.b.toNat 0):Cn tv (o++[c]):=
  ⟨fun y hy=>by rcases List.mem_append.1 hy with k|k;exact x.ok y k;rw [List.mem_singleton.1 k];exact h,
   fun y hy=>by rcases List.mem_append.1 hy with k|k;exact x.eq y k;rw [List.mem_singleton.1 k];exact e⟩
theorem Cn.code {tv:List Int} {o:List Cm} (x:Cn tv o) (h:o.length≤12):offC 6 o=0:=by
  unfold offC;rw [if_neg (by omega)]
  exact cfst_all fun j hj=>by
    have:=cc_not (x.ok.getD hj)
    exact this
theorem Cn.zero {tv:List Int} {o:List Cm} (x:Cn tv o) {s:List Rat} (h:Lv 6 o fun c=>s.getD c 0) {i:Nat} (hi:i<o.length):sgq (s.getD (o.getD i c0).b.toNat 0 - s.getD (o.getD i c0).a.toNat 0+Rat.divInt (o.getD i c0).d 1)=0:=by
  have hm:o.getD i c0∈o:=by rw [List.getD_eq_getElem?_getD,List.getElem?_eq_getElem hi];exact List.getElem_mem _
  have:=exact x.ok h (t:=fun k=>((tv.getD k 0:Int):Rat)) (fun c hc=>by
    have e:=x.eq c hc
    unfold xa;rw [e,Rat.intCast_sub];grind) _ hm
  rw [sgq_zero,←int_div]
  exact this
theorem tv_b {a0 a1 a2 a3 a4 a5:Int} (h0: -32768≤a0∧a0≤32767) (h1: -32768≤a1∧a1≤32767) (h2: -32768≤a2∧a2≤32767) (h3: -32768≤a3∧a3≤32767) (h4: -32768≤a4∧a4≤32767) (h5: -32768≤a5∧a5≤32767):∀i,-32768≤[a0,a1,a2,a3,a4,a5].getD i 0∧[a0,a1,a2,a3,a4,a5].getD i 0≤32767
  |0=>h0
  |1=>h1
  |2=>h2
  |3=>h3
  |4=>h4
  |5=>h5
  |n+6=>by show -32768≤(0:Int)∧(0:Int)≤32767;omega
theorem tv_get {k:IntKind} {L:List Int} {i:Nat} (h6:i<6) (hl:L.length=6:=by rfl):(L.map (fun z=>Value.int k z))[0+i]? =some (Value.int k (L.getD i 0)):=by
  have h:i<L.length:=by omega
  rw [Nat.zero_add,List.getElem?_map,List.getD_eq_getElem?_getD,List.getElem?_eq_getElem h];rfl
end Go.Proofs.YtkohlohbogpooaaGreat.Rd
namespace Go.Proofs.YtkohlohbogpooaaGreat.Sp
open Go
set_option linter.unusedVariables false
section
variable {P : Program} {c : Cx} {n : Sz} {Q : Exit → Act → World → Prop} {m : Fm} {O : List As} {R : List Fa} {α : Type} {d : Option Tmp} {ty : TypeId} {ps : String} {af : Array Edge} {gd : Option (Nat × Bool)}
theorem RowOn.drop {T:TypeId} {r:Rp α} {p:Option Addr} {cap:Nat} {l:List α} {g h:Hp} (k:Nat) (hk:k≤l.length) (s:RowOn T r p cap l g h):RowOn T r (newP p cap k r.sz) (cap - k) (l.drop k) g h:=by
  rcases s with ⟨h1,h2,h3,h4⟩|⟨b,off,cells,e1,e2,e3,e4,e5,e6⟩
  · subst h3; simp at hk; subst hk
    exact .inl ⟨by unfold newP;rw [h1];split <;> rfl,by omega,rfl,h4⟩
  · by_cases e : cap = k
    · refine .inr ⟨b, off, cells, by unfold newP; rw [if_pos e, e1], by rw [List.length_drop]; omega, by omega, ?_, e5, fun i x h => ?_⟩
      · rw [e,Nat.sub_self,Nat.zero_mul];omega
      · rw [List.getElem?_drop] at h
        have:=(List.getElem?_eq_some_iff.1 h).1;omega
    · refine .inr ⟨b, off + k * r.sz, cells, ?_, by rw [List.length_drop]; omega, by omega, ?_, e5, fun i x h => ?_⟩
      · unfold newP; rw [if_neg e, e1]
        by_cases z:k*r.sz=0
        · rw [z];simp [Addr.add]
        · simp [Addr.add,z]
      · have : (cap - k) * r.sz + k * r.sz = cap * r.sz := by rw [← Nat.add_mul]; congr 1; omega
        omega
      · rw [List.getElem?_drop] at h
        obtain ⟨γ,a1,a2⟩:=e6 (k+i) x h
        refine ⟨γ,⟨a1.1,fun j v hv=> ?_⟩,a2⟩
        have:=a1.2 j v hv
        rw [Nat.add_mul] at this
        rw [show off+k*r.sz+i*r.sz+j=off+(k*r.sz+i*r.sz)+j by omega];exact this
end
end Go.Proofs.YtkohlohbogpooaaGreat.Sp
namespace Go.Proofs.YtkohlohbogpooaaGreat.Sp
open Go
set_option linter.unusedVariables false
abbrev Tr:=Option Addr×Nat×Nat
section
variable {P : Program} {c : Cx} {n : Sz} {m : Fm} {O : List As} {R : List Fa} {α : Type} {r : Rp α} {Z : List Tr} {ls : List (List α)} {d : Option Tmp} {ty : TypeId} {ps : String} {af : Array Edge} {gd : Option (Nat × Bool)}
end
end Go.Proofs.YtkohlohbogpooaaGreat.Sp
namespace Go.Proofs.YtkohlohbogpooaaGreat.Sp
open Go
set_option linter.unusedVariables false
abbrev nv (x:Nat):Value:= .int .i64 (x:Int)
section
variable {P : Program} {n : Sz} {m : Fm} {d : Option Tmp} {ty : TypeId} {ps : String} {af : Array Edge} {gd : Option (Nat × Bool)}
theorem ztc {s e:TypeId} {x ix:Operand} {b o len i:Nat} {kk:IntKind} (hu:P.underlying s=some (.array len e)) (ht:(P.info? e).map (·.size)=some 1)
    (h:evo m x=some (.pointer (some ⟨b,o,none⟩))) (hi:evo m ix=some (.int kk (i:Int))) (hl:i<len):PV P n ⟨d,.indexAddr s x ix,ty,ps,af,gd⟩ m (.pointer (some ⟨b,o+i,none⟩)):=zRa hu ht h hi hl (by rw [Nat.mul_one])
end
section
variable {p : Option Addr} {n cap : Nat} {B N : List Nat} {k s : Int} {j x : Nat}
end
end Go.Proofs.YtkohlohbogpooaaGreat.Sp
namespace Go.Proofs.YtkohlohbogpooaaGreat.Sp
open Go
set_option linter.unusedVariables false
set_option maxRecDepth 100000
set_option maxHeartbeats 400000
theorem ztb {a0:Int} {a1:Int} {a2:Int} {a3:Int} {a4:Int} {a5:Int} {p:Option Addr} {n:Nat} {cap:Nat} {l:List (Int×Int)} (hn:l.length=n) (hr0: -32768≤a0∧a0≤32767) (hr1: -32768≤a1∧a1≤32767) (hr2: -32768≤a2∧a2≤32767) (hr3: -32768≤a3∧a3≤32767) (hr4: -32768≤a4∧a4≤32767) (hr5: -32768≤a5∧a5≤32767):Con Tryz.prog 6 [.agg #[.int .i16 a0,.int .i16 a1,.int .i16 a2,.int .i16 a3,.int .i16 a4,.int .i16 a5],.slice p n cap] [] [slF (rI2 .u8) p cap l] (Y:=Unit) (fun y=>True) (fun y=> .bool true) (fun y=>[]) (fun y=>[]):=by
 refine zl Tryz.func6 rfl rfl rfl (fun c=> ?_)
 show RunC _ _ _ _ _ [(0,.agg #[.int .i16 a0,.int .i16 a1,.int .i16 a2,.int .i16 a3,.int .i16 a4,.int .i16 a5]),(1,.slice p n cap)] [] [slF (rI2 .u8) p cap l]
 refine zY 0 rfl (fun hL0=> ?_)
 have hlt9:(l.take (min n 12)).length=min n 12:=by rw [List.length_take];omega
 refine ze<|za<|zK rfl rfl (zU rfl rfl) (fun b1=> ?_)
 refine e_p (zb rfl)<|zf<|zc<|ze<|ze<|za<|zQ rfl rfl (.n) ce10 (zIf) (.n)<|e_p (zAb rfl)<|zf<|zc<|zua rfl rfl<|zv<|zc<|ze<|za<|e_p (zb rfl)<|zf<|zc<|ze<|ze<|zuc 68 (rI4 .i64)<|za<|e_mv rfl<|e_mv rfl<|e_p (zD yi rfl)<|e_p (v:= ya yb (((min n 12):Nat):Int)) (by rw [show ((((min n 12):Nat):Int):Int)=min ((n:Nat):Int) 12 by omega];exact zdg rfl rfl)<|e_p (zpb (hi:=(min n 12)) yi sz66 rfl (.s rfl) (.inr ⟨_,rfl⟩) om)<|zCb (zTb 0 rfl (min n 12) om) (fun _ _=> ?_)
 refine e_p (zD yi rfl)<|e_mv rfl<|zf<|zc<|zt<|zea (X:=Nat×(List Cm)×(Option Addr)×Nat) (fun x:Nat×(List Cm)×(Option Addr)×Nat=>x.1≤min n 12∧x.2.1.length≤x.1∧Rd.Cn [a0,a1,a2,a3,a4,a5] x.2.1) (fun x=>[(5,.slice (x.2.2.1) (x.2.1.length) (x.2.2.2)),(22,ya yb ((x.1:Nat):Int)),(21,ya yb (((min n 12):Nat):Int)),(20,.slice p (min n 12) cap),(4,.bool false),(2,.pointer (some ⟨b1,0,none⟩))]) (fun x=>[rowA 68 (rI4 .i64) (x.2.2.1) (x.2.2.2) (x.2.1),boxA b1 64 [.int .i16 a0,.int .i16 a1,.int .i16 a2,.int .i16 a3,.int .i16 a4,.int .i16 a5]]) (fun x=>[slF (rI2 .u8) p cap (l.take (min n 12)),slF (rI2 .u8) p cap l]) (fun x:Nat×(List Cm)×(Option Addr)×Nat=>min n 12 - x.1) (0,([]:List Cm),none,0) (show 0≤min n 12∧([]:List Cm).length≤0∧Rd.Cn [a0,a1,a2,a3,a4,a5] ([]:List Cm) from by exact ⟨Nat.zero_le _,Nat.le_refl _,Rd.Cn.nil _⟩) ((.e rfl (by first|rfl|(congr 1;omega)|simp_all) (.e rfl (by first|rfl|(congr 1;omega)|simp_all) (.of rfl))):SubM _ _) (ho:=((.e (i:=0) rfl (by first|rfl|(congr 1;omega)|simp_all) (.c (i:=0) rfl .n)):PickO _ _ _)) ((.of [0,1] rfl):SelR _ _ _) ?_
 rintro ⟨i,o,pO,cO⟩ hIl
 replace hIl:i≤min n 12∧o.length≤i∧Rd.Cn [a0,a1,a2,a3,a4,a5] o:=hIl
 try dsimp only
 obtain ⟨hi,hol,hcn⟩:=hIl
 refine ze<|za<|e_p (zT rfl rfl)<|zf<|zc<|ze<|zB rfl (fun h2=> ?_) (fun h2=> ?_)
 ·
  refine zv<|zc<|ze<|zt<|ze<|za<|zV (x0:=((l.take (min n 12)).getD i (0,0))) 0 i rfl yi sz66 rfl rfl rfl (by first|rfl|assumption|omega|(rw [List.length_take];omega)) rfl rfl (gD (d:=(0,0)) om) (fun b3 o4 hok5=> ?_)
  obtain ⟨hok5x,hok5y⟩:=hok5
  replace hok5x:=zjg.1 hok5x
  replace hok5y:=zjg.1 hok5y
  refine e_ru (zha (j:=0) 0 ty66 rfl rfl rfl (.t2 .nil))<|zK rfl rfl (zw zr66 rfl) (fun b6=> ?_)
  refine zk 0 rfl rfl rfl rfl rfl sz66 rfl (.t2 .nil) .z<|zf<|zc<|ze<|zZ (OW:=[]) (O:=[boxA b6 66 [.int .u8 (((l.take (min n 12)).getD i (0,0)).1),.int .u8 (((l.take (min n 12)).getD i (0,0)).2)],rowA 68 (rI4 .i64) pO cO o,boxA b1 64 [.int .i16 a0,.int .i16 a1,.int .i16 a2,.int .i16 a3,.int .i16 a4,.int .i16 a5]]) 100000 mixed (.then (.block (.then (.then (.block (.then .ret)))))) kr<|e_pv 0 rfl rfl (zRa (i:=0) yl sz5 rfl rfl dd rfl)<|e_u 1 rfl rfl (zg 0 ty5 rfl rfl rfl)<|e_pv 2 rfl rfl (zA (z:=((l.take (min n 12)).getD i (0,0)).1) rfl (by rw [ym];rfl) yh (w64 om))<|e_pv 3 rfl rfl (zTa (z:=(((l.take (min n 12)).getD i (0,0)).1%6)) rfl rfl om (remN om om))<|e_pv 4 rfl rfl (zRa (i:=1) yl sz5 rfl rfl dd rfl)<|e_u 5 rfl rfl (zg 0 ty5 rfl rfl rfl)<|e_pv 6 rfl rfl (zA (z:=((l.take (min n 12)).getD i (0,0)).2) rfl (by rw [ym];rfl) yh (w64 om))<|e_pv 7 rfl rfl (zTa (z:=(((l.take (min n 12)).getD i (0,0)).2%6)) rfl rfl om (remN om om))<|e_pv 8 rfl rfl (zb rfl)<|e_pv 9 rfl rfl (zb rfl)<|zX kr<|zc<|ze ?_
  obtain ⟨ka,hka⟩:∃q:Nat,((((l.take (min n 12)).getD i (0,0)).1%6):Int)=((q:Nat):Int):=⟨(((l.take (min n 12)).getD i (0,0)).1%6).toNat,by omega⟩
  have e7:((((l.take (min n 12)).getD i (0,0)).1%6):Int)=((ka:Nat):Int):=by exact hka
  rw [e7]
  obtain ⟨kb,hkb⟩:∃q:Nat,((((l.take (min n 12)).getD i (0,0)).2%6):Int)=((q:Nat):Int):=⟨(((l.take (min n 12)).getD i (0,0)).2%6).toNat,by omega⟩
  have e8:((((l.take (min n 12)).getD i (0,0)).2%6):Int)=((kb:Nat):Int):=by exact hkb
  rw [e8]
  refine za<|e_mv rfl<|e_mv rfl<|e_p (zAa rfl rfl)<|zf<|zc<|zB rfl (fun h36=> ?_) (fun h36=> ?_)
  ·
   have htb:=Rd.tv_b (a0:=a0) (a1:=a1) (a2:=a2) (a3:=a3) (a4:=a4) (a5:=a5) hr0 hr1 hr2 hr3 hr4 hr5
   have htba:=htb ka
   have htbb:=htb kb
   refine zma (.c (i:=1) rfl (.c (i:=0) rfl (.c (i:=0) rfl .n)))<|zZ (OW:=[rowA 68 (rI4 .i64) pO cO o]) (O:=[boxA b6 66 [.int .u8 (((l.take (min n 12)).getD i (0,0)).1),.int .u8 (((l.take (min n 12)).getD i (0,0)).2)],boxA b1 64 [.int .i16 a0,.int .i16 a1,.int .i16 a2,.int .i16 a3,.int .i16 a4,.int .i16 a5]]) 19 mixed (.block (.then (.then (.block (.then .ret))))) kr<|e_dm 0 rfl rfl rfl<|e_dm 1 rfl rfl rfl<|e_dm 2 rfl rfl rfl<|e_dm 3 rfl rfl rfl<|e_pv 4 rfl rfl (ztc (i:=ka) Tryz.underlying64 sz63 rfl rfl om)<|e_uw 5 rfl rfl (zg 2 ty63 rfl rfl (Rd.tv_get (k:= .i16) (L:=[a0,a1,a2,a3,a4,a5]) om))<|e_pv 6 rfl rfl (zA (z:=([a0,a1,a2,a3,a4,a5].getD ka 0)) rfl (by rw [Tryz.underlying63];rfl) yh (w64 om))<|e_dm 7 rfl rfl rfl<|e_pv 8 rfl rfl (ztc (i:=kb) Tryz.underlying64 sz63 rfl rfl om)<|e_uw 9 rfl rfl (zg 2 ty63 rfl rfl (Rd.tv_get (k:= .i16) (L:=[a0,a1,a2,a3,a4,a5]) om))<|e_pv 10 rfl rfl (zA (z:=([a0,a1,a2,a3,a4,a5].getD kb 0)) rfl (by rw [Tryz.underlying63];rfl) yh (w64 om))<|e_pv 11 rfl rfl (zja (z:=(([a0,a1,a2,a3,a4,a5].getD ka 0) - ([a0,a1,a2,a3,a4,a5].getD kb 0))) rfl rfl (w64 om))<|e_pv 12 rfl rfl (zRa (i:=0) yl sz5 rfl rfl dd rfl)<|e_uw 13 rfl rfl (zg 1 ty5 rfl rfl rfl)<|e_pv 14 rfl rfl (zA (z:=((l.take (min n 12)).getD i (0,0)).1) rfl (by rw [ym];rfl) yh (w64 om))<|e_pv 15 rfl rfl (zSa (z:=(((l.take (min n 12)).getD i (0,0)).1 / 6)) rfl rfl om (by rw [quoN (z:=(((l.take (min n 12)).getD i (0,0)).1 / 6)) om om];exact w64 om))<|e_pv 16 rfl rfl (zH (z:=(1+(((l.take (min n 12)).getD i (0,0)).1 / 6))) rfl rfl (w64 om))<|e_pv 17 rfl rfl (zN zr68 rfl yc (.c sz3 (.c sz3 (.c sz3 (.c sz3 .n)))) (.c rfl (.c rfl (.c rfl (.c rfl .n)))) (.c rfl rfl rfl (.take .nil) (.c rfl rfl rfl (.skip (.take .nil)) (.c rfl rfl rfl (.s2 (.take .nil)) (.c rfl rfl rfl (.s2 (.skip (.take .nil))) .n)))))<|e_one 18 (zZe rfl rfl rfl rfl (zR (enc:=fun z:Cm=>[ya yb z.a,ya yb z.b,ya yb z.d,ya yb z.w]) (ok:=okC .i64) (h1:=fun _=>rfl) (h2:=fun _=>rfl) (k:=1) ye inf68 rfl dd dd dd (.c (x:=(⟨((ka:Nat):Int),((kb:Nat):Int),(([a0,a1,a2,a3,a4,a5].getD ka 0) - ([a0,a1,a2,a3,a4,a5].getD kb 0)),(1+(((l.take (min n 12)).getD i (0,0)).1 / 6))⟩:Cm)) rfl rfl (fun _ _=>by exact ⟨zP.2 (by first|omega|decide|(dsimp only;omega)),zP.2 (by first|omega|decide|(dsimp only;omega)),zP.2 (by first|omega|decide|(dsimp only;omega)),zP.2 (by first|omega|decide|(dsimp only;omega))⟩) .n)) (fun b9 _=> ?_))
   refine zUb 0 rfl .z<|e_one 19 (zob (A':=fun v:Option Addr×Nat=>rowA 68 (rI4 .i64) v.1 v.2 (o++([(⟨((ka:Nat):Int),((kb:Nat):Int),(([a0,a1,a2,a3,a4,a5].getD ka 0) - ([a0,a1,a2,a3,a4,a5].getD kb 0)),(1+(((l.take (min n 12)).getD i (0,0)).1 / 6))⟩:Cm)]))) kr rfl rfl rfl (zsa 0 rfl ye inf68 dd rfl rfl (by first|rfl|assumption|omega|(rw [List.length_take];omega)) rfl (by first|rfl|assumption|omega|(rw [List.length_take];omega)) om om) ?_)
   rintro ⟨p10,c11⟩ -
   dsimp only [aq,nq,cq]
   refine e_pv 20 rfl rfl (zb rfl)<|zX kr<|zM<|zc<|za<|e_p (zH (z:=(((i+1):Nat):Int)) rfl rfl (w64 om))<|e_mv rfl<|zf<|zaa ((i+1),(o++([(⟨((ka:Nat):Int),((kb:Nat):Int),(([a0,a1,a2,a3,a4,a5].getD ka 0) - ([a0,a1,a2,a3,a4,a5].getD kb 0)),(1+(((l.take (min n 12)).getD i (0,0)).1 / 6))⟩:Cm)])),p10,c11) (show (i+1)≤min n 12∧(o++([(⟨((ka:Nat):Int),((kb:Nat):Int),(([a0,a1,a2,a3,a4,a5].getD ka 0) - ([a0,a1,a2,a3,a4,a5].getD kb 0)),(1+(((l.take (min n 12)).getD i (0,0)).1 / 6))⟩:Cm)])).length≤(i+1)∧Rd.Cn [a0,a1,a2,a3,a4,a5] (o++([(⟨((ka:Nat):Int),((kb:Nat):Int),(([a0,a1,a2,a3,a4,a5].getD ka 0) - ([a0,a1,a2,a3,a4,a5].getD kb 0)),(1+(((l.take (min n 12)).getD i (0,0)).1 / 6))⟩:Cm)])) from by refine ⟨by omega,by rw [List.length_append];simp;omega,hcn.snoc ?_ rfl⟩;constructor <;> dsimp only <;> omega) (by show min n 12 - (i+1)<min n 12 - i;omega) ((.e rfl (by first|rfl|(congr 1;omega)|simp_all) (.of rfl)):SubM _ _) (ho:=((.of [0,2] rfl):PickO _ _ _)) ((.of [2,3] rfl):SelR _ _ _)
  ·
   refine zv<|zM<|zc<|za<|e_p (zH (z:=(((i+1):Nat):Int)) rfl rfl (w64 om))<|e_mv rfl<|zf<|zaa ((i+1),o,pO,cO) (show (i+1)≤min n 12∧o.length≤(i+1)∧Rd.Cn [a0,a1,a2,a3,a4,a5] o from by exact ⟨by omega,by omega,hcn⟩) (by show min n 12 - (i+1)<min n 12 - i;omega) ((.of rfl):SubM _ _) (ho:=((.of [1,1] rfl):PickO _ _ _)) ((.of [1,2] rfl):SelR _ _ _)
 ·
  refine zda<|zi<|zi<|zr<|zc<|ze<|za<|e_mv rfl<|zga 0 rfl .z<|zu rfl rfl (.c rfl (.c rfl .n)) ce31 (zOc (ni:=6) (pL:=pO) (nL:=o.length) (cL:=cO) (L:=o) (hnL:=cbo) (hsm:=by exact fun _=>⟨by omega,by omega⟩)) (.c (j:=0) rfl .n) ?_
  rintro ⟨p312,c313,sol⟩ hof
  dsimp only [aq,nq,cq]
  replace hof:(Rd.offC 6 o=0→sol.length=(6:Int).toNat∧Rd.Lv (6:Int).toNat o (fun c=>sol.getD c 0)∧(∀c,Big.hq (sol.getD c 0)≤200000))∧(Rd.offC 6 o≠0→sol=[]):=hof
  refine e_mv rfl<|e_p (zq rfl rfl)<|e_p (zq rfl rfl)<|e_p (zb rfl)<|e_p (zb rfl)<|zf<|zc<|ze ?_
  have hz:Rd.offC 6 o=0:=hcn.code om
  obtain ⟨hs1,hs2,hs3⟩:=hof.1 hz
  have hs1:sol.length=6:=hs1
  have hlv:Rd.Lv 6 o (fun c=>sol.getD c 0):=hs2
  have e14:(Rd.offC 6 o:Int)=0:=by exact hz
  rw [e14]
  refine zGa (X:=Unit) (fun x=>True) (fun x=>[(69,.bool false),(10,.slice p312 (sol.length) c313),(5,.slice pO (o.length) cO),(4,.bool false)]) (fun x=>[boxA b1 64 [.int .i16 a0,.int .i16 a1,.int .i16 a2,.int .i16 a3,.int .i16 a4,.int .i16 a5]]) (fun x=>[slF rQ p312 c313 sol,slF (rI4 .i64) pO cO o,slF (rI2 .u8) p cap (l.take (min n 12)),slF (rI2 .u8) p cap l]) ?_ ?_
  ·
   refine za<|e_mv rfl<|e_p (zAa rfl rfl)<|e_mv rfl<|e_mv rfl<|e_p (zD yg rfl)<|e_p (zAa rfl rfl)<|e_p (zn rfl rfl)<|zf ?_
   exact zia () (show True from by first|trivial|omega|simp_all) ((.e rfl (congrArg Value.bool cbu) (.of rfl)):SubM _ _) (ho:=((.c (i:=1) rfl .n):PickO _ _ _)) ((.of [0,1,2,3] rfl):SelR _ _ _)
  ·
   rintro ⟨⟩ -
   try dsimp only
   refine zua rfl rfl<|zv<|zc<|ze<|ze<|za<|e_mv rfl<|e_p (zD ye rfl)<|e_mv rfl<|zf<|zc<|zt<|zea (X:=Nat) (fun x:Nat=>x≤o.length) (fun x=>[(72,ya yb ((x:Nat):Int)),(71,ya yb ((o.length:Nat):Int)),(70,.slice pO (o.length) cO),(10,.slice p312 (sol.length) c313)]) (fun x=>[boxA b1 64 [.int .i16 a0,.int .i16 a1,.int .i16 a2,.int .i16 a3,.int .i16 a4,.int .i16 a5]]) (fun x=>[slF rQ p312 c313 sol,slF (rI4 .i64) pO cO o,slF (rI2 .u8) p cap (l.take (min n 12)),slF (rI2 .u8) p cap l]) (fun x:Nat=>o.length - x) 0 (show 0≤o.length from by exact Nat.zero_le _) ((.e rfl (by first|rfl|(congr 1;omega)|simp_all) (.of rfl)):SubM _ _) (ho:=((.c (i:=0) rfl .n):PickO _ _ _)) ((.of [0,1,2,3] rfl):SelR _ _ _) ?_
   rintro k hK
   replace hK:k≤o.length:=hK
   try dsimp only
   refine ze<|za<|e_p (zT rfl rfl)<|zf<|zc<|ze<|zB rfl (fun h15=> ?_) (fun h15=> ?_)
   ·
    have hoi:=hcn.ok.getD (show k<o.length by omega)
    have hoa:=hoi.a
    have hob:=hoi.b
    have hoa0:=hoi.a0
    have hob0:=hoi.b0
    have hone:=hoi.ne
    have hod:=hoi.d
    have how:=hoi.w
    obtain ⟨hz1,hz2,hz3,hz4,hz5⟩:=Rd.dt_hq hs3 (o.getD k Rd.c0) hod how
    have hzb:=hs3 (o.getD k Rd.c0).b.toNat
    have hza:=hs3 (o.getD k Rd.c0).a.toNat
    refine zv<|zc<|ze<|zt<|ze<|za<|zV (x0:=(o.getD k Rd.c0)) 1 k rfl ye sz68 rfl rfl rfl (by first|rfl|assumption|omega|(rw [List.length_take];omega)) rfl rfl (gD (d:=Rd.c0) om) (fun b16 o17 hok18=> ?_)
    obtain ⟨hok180,hok181,hok182,hok183⟩:=hok18
    replace hok180:=zP.1 hok180
    replace hok181:=zP.1 hok181
    replace hok182:=zP.1 hok182
    replace hok183:=zP.1 hok183
    refine e_ru (zha (j:=0) 0 ty68 rfl rfl rfl (.t4 .nil))<|zK rfl rfl (zw zr68 rfl) (fun b19=> ?_)
    refine zk 0 rfl rfl rfl rfl rfl sz68 rfl (.t4 .nil) .z<|zf<|zc<|ze<|zZ (OW:=[]) (O:=[boxA b19 68 [ya yb ((o.getD k Rd.c0).a),ya yb ((o.getD k Rd.c0).b),ya yb ((o.getD k Rd.c0).d),ya yb ((o.getD k Rd.c0).w)],boxA b1 64 [.int .i16 a0,.int .i16 a1,.int .i16 a2,.int .i16 a3,.int .i16 a4,.int .i16 a5]]) 100000 mixed (.then (.block (.then (.then (.block (.then .ret)))))) kr<|e_dm 0 rfl rfl rfl<|e_pv 1 rfl rfl (zh yc rfl sz3 rfl rfl)<|e_u 2 rfl rfl (zg 0 ty3 rfl rfl rfl)<|d_vl 3 rfl rfl kr kr rfl rfl (zka (x0:=(sol.getD (((o.getD k Rd.c0).b).toNat) (0:Rat))) 1 (((o.getD k Rd.c0).b).toNat) rfl yg sz28 rfl (by first|rfl|assumption|omega|(rw [List.length_take];omega)) rfl om (gD (d:=(0:Rat)) om)) ?_
    rintro ⟨b20,o21,w22,w23⟩ -
    dsimp only [aq,nq,cq]
    refine zNb open_rQ<|e_u 4 rfl rfl (zha (j:=0) 0 ty28 rfl rfl rfl (.t4 .nil))<|e_dm 5 rfl rfl rfl<|e_pv 6 rfl rfl (zh yc rfl sz3 rfl rfl)<|e_u 7 rfl rfl (zg 0 ty3 rfl rfl rfl)<|d_vl 8 rfl rfl kr kr rfl rfl (zka (x0:=(sol.getD (((o.getD k Rd.c0).a).toNat) (0:Rat))) 3 (((o.getD k Rd.c0).a).toNat) rfl yg sz28 rfl (by first|rfl|assumption|omega|(rw [List.length_take];omega)) rfl om (gD (d:=(0:Rat)) om)) ?_
    rintro ⟨b24,o25,w26,w27⟩ -
    dsimp only [aq,nq,cq]
    refine zNb open_rQ<|e_u 9 rfl rfl (zha (j:=0) 0 ty28 rfl rfl rfl (.t4 .nil))<|e_pv 11 rfl rfl (zh yc rfl sz3 rfl rfl)<|e_u 12 rfl rfl (zg 0 ty3 rfl rfl rfl)<|e_one 10 (zC rfl rfl rfl rfl (.c rfl (.c rfl .n)) ce28 (zKd (k1:=true) (u1:=w22) (v1:=w23) (q1:=(sol.getD (((o.getD k Rd.c0).b).toNat) (0:Rat))) (k2:=true) (u2:=w26) (v2:=w27) (q2:=(sol.getD (((o.getD k Rd.c0).a).toNat) (0:Rat))) (hl:=cbo)) (.c (j:=3) rfl (.c (j:=1) rfl .n)) ?_)
    rintro ⟨w328,w429⟩ -
    dsimp only [aq,nq,cq]
    refine e_one 13 (zC rfl rfl rfl rfl (.c rfl (.c rfl .n)) ce25 (zHb (z1:=(o.getD k Rd.c0).d) (z2:=1) (hz1:=cbo) (hz2:=cbo) (hy:=cbo)) (.n) ?_)
    rintro ⟨w330,w431⟩ -
    dsimp only [aq,nq,cq]
    refine e_one 14 (zC rfl rfl rfl rfl (.c rfl (.c rfl .n)) ce36 (zcg (u1:=w328) (v1:=w429) (q1:=(sol.getD (((o.getD k Rd.c0).b).toNat) (0:Rat)) - (sol.getD (((o.getD k Rd.c0).a).toNat) (0:Rat))) (u2:=w330) (v2:=w431) (q2:=Rat.divInt ((o.getD k Rd.c0).d) 1) (hl:=cbo)) (.c (j:=1) rfl (.c (j:=0) rfl .n)) ?_)
    rintro ⟨w332,w433⟩ -
    dsimp only [aq,nq,cq]
    refine e_one 15 (zMa rfl rfl rfl rfl (.c rfl .n) ce35 (zcd (k1:=true) (u1:=w332) (v1:=w433) (q1:=((sol.getD (((o.getD k Rd.c0).b).toNat) (0:Rat)) - (sol.getD (((o.getD k Rd.c0).a).toNat) (0:Rat)))+(Rat.divInt ((o.getD k Rd.c0).d) 1)) (hl:=cbo)) (.c (j:=0) rfl .n) ?_)
    refine e_pv 16 rfl rfl (zAa rfl rfl)<|zX kr<|zc<|zB rfl (fun h92=> ?_) (fun h92=> ?_)
    ·
     exact absurd (hcn.zero hlv (show k<o.length by omega)) h92
    ·
     refine zv<|zM<|zc<|za<|e_p (zH (z:=(((k+1):Nat):Int)) rfl rfl (w64 om))<|e_mv rfl<|zf<|zaa (k+1) (show (k+1)≤o.length from by show k+1≤o.length;omega) (by show o.length - (k+1)<o.length - k;omega) ((.of rfl):SubM _ _) (ho:=((.c (i:=1) rfl .n):PickO _ _ _)) ((.of [8,9,10,11] rfl):SelR _ _ _)
   ·
    refine zda<|zi<|zi<|zr<|zc<|ze<|za<|e_p (zb rfl)<|zf<|zc<|zJ ?_
    exact zy Tryz.results6 () trivial (zo rfl) rfl (ho:=(.n:PickO _ _ _)) (.n:SelR _ _ _)
end Go.Proofs.YtkohlohbogpooaaGreat.Sp
namespace Go.Proofs.YtkohlohbogpooaaGreat.Sp
open Go Go.RowKit Go.ChangeShapes Go.WideShapes
set_option linter.unusedVariables false
set_option linter.unusedSectionVars false
structure Bk (B:{H:Type}→DataW H→Nat):Prop where
  one:∀{H:Type} (d:DataW H),1≤B d
  slice:∀{H:Type} (es sp:List (DataW H)),(es.map B).sum+1≤B (.slice es sp)
  agg:∀{H:Type} (ps:List (DataW H)),(ps.map B).sum+1≤B (.agg ps)
section
variable {B : {H : Type} → DataW H → Nat} {P : Program} {t e : TypeId} {α β : Type} {r : Rp α} {s : Rp β} {mz : α → Nat} {mw : β → Nat}
def Reads2 {H:Type} (enc:TypeId×Value→H) (P:Program) (W:World) (base:Nat) (sp:Nat→Bool) (held:Bool) (n:Nat) (cs:List Value):List (TypeId×Nat)→List (DataW H×List MemPlace)→Prop
  |[],[]=>True
  |q :: ps,x :: xs=>DataW.trod enc P W base sp held n q.1 ((cs.drop q.2).take (P.cellsOf q.1))=some x∧Reads2 enc P W base sp held n cs ps xs
  |_,_=>False
theorem Reads2.of {H:Type} {enc:TypeId×Value→H} {W:World} {base:Nat} {sp:Nat→Bool} {held:Bool} {n:Nat} {cs:List Value}:∀{ps:List (TypeId×Nat)} {xs:List (DataW H×List MemPlace)},xs.length=ps.length→(∀(i:Nat) (q:TypeId×Nat),ps[i]? =some q→DataW.trod enc P W base sp held n q.1 ((cs.drop q.2).take (P.cellsOf q.1))=xs[i]?)→Reads2 enc P W base sp held n cs ps xs
  |[],[],_,_=>trivial
  |[],_ :: _,h,_=>by simp at h
  |_ :: _,[],h,_=>by simp at h
  |q :: ps,x :: xs,hl,h=>⟨by simpa using h 0 q rfl,Reads2.of (by simpa using hl) fun i q' hq=>by simpa using h (i+1) q' (by simpa using hq)⟩
end
end Go.Proofs.YtkohlohbogpooaaGreat.Sp
