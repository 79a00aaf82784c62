/- Lemmas that the claim of this folder uses; each states its own conditions. Lines were printed by a program of ours. -/
import Derived.Test.YtpdbimfnhglhpaaGreatZ6A
set_option linter.unusedVariables false
set_option linter.unusedSimpArgs false
set_option linter.unusedSectionVars false
open List renaming getD_eq_getElem?_getD → yq, length_set → yr, drop_eq_nil_of_le → yu, getElem?_eq_getElem → yv, zipWith → yx, mem_cons_of_mem → yz, getElem?_map → yB, getElem?_eq_none → yC, append_assoc → yD, take_of_length_le → yF, replicate → yG, length_cons → yI, getElem?_set → yM, getElem?_zipWith → yN, range → yT, length_append → yW, all_eq_true → yX, mem_cons_self → yaa, length_replicate → yac, mem_cons → yad, getElem?_append_right → yae, getElem?_range → yai, length_map → yal, ext_getElem? → yao, eq_nil_of_length_eq_zero → yar, length_take → yas, filter_cons → yav, mem_range → ybh, flatten_cons → ybi, length_drop → ybo, getElem_mem → ybt, any_eq_true → ybu
open Array renaming getD_eq_getD_getElem? → ys, getElem?_eq_some_iff → yR, getElem?_eq_getElem → yU, getElem?_eq_none → yan, getElem?_setIfInBounds → yaw
open Int renaming mul_le_mul_of_nonneg_left → yt, sign_eq_one_of_pos → yw, natCast_mul → yH, mul_comm → yK, natAbs_natCast → yO, le_of_lt → yQ, sign_eq_neg_one_of_neg → yS, mul_le_mul_of_nonneg_right → yV, mul_ediv_add_emod → yZ, natAbs_neg → yag, mul_add → yah, emod_lt_of_pos → yaj, mul_assoc → yak, ediv_eq_zero_of_lt → yam, mul_nonneg → yap, ediv_nonneg → yay, emod_nonneg → yaz, add_mul → yba, toNat_of_nonneg → ybb, lt_trichotomy → ybj, toNat_natCast → ybk, one_mul → ybm, mul_sub → ybn, natCast_ediv → ybp
open Decidable renaming byContradiction → yA, not_not → ybl
open Nat renaming gcd → yE, le_refl → yJ, eq_of_beq_eq_true → yL, le_trans → yY, ble → yab, lt_of_mul_lt_mul_left → yaf, succ_mul → yaq, beq → yat, mod_lt → yax, div_le_self → ybc, not_lt_zero → ybe, zero_add → ybf, beq_refl → ybg, mod_eq_of_lt → ybq, div_eq_of_lt → ybr, lt_or_ge → ybw, le_of_lt → ybx
open Rat renaming divInt → yP, num_eq_zero → ybd, divInt_ofNat → ybs
open Option renaming getD_some → yau, map_some → ybv
open Go.Proofs.Tryz renaming underlying30 → yb, underlying28 → yc, underlying182 → ye, underlying133 → yf, prog → yi, underlying4 → yl
namespace Go.Proofs.YtpdbimfnhglhpaaGreat
open Big renaming zd → ya, raw → yd, ln → yg, zS → yh, sg → yj, qG → yk, qC → ym, nn → yn, vl → yo, Qk → yp
namespace Big
theorem ZC {s:Bool} {l:List Int} (hn:nn l):ln (raw s l)≤l.length:=by
  unfold ln;rw [QB hn];split <;> simp
theorem zjw (a b:Nat):(zd (a+b)).length≤max (zd a).length (zd b).length+1:=by
  have:=QJ (a:Int) (b:Int)
  unfold ln at this
  have e:((a:Int)+(b:Int)).natAbs=a+b:=Oo
  rw [e] at this
  simpa using this
theorem zjx (a b:Nat):(zd (a - b)).length≤(zd a).length:=by
  refine QV ?_
  have:=Ql a
  omega
theorem zmm {x y:Int} (h:decide (x<0)=decide (y<0)):sg (decide (x<0)) ((x.natAbs+y.natAbs:Nat):Int)=x+y:=by
  unfold sg
  by_cases hx:x<0
  · have hy : y < 0 := by simpa [hx] using h
    simp [hx];omega
  · have hy : ¬ y < 0 := by simpa [hx] using h
    simp [hx];omega
theorem zmn {x y:Int} (h:¬decide (x<0)=decide (y<0)) (hab:y.natAbs≤x.natAbs):sg (decide (x<0)) ((x.natAbs - y.natAbs:Nat):Int)=x+y:=by
  unfold sg
  by_cases hx:x<0
  · have hy : ¬ y < 0 := by simpa [hx] using h
    simp [hx];omega
  · have hy : y < 0 := by simpa [hx] using h
    simp [hx];omega
theorem add_lt {x y:Int} (h:¬decide (x<0)=decide (y<0)) (hab:x.natAbs≤y.natAbs):sg (decide (y<0)) ((y.natAbs - x.natAbs:Nat):Int)=x+y:=by
  have:=zmn (x:=y) (y:=x) (fun e=>h e.symm) hab
  rw [this,Int.add_comm]
theorem j9 {l m:List Int} (hl:l.length=m.length) (h:∀j,j<l.length→l.getD j 0=m.getD j 0):l=m:=by
  refine List.ext_getElem hl (fun j h1 h2=> ?_)
  have:=h j h1
  simpa [List.getD,h1,h2] using this
theorem same_iff {x y:Int}:(decide (x<0)=decide (y<0)∧zd x.natAbs=zd y.natAbs)↔x=y:=by
  constructor
  · rintro ⟨h1, h2⟩
    have:=congrArg zS h2
    rw [qE,qE] at this
    have h3:=decide_eq_decide.1 h1
    omega
  · rintro rfl;exact ⟨rfl,rfl⟩
end Big
namespace Sp
open Go
structure Wd where
  s:Bool
  p:Option Addr
  n:Nat
  c:Nat
@[reducible] def Wd.b (w : Wd) : Value := .bool w.s
@[reducible] def Wd.l (w : Wd) : Value := .slice w.p w.n w.c
@[reducible] def cw : List Wd → List Value
  |[]=>[]
  |w :: l=>w.b :: w.l :: cw l
def wz:Wd:=⟨false,none,0,0⟩
def Wd.is (g:Hp) (w:Wd) (z:Int):Prop:=w.s=decide (z<0)∧w.n=(ya z.natAbs).length∧Sl (rI .u32) g w.p w.c (ya z.natAbs)
def zF (w:Wd) (z:Int):Fa:=⟨fun g=>w.is g z,fun _ _ h k=>⟨k.1,k.2.1,k.2.2.mono h⟩⟩
theorem zpr (g:Hp):(zF wz 0).on g:=⟨rfl,rfl,Sl.nil _ _⟩
def lb (n k:Nat):Array Bool:=⟨(yT n).map (Nat.testBit k)⟩
section
variable {P : Program} {c : Cx} {n : Sz} {Q : Exit → Act → World → Prop} {m : Fm} {O : List As} {R : List Fa} {f : Nat}
theorem vR.fact {w:World} {r:Fa} (h:∀g,Holds g R→r.on g) (mm:vR c w O R):vR c w O (r :: R):=
  mm.weaken fun hh g s r' a=>⟨hh,g,s,⟨h g r',r'⟩,Hp.le_refl _,Hp.le_refl _,a,fun _ _ e=> .inl e⟩
theorem zey {ro:Option Nat} {code:Code} (r:Fa) (h:∀g,Holds g R→r.on g) (k:vm (ro:=ro) P Q c n code m O (r :: R)):vm (ro:=ro) P Q c n code m O R:=fun a w f mm=>k a w f (mm.fact h)
theorem Vm {e:Exit} (r:Fa) (h:∀g,Holds g R→r.on g) (k:jh c n Q e m O (r :: R)):jh c n Q e m O R:=fun a w f mm=>k a w f (mm.fact h)
theorem vR.mapR {w:World} {R':List Fa} (h:∀g,Holds g R→Holds g R') (mm:vR c w O R):vR c w O R':=
  mm.weaken fun hh g s r' a=>⟨hh,g,s,h g r',Hp.le_refl _,Hp.le_refl _,a,fun _ _ e=> .inl e⟩
theorem jI.told {A:List Value} {Y Z:Type} {φ:Y→Prop} {val:Y→Value} {O':Y→List As} {R':Y→List Fa} {ψ:Z→Prop} {val2:Z→Value} {O2:Z→List As} {R2:Z→List Fa} (h:jI P f A O R φ val O' R') (t:Y→Z)
    (hv:∀y,val y=val2 (t y)) (hp:∀y,φ y→ψ (t y)) (ho:∀y,O' y=O2 (t y)) (hR:∀y,φ y→∀g,Holds g (R' y)→Holds g (R2 (t y))):jI P f A O R ψ val2 O2 R2:=fun w hh g s r ap h1 h2=>
  (h w hh g s r ap h1 h2).mono fun e w' ⟨y,e1,e2,e3⟩=>⟨t y,by rw [e1,hv],hp y e2,by rw [← ho];exact vR.mapR (hR y e2) e3⟩
theorem jI.of {A:List Value} {Y:Type} {φ:Y→Prop} {val:Y→Value} {O':Y→List As} {R':Y→List Fa} {X:Type} {ψ:X→Prop} {A2:X→List Value} {R2:X→List Fa}
    (h:∀x,ψ x→jI P f (A2 x) O (R2 x) φ val O' R') (hx:∀g,Holds g R→∃x,ψ x∧A2 x=A∧Holds g (R2 x)):jI P f A O R φ val O' R':=fun w hh g s r ap h1 h2=>by
  obtain ⟨x,hp,e,r2⟩:=hx g r
  have:=h x hp w hh g s r2 ap h1 h2
  rw [e] at this;exact this
abbrev zf0 (z:Int) (p:Option Addr) (c:Nat):List Value:=[.bool (decide (z<0)),.slice p (ya z.natAbs).length c]
abbrev bigS (z:Int) (p:Option Addr) (c:Nat):Fa:=zI (rI .u32) p c (ya z.natAbs)
theorem Wd.eq {g:Hp} {w:Wd} {z:Int} (h:w.is g z):[w.b,w.l]=zf0 z w.p w.c:=by rw [Wd.b,Wd.l,h.1,h.2.1]
theorem WP {z:Int} {w:Wd} {Y:Type} {φ:Y→Prop} {val:Y→Value} {O':Y→List As} {R':Y→List Fa} (h:∀p c,jI P f [.agg (zf0 z p c).toArray] O [bigS z p c] φ val O' R'):jI P f [.agg #[w.b,w.l]] O [zF w z] φ val O' R':=
  jI.of (X:=Unit) (ψ:=fun _=>True) (A2:=fun _=>[.agg (zf0 z w.p w.c).toArray]) (R2:=fun _=>[bigS z w.p w.c]) (fun _ _=>h w.p w.c) fun g r=>⟨(),trivial,by rw [← Wd.eq r.1],r.1.2.2,trivial⟩
theorem Jb {z1 z2:Int} {w1 w2:Wd} {Y:Type} {φ:Y→Prop} {val:Y→Value} {O':Y→List As} {R':Y→List Fa} (h:∀p1 c1 p2 c2,jI P f [.agg (zf0 z1 p1 c1).toArray,.agg (zf0 z2 p2 c2).toArray] O [bigS z1 p1 c1,bigS z2 p2 c2] φ val O' R'):jI P f [.agg #[w1.b,w1.l],.agg #[w2.b,w2.l]] O [zF w1 z1,zF w2 z2] φ val O' R':=
  jI.of (X:=Unit) (ψ:=fun _=>True) (A2:=fun _=>[.agg (zf0 z1 w1.p w1.c).toArray,.agg (zf0 z2 w2.p w2.c).toArray]) (R2:=fun _=>[bigS z1 w1.p w1.c,bigS z2 w2.p w2.c]) (fun _ _=>h w1.p w1.c w2.p w2.c) fun g r=>⟨(),trivial,by rw [← Wd.eq r.1,←Wd.eq r.2.1],r.1.2.2,r.2.1.2.2,trivial⟩
theorem Vn {z:Int} {A:List Value} (h:jI P f A O R (Y:=Option Addr×Nat) (fun _=>True) (fun y=> .agg (zf0 z y.1 y.2).toArray) (fun _=>[]) (fun y=>[bigS z y.1 y.2])):jI P f A O R (Y:=Wd) (fun _=>True) (fun w=> .agg #[w.b,w.l]) (fun _=>[]) (fun w=>[zF w z]):=
  h.told (fun y=>⟨decide (z<0),y.1,(ya z.natAbs).length,y.2⟩) (fun _=>rfl) (fun _ _=>trivial) (fun _=>rfl) (fun y _ g r=>⟨⟨rfl,rfl,r.1⟩,trivial⟩)
end
section
variable {P : Program} {c : Cx} {n : Sz} {Q : Exit → Act → World → Prop} {m : Fm} {O OW : List As} {R R' : List Fa} {ops : Array Oper} {ro : Option Nat} {l : List Oper} {wi k : Nat} {L : Array Bool} {α : Type} {d : Option Tmp} {ty : TypeId} {ps : String} {af : Array Edge} {gd : Option (Nat × Bool)}
theorem vd (h:∀g,Holds g R→Holds g R') (k:ve (ro:=ro) P ops Q c n l m O R'):ve (ro:=ro) P ops Q c n l m O R:=fun a w f mm=>k a w f (mm.mapR h)
theorem vi (h:∀g,Holds g R→Holds g R') (kont:vn P ops Q c n wi k L m OW O R'):vn P ops Q c n wi k L m OW O R:=fun hQ hs hcl a w hw hr g f s1 s2 ap mm=>
  kont hQ hs hcl a w hw hr g f s1 s2 ap ⟨mm.sep,h g mm.holds,mm.apart,mm.hasH,mm.hasG,mm.le,mm.newG,mm.newH,mm.kept⟩
theorem zdv {t T:TypeId} {x:Operand} {r:Rp α} {p:Option Addr} {cap o:Nat} {xs:List α} {x0:α} (i j:Nat) (hi:O[i]? =some (rowA T r p cap xs)) (ht:Ty P t r.sz true) (h:vz m x=some (ZZ p o)) (ho:o=j*r.sz) (hx:xs[j]? =some x0):
    Vl P n ⟨d,.load t x,ty,ps,af,gd⟩ m O R (Y:=r.G) (fun _=>True) (fun y=> .agg (r.enc x0 y).toArray) (fun y=>[okF r x0 y]):=fun a f hh g sp hr=>by
  obtain ⟨y,hok,hrun⟩:=VN (P:=P) (n:=n) (d:=d) (ty:=ty) (ps:=ps) (af:=af) (gd:=gd) (R:=R) i j hi ht h ho hx a f hh g sp hr
  exact ⟨y,trivial,⟨hok,trivial⟩,hrun⟩
def ZQ (m:Fm) (R:List Fa) (r:Rp α):Nat→List (Nat×Operand)→List (Nat×Value)→List α→List (List Value)→Prop
  |_,[],[],[],[]=>True
  |i,(i1,x0) :: xs,(i2,v) :: vs,x :: es,cs :: css=>i1=i∧i2=i∧vz m x0=some v∧v.cells=cs.toArray∧(∀g,Holds g R→∃γ,r.enc x γ=cs∧r.ok g x γ)∧cs.length=r.sz∧ZQ m R r (i+1) xs vs es css
  |_,_,_,_,_=>False
theorem ZQ.evp {r:Rp α}:∀{i:Nat} {xs:List (Nat×Operand)} {vs:List (Nat×Value)} {es:List α} {css:List (List Value)},ZQ m R r i xs vs es css→evp m xs vs
  |_,[],[],[],[],_=>trivial
  |_,(_,_) :: _,(_,_) :: _,_ :: _,_ :: _,⟨h1,h2,h,_,_,_,k⟩=>⟨h1.trans h2.symm,h,ZQ.evp k⟩
theorem ZQ.len {r:Rp α}:∀{i:Nat} {xs:List (Nat×Operand)} {vs:List (Nat×Value)} {es:List α} {css:List (List Value)},ZQ m R r i xs vs es css→css.flatten.length=es.length*r.sz
  |_,[],[],[],[],_=>by simp
  |_,(_,_) :: _,(_,_) :: _,_ :: es,_ :: css,⟨_,_,_,_,_,hl,k⟩=>by
    have:=ZQ.len k
    simp only [ybi,yW,hl,this,yI,yaq];omega
theorem ZQ.fill {r:Rp α}:∀{i:Nat} {xs:List (Nat×Operand)} {vs:List (Nat×Value)} {es:List α} {css:List (List Value)},ZQ m R r i xs vs es css→∀(pre rest:List Value),pre.length=i*r.sz→rest.length=es.length*r.sz→
    zaV (fun i=>some (i*r.sz,r.sz)) (pre++rest) vs (pre++css.flatten)
  |_,[],[],[],[],_,pre,rest,hp,hr=>by
    have:rest=[]:=yar (by simpa using hr)
    subst this;rfl
  |i,(_,_) :: _,(_,_) :: _,x :: es,cs :: css,⟨h1,h2,h,hv,_,hl,k⟩,pre,rest,hp,hr=>by
    subst h2
    refine ⟨_*r.sz,r.sz,cs,pre++(cs++rest.drop r.sz),rfl,hv,hl,⟨?_,?_⟩,?_⟩
    · simp only [yW,hp,hl,hr,yI,yaq];omega
    · rw [hl, ← hp, List.take_left, List.drop_append]
      have:pre.drop (pre.length+r.sz)=[]:=yu Oo
      rw [this,List.nil_append,show pre.length+r.sz - pre.length=r.sz by omega,yD]
    · have := ZQ.fill k (pre ++ cs) (rest.drop r.sz) (by rw [yW, hp, hl, yaq]) (by rw [ybo, hr, yI, yaq]; omega)
      simpa [yD] using this
theorem ZQ.els {r:Rp α} {g:Hp} (hr:Holds g R):∀{i:Nat} {xs:List (Nat×Operand)} {vs:List (Nat×Value)} {es:List α} {css:List (List Value)},ZQ m R r i xs vs es css→Els r g css.flatten 0 es
  |_,[],[],[],[],_=>fun i x e=>by simp at e
  |_,(_,_) :: _,(_,_) :: _,x :: es,cs :: css,⟨_,_,h,hv,hok,hl,k⟩=>fun i y e=>by
    cases i with
    |zero=>
      simp at e;subst e
      obtain ⟨γ,h1,h2⟩:=hok g hr
      refine ⟨γ,⟨r.len _ _,fun j v ev=> ?_⟩,h2⟩
      rw [h1] at ev
      have hj:=(List.getElem?_eq_some_iff.1 ev).1
      simp only [ybi,Nat.zero_mul,ybf]
      rw [List.getElem?_append_left hj];exact ev
    |succ i=>
      obtain ⟨γ,a1,a2⟩:=ZQ.els hr k i y (by simpa using e)
      refine ⟨γ,⟨a1.1,fun j v ev=> ?_⟩,a2⟩
      have:=a1.2 j v ev
      simp only [ybi]
      rw [yae (by rw [hl,yaq];omega),hl]
      rw [show 0+(i+1)*r.sz+j - r.sz=0+i*r.sz+j by rw [yaq];omega];exact this
theorem qA {t e:TypeId} {bytes k:Nat} {z:Value} {parts:List (Nat×Operand)} {vs:List (Nat×Value)} {r:Rp α} {xs:List α} {css:List (List Value)} (hu:P.underlying t=some (.slice e)) (hI:Inf P e r.sz bytes z) (hzs:z.cells.size=r.sz) (hk:k*r.sz≤16777216) (hpos:0<k*r.sz) (hkm:k≤16777216)
    (hp:ZQ m R r 0 parts vs xs css) (hlen:xs.length=k:=by rfl):
    Ef P n ⟨d,.buildSlice t k parts.toArray,ty,ps,af,gd⟩ m [] R (Y:=Nat) (fun _=>True) (fun b=> .slice (some ⟨b,0,none⟩) k k) (fun b=>[rowA e r (some ⟨b,0,none⟩) k xs]) (fun _=>[]):=by
  subst hlen
  have hfill:=hp.fill [] (madeCells z.cells (xs.length*r.sz)).toList (by simp) (by simp [size_madeCells])
  simp only [List.nil_append] at hfill
  exact JE hu hI hzs hk hpos hkm hp.evp hfill rfl hp.len (fun g hr=>hp.els hr)
end
theorem ZQ.n {α:Type} {m:Fm} {R:List Fa} {r:Rp α} {i:Nat}:ZQ m R r i [] [] [] []:=trivial
theorem ZQ.c {α:Type} {m:Fm} {R:List Fa} {r:Rp α} {i:Nat} {x0:Operand} {v:Value} {x:α} {cs:List Value} {xs:List (Nat×Operand)} {vs:List (Nat×Value)} {es:List α} {css:List (List Value)} (γ:r.G) (h:vz m x0=some v) (hv:v.cells=cs.toArray) (he:r.enc x γ=cs) (hok:∀g,Holds g R→r.ok g x γ) (k:ZQ m R r (i+1) xs vs es css):ZQ m R r i ((i,x0) :: xs) ((i,v) :: vs) (x :: es) (cs :: css):=
  ⟨rfl,rfl,h,hv,fun g hr=>⟨γ,he,hok g hr⟩,by rw [← he];exact r.len _ _,k⟩
section
variable {P : Program} {c : Cx} {n : Sz} {Q : Exit → Act → World → Prop} {m : Fm} {O : List As} {R : List Fa} {α : Type} {d : Option Tmp} {ty : TypeId} {ps : String} {af : Array Edge} {gd : Option (Nat × Bool)}
theorem Qv.take {T:TypeId} {r:Rp α} {p:Option Addr} {cap:Nat} {l:List α} {g h:Hp} (k:Nat) (s:Qv T r p cap l g h):Qv T r p cap (l.take k) g h:=by
  rcases s with ⟨h1,h2,h3,h4⟩|⟨b,off,cells,e1,e2,e3,e4,e5,e6⟩
  · exact .inl ⟨h1,h2,by rw [h3];simp,h4⟩
  · refine .inr ⟨b, off, cells, e1, by rw [yas]; omega, e3, e4, e5, fun i x e => e6 i x ?_⟩
    rw [List.getElem?_take] at e
    split at e
    · exact e
    · cases e
theorem vG.mapAt {g:Hp} {A B:As} (hAB:∀h,A.on g h→B.on g h):∀{O:List As} (i:Nat) {h:Hp},O[i]? =some A→vG g O h→vG g (O.set i B) h
  |[],_,_,e,_=>by simp at e
  |_ :: _,0,_,e,⟨h1,h2,a,e1,x,y⟩=>by simp at e;subst e;exact ⟨h1,h2,a,e1,hAB _ x,y⟩
  |_ :: _,i+1,_,e,⟨h1,h2,a,e1,x,y⟩=>⟨h1,h2,a,e1,x,vG.mapAt hAB i (by simpa using e) y⟩
theorem vR.rowTake {w:World} (i:Nat) {T:TypeId} {r:Rp α} {p:Option Addr} {cap:Nat} {l:List α} (hi:O[i]? =some (rowA T r p cap l)) (k:Nat) (mm:vR c w O R):vR c w (O.set i (rowA T r p cap (l.take k))) R:=
  mm.resep fun g h s=>vG.mapAt (fun _ x=>Qv.take k x) i hi s
theorem zdw {s e T:TypeId} {x ix:Operand} {r:Rp α} {p:Option Addr} {k cap:Nat} {kk:IntKind} {z:Int} {xs:List α} (i j:Nat) (hi:O[i]? =some (rowA T r p cap xs)) (hu:P.underlying s=some (.slice e)) (ht:(P.info? e).map (·.size)=some r.sz)
    (h1:vz m x=some (.slice p k cap)) (hk:k≤xs.length) (h2:vz m ix=some (.int kk z)) (hz:z=(j:Int)) (hj:j<k):
    Vl P n ⟨d,.indexAddr s x ix,ty,ps,af,gd⟩ m O R (Y:=Unit) (fun _=>True) (fun _=>ZZ p (j*r.sz)) (fun _=>[]):=fun a f hh g sp hr=>by
  obtain ⟨k1,k2,ap,e0,hA,_,_⟩:=vG.pick i hi sp
  refine ⟨(),trivial,trivial,fun w _ _=> ?_⟩
  have hA':Qv T r p cap xs g k1:=hA
  rcases hA' with ⟨_,_,rfl,_⟩|⟨b,off,cells,rfl,_⟩
  · simp at hk;omega
  · subst hz
    have hrun:=Z8 (P:=P) (a:=⟨b,off,none⟩) (cap:=cap) (kk:=kk) (w:=w) hu ht hj
    simp only [execOp,f.ev h1,f.ev h2,Sem.run_bind,hrun,Result.andThen_ok,Sem.run_pure,Addr.add_lit,ZZ,ybv]
end
theorem zmo {P:Program} {c:Cx} {n:Sz} {Q:Exit→Act→World→Prop} {m:Fm} {O:List As} {R:List Fa} {α:Type} {ro:Option Nat} {x:Code} {T:TypeId} {r:Rp α} {p:Option Addr} {cap:Nat} {l:List α} (i:Nat) (hi:O[i]? =some (rowA T r p cap l)) (k:l.length≤cap∧cap≤9223372036854775807→vm (ro:=ro) P Q c n x m O R):vm (ro:=ro) P Q c n x m O R:=fun a w f mm=>by
  obtain ⟨hh,g,m2⟩:=mm
  obtain ⟨k1,k2,_,_,hA,_,_⟩:=vG.pick i hi m2.sep
  have hA':Qv T r p cap l g k1:=hA
  refine k ?_ a w f ⟨hh,g,m2⟩
  rcases hA' with ⟨_,h2,h3,_⟩|⟨b,off,cells,_,e2,e3,_⟩
  · subst h2;subst h3;exact ⟨yJ _,Od⟩
  · unfold maxLen at e3;omega
theorem MemAt.stay {c:Cx} {w w':World} {O:List As} {R:List Fa} {h g g2:Hp} (m:MemAt c w O R h g) (k:Kept ⟨w,Hp.emp,g2⟩ w'):MemAt c w' O R h g:=by
  have key:∀(x:Hp),Has w x→Has w' x:=fun x hx b o e=>by
    have h1:=hx b o e
    have hlt:=(yR.1 h1).1
    rw [k.block b hlt rfl];exact h1
  refine ⟨m.sep,m.holds,m.apart,key _ m.hasH,key _ m.hasG,m.le,m.newG,m.newH,k.os.trans m.kept.os,k.tape.trans m.kept.tape,k.output.trans m.kept.output,yY m.kept.size k.size,fun b hb e=> ?_⟩
  rw [k.block b (Nat.lt_of_lt_of_le hb m.kept.size) rfl]
  exact m.kept.block b hb e
section
variable {P : Program} {c : Cx} {n : Sz} {Q : Exit → Act → World → Prop} {m : Fm} {O OW : List As} {R R' : List Fa} {ops : Array Oper} {ro : Option Nat} {l : List Oper} {wi k : Nat} {L : Array Bool} {α : Type} {ty : TypeId} {ps : String} {af : Array Edge} {gd : Option (Nat × Bool)}
theorem zf1 {o:Oper} {v:Value} {js:List Nat} {T:TypeId} {r:Rp α} {p:Option Addr} {cap:Nat} {xs:List α} (i:Nat) (hi:O[i]? =some (rowA T r p cap xs)) (h:Ef P n o m [] R' (Y:=Unit) (fun _=>True) (fun _=>v) (fun _=>[]) (fun _=>[])) (hs:q9 js (zI r p cap xs :: R) R')
    {a:Act} {w:World} {hh g:Hp} (f:Fr n a m) (sp:vG g O hh) (hr:Holds g R) (ap:hh.apart g) (hH:Has w hh) (hG:Has w g) {K:Act→World→Prop} (hK:∀w' g2,Kept ⟨w,Hp.emp,g2⟩ w'→K (a.put o.dst v) w'):WpB P o a w K Q:=by
  obtain ⟨k1,k2,ap12,e0,hA,_,_⟩:=vG.pick i hi sp
  have hA':Qv T r p cap xs g k1:=hA
  have hk1:k1.le hh:=by rw [e0];exact Hp.le_joinL _ _
  have apk:k1.apart g:=by rw [e0] at ap;exact (Hp.apart_join.1 ap).1
  have hsl:=zbP hA' apk
  have hR2:Holds (g.join k1) (zI r p cap xs :: R):=⟨hsl,Holds.mono (Hp.le_joinL _ _) hr⟩
  exact h a f w Hp.emp (g.join k1) rfl (hs.holds hR2) (Hp.emp_apart _) (fun _ _ e=>by cases e) (Has.join hG (Has.mono hH hk1)) _ _ (fun _ w' _ hM=>by
    obtain ⟨h',g',mm'⟩:=hM
    exact hK w' _ mm'.kept)
theorem zmp {T:TypeId} {r:Rp α} {p:Option Addr} {cap:Nat} {zs:List α} (q:Nat) (hq:O[q]? =some (rowA T r p cap zs)) {i:Nat} {t0:Tmp} {xs:List Operand} {ats:Array TypeId} {f:Nat} {vs:List Value} {js:List Nat} {v:Value}
    (hne:yat i wi=false) (hi:ops[i]? =some ⟨some t0,.call ⟨.value (.func f),xs.toArray,ats⟩,ty,ps,af,gd⟩) (hw:j3 ops m ⟨some t0,.call ⟨.value (.func f),xs.toArray,ats⟩,ty,ps,af,gd⟩=some true) (hd:yab (t0+1) n.sz=true) (hx:evs m xs vs) (hc:CanEnter P f)
    (h:jI P f vs [] R' (Y:=Unit) (fun _=>True) (fun _=>v) (fun _=>[]) (fun _=>[])) (hs:q9 js (zI r p cap zs :: R) R')
    (kont:vn P ops Q c n wi k (L.setIfInBounds i true) ((t0,v) :: m) OW O R):JN P ops Q c n wi k L i m OW O R:=fun hQ hs' hcl hrd a w hw2 hr g fr s1 s2 ap mm=>by
  unfold wpOp
  simp only [hi]
  rw [if_pos (fr.wanted hw)]
  have he:Ef P n ⟨some t0,.call ⟨.value (.func f),xs.toArray,ats⟩,ty,ps,af,gd⟩ m [] R' (Y:=Unit) (fun _=>True) (fun _=>v) (fun _=>[]) (fun _=>[]):=Wb (first:=[]) (cap:=[]) rfl hx hc (by simpa using h)
  have hrle:=Hp.le_joinR ap
  have aph:hr.apart g:=(Hp.apart_join.1 mm.apart).2
  refine .inl<|WpB.wp (zf1 q hq he hs fr s2 mm.holds aph (Has.mono mm.hasH hrle) mm.hasG (fun w' g2 kp=> ?_))
  have mm2:=mm.stay kp
  exact ⟨⟨Has.mono mm2.hasH hrle,mm2.hasG,fun _=>Has.mono mm2.hasH (Hp.le_joinL _ _)⟩,kont hQ hs' (hcl.step hrd) _ w' hw2 hr g (fr.put (d:=some t0) hd _) s1 s2 ap mm2⟩
end
end Sp
namespace Big
theorem vV (A:List Int) (k:Nat):zS (A.drop k)=A.getD k 0+1000000000*zS (A.drop (k+1)):=by
  rcases ybw k A.length with h|h
  · rw [List.drop_eq_getElem_cons h,yq,yv h];rfl
  · rw [yu h,yu Oo,yq,yC h];rfl
theorem QC (A:List Int) (k:Nat) (h:k≤A.length):zS A=zS (A.take k)+pw k*zS (A.drop k):=by
  have h1:=Jt (A.take k) (A.drop k)
  rw [List.take_append_drop,yas,Nat.min_eq_left h] at h1;exact h1
theorem QD {l:List Int} (h:Qk l) (k:Nat):Qk (l.drop k):=fun d hd=>h d (List.mem_of_mem_drop hd)
theorem jV {l:List Int} (h:Qk l) (k:Nat):0≤zS (l.take k)∧zS (l.take k)<pw k:=by
  have h1:=Ju (V9 h k)
  have h2:=qV (V9 h k)
  have h3:=VB (show (l.take k).length≤k by rw [yas];omega)
  omega
theorem zaj {n:Nat} {qs:List Int} (x:Int):(yG (n+1) 0++qs).set n x=yG n 0++x :: qs:=by
  rw [List.replicate_succ',yD,List.set_append_right _ _ (by simp)];simp
structure ShI (A:List Int) (d:Int) (k:Nat) (qs:List Int) (r:Int):Prop where
  le:k≤A.length
  len:qs.length=A.length - k
  ok:Qk qs
  r0:0≤r
  r1:r<d
  eq:zS qs*d+r=zS (A.drop k)
theorem ShI.start {A:List Int} {d:Int} (hd:0<d):ShI A d A.length [] 0:=⟨yJ _,by simp,QU,Int.le_refl _,hd,by simp [zS]⟩
theorem zcx {r d g:Int} (h0:0≤r) (h1:r<d) (hg:0≤g∧g<1000000000):0≤(r*1000000000+g) / d∧(r*1000000000+g) / d<1000000000:=by
  refine ⟨yay Oo Oo,?_⟩
  refine Int.ediv_lt_of_lt_mul Oo ?_
  have:(r+1)*1000000000≤d*1000000000:=yV Oo Od
  rw [yK d] at this;omega
theorem ShI.step {A:List Int} {d:Int} {k:Nat} {qs:List Int} {r:Int} (h:ShI A d (k+1) qs r) (hA:Qk A):ShI A d k ((r*1000000000+A.getD k 0) / d :: qs) ((r*1000000000+A.getD k 0)%d):=by
  have hg:=qC hA k
  have h0:=h.r0;have h1:=h.r1;have hle:=h.le
  have hd:0<d:=Oo
  refine ⟨Oo,by simp only [yI,h.len];omega,Qa.2 ⟨zcx h0 h1 hg,h.ok⟩,yaz _ Oo,yaj _ hd,?_⟩
  rw [vV,←h.eq]
  have e:=yZ (r*1000000000+A.getD k 0) d
  simp only [zS]
  rw [yba,yK _ d]
  have e2:1000000000*zS qs*d=1000000000*(zS qs*d):=yak _ _ _
  omega
theorem ShI.fin {a m:Nat} {qs:List Int} {r:Int} (h:ShI (zd a) (m:Int) 0 qs r):vP qs=zd (a / m)∧r=((a%m:Nat):Int):=by
  have e:=h.eq;have h0:=h.r0;have h1:=h.r1;have hn:=qV h.ok
  rw [List.drop_zero,qE] at e
  have hq:zS qs=((a / m:Nat):Int):=by
    rw [ybp]
    symm
    have e3:(a:Int)=r+zS qs*(m:Int):=Oo
    rw [e3,Int.add_mul_ediv_right _ _ Oo,yam h0 h1];omega
  refine ⟨JR h.ok hq,?_⟩
  rw [Int.natCast_emod]
  have e3:(a:Int)=r+zS qs*(m:Int):=Oo
  rw [e3,Int.add_mul_emod_self_right,Int.emod_eq_of_lt h0 h1]
structure LgI (M n:Nat) (a v:Int) (jj:Nat) (u qs:List Int):Prop where
  ul:u.length=M
  uo:Qk u
  ql:qs.length=M - n - jj
  qo:Qk qs
  jle:jj+n≤M
  eq:zS u+v*pw jj*zS qs=a
  lt:zS u<v*pw jj
structure Gs (T v vt top g r:Int):Prop where
  eq:g*vt+r=top
  r0:0≤r
  g0:0≤g
  up:T<(g+1)*v
structure Tp (T v vt vs u2 u1 u0 w:Int):Prop where
  w1:1≤w
  vt1:1≤vt
  vt2:vt<1000000000
  vs0:0≤vs
  vs1:vs<1000000000
  a0:0≤u0∧u0<1000000000
  a1:0≤u1∧u1<1000000000
  a2:0≤u2∧u2<1000000000
  vlo:(vt*1000000000+vs)*w≤v
  vhi:v<(vt*1000000000+vs+1)*w
  tlo:((u2*1000000000+u1)*1000000000+u0)*w≤T
  thi:T<((u2*1000000000+u1)*1000000000+u0+1)*w
  tv:T<v*1000000000
theorem jF {a b w:Int} (hw:0≤w) (h:a≤b):a*w≤b*w:=yV h hw
theorem zkQ {a b w:Int} (hw:1≤w) (h:a*w<b*w):a<b:=Int.lt_of_mul_lt_mul_right h Oo
theorem Tp.top {T v vt vs u2 u1 u0 w:Int} (h:Tp T v vt vs u2 u1 u0 w):u2≤vt:=by
  have h1:=h.tlo;have h2:=h.tv;have h3:=h.vhi;have hw:=h.w1
  have h4:=h.a0;have h5:=h.a1;have h6:=h.vs1
  have h7:((u2*1000000000+u1)*1000000000+u0)*w<((vt*1000000000+vs+1)*1000000000)*w:=by
    have:v*1000000000<(vt*1000000000+vs+1)*w*1000000000:=Oo
    have e:(vt*1000000000+vs+1)*w*1000000000=((vt*1000000000+vs+1)*1000000000)*w:=by rw [yak,yak,yK w]
    omega
  have h8:=zkQ hw h7
  omega
theorem Tp.start {T v vt vs u2 u1 u0 w:Int} (h:Tp T v vt vs u2 u1 u0 w):Gs T v vt (u2*1000000000+u1) ((u2*1000000000+u1) / vt) ((u2*1000000000+u1)%vt):=by
  have hv:=h.vt1;have h1:=h.a1;have h2:=h.a2;have hw:=h.w1
  have e:=yZ (u2*1000000000+u1) vt
  have hr:=yaj (u2*1000000000+u1) (show 0<vt by omega)
  have hr0:=yaz (u2*1000000000+u1) (show vt≠0 by omega)
  have hq0:0≤(u2*1000000000+u1) / vt:=yay Oo Oo
  generalize (u2*1000000000+u1) / vt=g at*
  generalize (u2*1000000000+u1)%vt=r at*
  refine ⟨by rw [yK];exact e,hr0,hq0,?_⟩
  have ht:=h.thi;have hl:=h.vlo;have h0:=h.a0;have hs:=h.vs0
  have k1:(u2*1000000000+u1)*1000000000+u0+1≤(g+1)*(vt*1000000000+vs):=by
    have k2:(g+1)*(vt*1000000000+vs)=1000000000*(vt*g)+1000000000*vt+(g+1)*vs:=Og
    have k3:0≤(g+1)*vs:=yap Oo hs
    omega
  have k4:=jF (show 0≤w by omega) k1
  have k5:(g+1)*(vt*1000000000+vs)*w≤(g+1)*v:=by rw [yak];exact yt hl Oo
  omega
theorem Gs.le {T v vt vs u2 u1 u0 w g r:Int} (h:Tp T v vt vs u2 u1 u0 w) (k:Gs T v vt (u2*1000000000+u1) g r):g≤2000000000∧r≤1000000000000000000:=by
  have h1:=h.top;have h2:=k.eq;have h3:=h.a1;have h4:=h.vt1;have h5:=k.r0;have h6:=k.g0;have h7:=h.vt2
  have h8:0≤g*vt:=yap h6 Oo
  refine ⟨?_,Oo⟩
  refine yA fun hc=> ?_
  have h9:2000000001*vt≤g*vt:=yV Oo Oo
  omega
theorem Gs.step {T v vt vs u2 u1 u0 w g r:Int} (h:Tp T v vt vs u2 u1 u0 w) (k:Gs T v vt (u2*1000000000+u1) g r) (hc:1000000000≤g∨r*1000000000+u0<g*vs):1≤g∧Gs T v vt (u2*1000000000+u1) (g - 1) (r+vt):=by
  have hr:=k.r0;have hg:=k.g0;have he:=k.eq;have hv:=h.vt1;have h0:=h.a0;have hw:=h.w1
  have hg1:1≤g:=by
    rcases hc with hc|hc
    · omega
    · refine yA fun hn => ?_
      have:g=0:=Oo
      subst this;simp at hc;omega
  have hvp:0≤v:=by
    have h1:=h.vlo;have h2:=h.vs0
    have:0≤(vt*1000000000+vs)*w:=yap Oo Oo
    omega
  refine ⟨hg1,⟨by rw [Int.sub_mul];omega,Oo,Oo,?_⟩⟩
  rw [show g - 1+1=g by omega]
  rcases hc with hc|hc
  · have h1 := h.tv
    have:1000000000*v≤g*v:=jF hvp hc
    omega
  · have h1 := h.thi; have h2 := h.vlo
    have k1:(u2*1000000000+u1)*1000000000+u0+1≤g*(vt*1000000000+vs):=by
      have:g*(vt*1000000000+vs)=1000000000*(g*vt)+g*vs:=Og
      omega
    have k4:=jF (show 0≤w by omega) k1
    have k5:g*(vt*1000000000+vs)*w≤g*v:=by rw [yak];exact yt h2 Oo
    omega
theorem Gs.fin {T v vt vs u2 u1 u0 w g r:Int} (h:Tp T v vt vs u2 u1 u0 w) (k:Gs T v vt (u2*1000000000+u1) g r) (h1:g<1000000000) (h2:g*vs≤r*1000000000+u0):g*v<T+v:=by
  have he:=k.eq;have hg:=k.g0;have hw:=h.w1;have hv:=h.vt1;have hs:=h.vs0
  have k1:g*(vt*1000000000+vs)≤(u2*1000000000+u1)*1000000000+u0:=by
    have:g*(vt*1000000000+vs)=1000000000*(g*vt)+g*vs:=Og
    omega
  have k2:=jF (show 0≤w by omega) k1
  have k3:=h.tlo
  have hl:=h.vlo;have hh:=h.vhi
  have k4:g*(v - (vt*1000000000+vs)*w)≤g*w:=yt (by rw [yba (vt*1000000000+vs),ybm] at hh;omega) hg
  have k5:g*w≤999999999*w:=jF Oo Oo
  have k6:1000000000*w≤(vt*1000000000+vs)*w:=jF Oo Oo
  rw [ybn,←yak] at k4
  omega
theorem Gs.broke {T v vt vs u2 u1 u0 w g r:Int} (h:Tp T v vt vs u2 u1 u0 w) (k:Gs T v vt (u2*1000000000+u1) g r) (hb:1000000000≤r):g<1000000000∧g*vs≤r*1000000000+u0:=by
  have h1:=h.top;have he:=k.eq;have h3:=h.a1;have h4:=h.vt1;have hg:=k.g0;have h0:=h.a0
  have hlt:g<1000000000:=by
    refine yA fun hc=> ?_
    have:1000000000*vt≤g*vt:=jF Oo Oo
    omega
  refine ⟨hlt,?_⟩
  have hs:=h.vs1;have hs0:=h.vs0
  have:g*vs≤999999999*vs:=jF hs0 Oo
  omega
theorem LgI.T {M n:Nat} {a v:Int} {j:Nat} {u qs:List Int} (h:LgI M n a v (j+1) u qs):zS u=zS (u.take j)+pw j*zS (u.drop j)∧0≤zS (u.take j)∧zS (u.take j)<pw j∧0≤zS (u.drop j)∧zS (u.drop j)<v*1000000000:=by
  have h1:=QC u j (by rw [h.ul];have:=h.jle;omega)
  have h2:=jV h.uo j
  have h3:=qV (QD h.uo j)
  refine ⟨h1,h2.1,h2.2,h3,?_⟩
  have h4:=h.lt
  rw [jy] at h4
  have h5:pw j*zS (u.drop j)<pw j*(v*1000000000):=by
    have:v*(1000000000*pw j)=pw j*(v*1000000000):=by ac_rfl
    omega
  exact Int.lt_of_mul_lt_mul_left h5 (yQ (ZB j))
theorem zdH {l:List Int} (h:Qk l) {k:Nat} (hv:zS l<pw k):zS (l.drop k)=0:=by
  rcases ybw l.length k with hk|hk
  · rw [yu Oo];rfl
  · have h1 := QC l k hk
    have h2:=qV (V9 h k)
    have h3:=qV (QD h k)
    refine yA fun hc=> ?_
    have:pw k*1≤pw k*zS (l.drop k):=yt Oo (yQ (ZB k))
    omega
theorem zcy (l:List Int) (i k:Nat):(l.drop i).getD k 0=l.getD (i+k) 0:=by simp [yq]
theorem zak {b:Nat} {n:Nat} (h:(zd b).length=n+1):1≤(zd b).getD n 0:=by
  have h1:=Ja (b:Int)
  unfold canon at h1
  rw [yO,if_neg Oo,h,Nat.add_sub_cancel] at h1
  have h2:=qC (qG b) n
  omega
theorem LgI.high {M n:Nat} {a:Int} {b j:Nat} {u qs:List Int} (h:LgI M n a (b:Int) (j+1) u qs) (hn:(zd b).length=n):zS (u.drop (j+(n+1)))=0:=by
  have ht:=h.T
  have hb:=Ql b
  rw [hn] at hb
  have:=zdH (QD h.uo j) (k:=n+1) (by rw [jy];omega)
  rw [List.drop_drop] at this;exact this
theorem LgI.tp {M m:Nat} {a:Int} {b j:Nat} {u qs:List Int} (h:LgI M (m+2) a (b:Int) (j+1) u qs) (hn:(zd b).length=m+2):Tp (zS (u.drop j)) b ((zd b).getD (m+1) 0) ((zd b).getD m 0) (u.getD (j+(m+2)) 0) (u.getD (j+(m+1)) 0) (u.getD (j+m) 0) (pw m):=by
  have ht:=h.T
  have hh:=h.high hn
  have hvb:=qE b
  have e1:zS (zd b)=zS ((zd b).take m)+pw m*zS ((zd b).drop m):=QC _ _ Oo
  have e2:zS ((zd b).drop m)=(zd b).getD m 0+1000000000*(zd b).getD (m+1) 0:=by
    rw [vV,vV,yu (show (zd b).length≤m+1+1 by omega)];simp [zS]
  have e3:=jV (qG b) m
  have f1:zS (u.drop j)=zS ((u.drop j).take m)+pw m*zS ((u.drop j).drop m):=QC _ _ (by rw [ybo,h.ul];have:=h.jle;omega)
  have f2:zS ((u.drop j).drop m)=u.getD (j+m) 0+1000000000*(u.getD (j+(m+1)) 0+1000000000*u.getD (j+(m+2)) 0):=by
    rw [List.drop_drop,vV,vV,vV,show j+m+1+1+1=j+(m+2+1) by omega,hh,show j+m+1=j+(m+1) by omega,show j+(m+1)+1=j+(m+2) by omega];omega
  have f3:=jV (QD h.uo j) m
  have hp:=ZB m
  have ob:=qG b
  have g1:=qC ob (m+1);have g0:=qC ob m
  have c0:=qC h.uo (j+m);have c1:=qC h.uo (j+(m+1));have c2:=qC h.uo (j+(m+2))
  refine ⟨Oo,zak (n:=m+1) hn,g1.2,g0.1,g0.2,c0,c1,c2,?_,?_,?_,?_,ht.2.2.2.2⟩
  · rw [← hvb, e1, e2]
    have:(zd b).getD (m+1) 0*1000000000+(zd b).getD m 0=(zd b).getD m 0+1000000000*(zd b).getD (m+1) 0:=Oo
    rw [this,yK];omega
  · rw [← hvb, e1, e2]
    have:(zd b).getD (m+1) 0*1000000000+(zd b).getD m 0+1=((zd b).getD m 0+1000000000*(zd b).getD (m+1) 0)+1:=Oo
    rw [this,yba,yK _ (pw m)];omega
  · rw [f1, f2]
    have:(u.getD (j+(m+2)) 0*1000000000+u.getD (j+(m+1)) 0)*1000000000+u.getD (j+m) 0=u.getD (j+m) 0+1000000000*(u.getD (j+(m+1)) 0+1000000000*u.getD (j+(m+2)) 0):=Oo
    rw [this,yK];omega
  · rw [f1, f2]
    have:(u.getD (j+(m+2)) 0*1000000000+u.getD (j+(m+1)) 0)*1000000000+u.getD (j+m) 0+1=(u.getD (j+m) 0+1000000000*(u.getD (j+(m+1)) 0+1000000000*u.getD (j+(m+2)) 0))+1:=Oo
    rw [this,yba,yK _ (pw m)];omega
structure MsI (u:List Int) (j:Nat) (g:Int) (v:List Int) (i:Nat) (u2:List Int) (bo ca:Int):Prop where
  len:u2.length=u.length
  ok:Qk u2
  b0:0≤bo
  b1:bo≤1
  c0:0≤ca
  c1:ca<1000000000
  far:∀k,j+i≤k→u2.getD k 0=u.getD k 0
  eq:zS u2=zS u - pw j*(g*zS (v.take i))+pw (j+i)*(bo+ca)
theorem MsI.start {u:List Int} (h:Qk u) (j:Nat) (g:Int) (v:List Int):MsI u j g v 0 u 0 0:=⟨rfl,h,Od,Od,Od,Od,fun _ _=>rfl,by simp [zS]⟩
theorem zf2 {g x ca:Int} (hg:0≤g∧g<1000000000) (hx:0≤x∧x<1000000000) (hc:0≤ca∧ca<1000000000):0≤g*x+ca∧g*x+ca≤999999999000000000∧0≤(g*x+ca) / 1000000000∧(g*x+ca) / 1000000000<1000000000:=by
  have h1:0≤g*x:=yap hg.1 hx.1
  have h2:g*x≤999999999*x:=jF hx.1 Oo
  omega
theorem MsI.step {u:List Int} {j:Nat} {g:Int} {v:List Int} {i:Nat} {u2:List Int} {bo ca y bo2:Int} (h:MsI u j g v i u2 bo ca) (hg:0≤g∧g<1000000000) (hv:Qk v) (hj:j+i<u.length)
    (hy:y=u2.getD (j+i) 0 - bo - (g*v.getD i 0+ca)%1000000000+1000000000*bo2) (hy0:0≤y∧y<1000000000) (hb:0≤bo2∧bo2≤1):MsI u j g v (i+1) (u2.set (j+i) y) bo2 ((g*v.getD i 0+ca) / 1000000000):=by
  have hc:=zf2 hg (qC hv i) ⟨h.c0,h.c1⟩
  refine ⟨by rw [yr];exact h.len,QW h.ok hy0.1 hy0.2,hb.1,hb.2,hc.2.2.1,hc.2.2.2,fun k hk=>by rw [getD_set_ne Oo];exact h.far k Oo,?_⟩
  rw [VI y (by rw [h.len];exact hj),h.eq,jA,hy]
  have e:=yZ (g*v.getD i 0+ca) 1000000000
  rw [← Nat.add_assoc,jy,WL]
  generalize (g*v.getD i 0+ca) / 1000000000=q at*
  generalize (g*v.getD i 0+ca)%1000000000=r at*
  have e2:r=g*v.getD i 0+ca - 1000000000*q:=Oo
  subst e2
  grind
structure AbI (u:List Int) (j:Nat) (v:List Int) (i:Nat) (u2:List Int) (ca:Int):Prop where
  len:u2.length=u.length
  ok:Qk u2
  c0:0≤ca
  c1:ca≤1
  far:∀k,j+i≤k→u2.getD k 0=u.getD k 0
  eq:zS u2=zS u+pw j*zS (v.take i) - pw (j+i)*ca
theorem AbI.start {u:List Int} (h:Qk u) (j:Nat) (v:List Int):AbI u j v 0 u 0:=⟨rfl,h,Od,Od,fun _ _=>rfl,by simp [zS]⟩
theorem AbI.step {u:List Int} {j:Nat} {v:List Int} {i:Nat} {u2:List Int} {ca y c2:Int} (h:AbI u j v i u2 ca) (hj:j+i<u.length)
    (hy:y=u2.getD (j+i) 0+v.getD i 0+ca - 1000000000*c2) (hy0:0≤y∧y<1000000000) (hb:0≤c2∧c2≤1):AbI u j v (i+1) (u2.set (j+i) y) c2:=by
  refine ⟨by rw [yr];exact h.len,QW h.ok hy0.1 hy0.2,hb.1,hb.2,fun k hk=>by rw [getD_set_ne Oo];exact h.far k Oo,?_⟩
  rw [VI y (by rw [h.len];exact hj),h.eq,jA,hy]
  rw [← Nat.add_assoc,jy,WL]
  grind
theorem LgI.next {M n:Nat} {a v:Int} {j:Nat} {u qs:List Int} (h:LgI M n a v (j+1) u qs) {u':List Int} {g:Int} (hl:u'.length=M) (ho:Qk u') (hg:0≤g∧g<1000000000) (he:zS u'=zS u - pw j*(g*v)) (hlt:zS u'<v*pw j):LgI M n a v j u' (g :: qs):=by
  have hj:=h.jle
  refine ⟨hl,ho,by rw [yI,h.ql];omega,Qa.2 ⟨hg,h.qo⟩,Oo,?_,hlt⟩
  rw [he,←h.eq,jy]
  simp only [zS]
  grind
theorem LgI.bound {M n:Nat} {a v:Int} {j:Nat} {u qs:List Int} (h:LgI M n a v (j+1) u qs) {g:Int} (hup:zS (u.drop j)<(g+1)*v):zS u<pw j*((g+1)*v):=by
  obtain ⟨h1,h2,h3,h4,_⟩:=h.T
  have:pw j*(zS (u.drop j)+1)≤pw j*((g+1)*v):=yt Oo (yQ (ZB j))
  rw [yah,Int.mul_one] at this;omega
theorem LgI.low {M n:Nat} {a v:Int} {j:Nat} {u qs:List Int} (h:LgI M n a v (j+1) u qs) {g:Int} (hdn:g*v<zS (u.drop j)+v):pw j*(g*v)<zS u+pw j*v:=by
  obtain ⟨h1,h2,h3,h4,_⟩:=h.T
  have:pw j*(g*v+1)≤pw j*(zS (u.drop j)+v):=yt Oo (yQ (ZB j))
  rw [yah,yah,Int.mul_one] at this
  have:=ZB j;omega
theorem zcz {u:List Int} {k:Nat} (hk:k<u.length) (h0:zS (u.drop (k+1))=0):zS u=zS (u.take k)+pw k*u.getD k 0:=by
  rw [QC u k Oo,vV u k,h0];simp
theorem zal {u u2:List Int} {k:Nat} (hl:u2.length=u.length) (h:∀i,k≤i→u2.getD i 0=u.getD i 0):u2.drop k=u.drop k:=
  j9 (by simp [hl]) (fun i hi=>by rw [zcy,zcy];exact h _ Oo)
theorem LgI.pos {M n:Nat} {a:Int} {b j:Nat} {u qs:List Int} (h:LgI M n a (b:Int) (j+1) u qs) {g:Int} (hg:0≤g∧g<1000000000) (hup:zS (u.drop j)<(g+1)*(b:Int))
    {u2:List Int} {bo ca:Int} (hm:MsI u j g (zd b) n u2 bo ca) (hn:(zd b).length=n) (hd:0≤u2.getD (j+n) 0 - bo - ca):LgI M n a (b:Int) j (u2.set (j+n) (u2.getD (j+n) 0 - bo - ca)) (g :: qs):=by
  have hj:=h.jle
  have hx:=qC hm.ok (j+n)
  have h1:=hm.b0;have h2:=hm.c0
  have he:zS (u2.set (j+n) (u2.getD (j+n) 0 - bo - ca))=zS u - pw j*(g*(b:Int)):=by
    rw [VI _ (by rw [hm.len,h.ul];omega),hm.eq,yF Oo,qE]
    grind
  refine h.next (by rw [yr,hm.len,h.ul]) (QW hm.ok hd Oo) hg he ?_
  have:=h.bound hup
  rw [he]
  have e:pw j*((g+1)*(b:Int))=pw j*(g*(b:Int))+(b:Int)*pw j:=Og
  omega
theorem LgI.neg1 {M n:Nat} {a:Int} {b j:Nat} {u qs:List Int} (h:LgI M n a (b:Int) (j+1) u qs) {g:Int}
    {u2:List Int} {bo ca:Int} (hm:MsI u j g (zd b) n u2 bo ca) (hn:(zd b).length=n) (hd:u2.getD (j+n) 0 - bo - ca<0):g≠0:=fun hg=>by
  subst hg
  have hj:=h.jle
  have hlen2:j+n<u2.length:=by rw [hm.len,h.ul];omega
  have hhi2:zS (u2.drop (j+n+1))=0:=by rw [zal hm.len (fun i hi=>hm.far i Oo)];exact h.high hn
  have s2:=zcz hlen2 hhi2
  have t2:=jV hm.ok (j+n)
  have hp:=ZB (j+n)
  have e:=hm.eq
  have:pw (j+n)*(u2.getD (j+n) 0 - bo - ca)≤pw (j+n)*(-1):=yt Oo (yQ hp)
  rw [ybn,ybn] at this
  rw [yah,Int.zero_mul,Int.mul_zero] at e
  have:=qV h.uo
  omega
theorem LgI.neg {M n:Nat} {a:Int} {b j:Nat} {u qs:List Int} (h:LgI M n a (b:Int) (j+1) u qs) {g:Int} (hg:0≤g∧g<1000000000) (hdn:g*(b:Int)<zS (u.drop j)+(b:Int)) (hup:zS (u.drop j)<(g+1)*(b:Int))
    {u2:List Int} {bo ca:Int} (hm:MsI u j g (zd b) n u2 bo ca) (hn:(zd b).length=n) (hd:u2.getD (j+n) 0 - bo - ca<0)
    {u4:List Int} {c:Int} (hb:AbI (u2.set (j+n) (u2.getD (j+n) 0 - bo - ca+1000000000)) j (zd b) n u4 c):1≤g∧LgI M n a (b:Int) j (u4.set (j+n) ((u4.getD (j+n) 0+c)%1000000000)) ((g - 1) :: qs):=by
  have hj:=h.jle
  have hx:=qC hm.ok (j+n)
  have hy:=qC hb.ok (j+n)
  have h1:=hm.b0;have h2:=hm.c0;have h3:=hm.b1;have h4:=hm.c1;have c0:=hb.c0;have c1:=hb.c1
  have hlen2:j+n<u2.length:=by rw [hm.len,h.ul];omega
  have hlen4:j+n<u4.length:=by rw [hb.len,yr];exact hlen2
  have hhi:=h.high hn
  have hhi2:zS (u2.drop (j+n+1))=0:=by rw [zal hm.len (fun i hi=>hm.far i Oo)];exact hhi
  have s2:=zcz hlen2 hhi2
  have t2:=jV hm.ok (j+n)
  have hp:=ZB (j+n)
  -- what the subtraction left is below 0
  have hS:zS u - pw j*(g*(b:Int))<0:=by
    have e:=hm.eq
    rw [yF Oo,qE] at e
    have:pw (j+n)*(u2.getD (j+n) 0 - bo - ca)≤pw (j+n)*(-1):=yt Oo (yQ hp)
    rw [ybn,ybn] at this
    rw [yah] at e
    omega
  have hlow:=h.low hdn
  have hg1:1≤g:=by
    refine yA fun hc=> ?_
    have:g=0:=Oo
    subst this
    have:=qV h.uo
    simp at hS;omega
  refine ⟨hg1,?_⟩
  have e4:=hb.eq
  rw [yF Oo,qE,VI _ hlen2] at e4
  have e2:=hm.eq
  rw [yF Oo,qE] at e2
  have hhi4:zS (u4.drop (j+n+1))=0:=by
    rw [zal (u:=u2.set (j+n) (u2.getD (j+n) 0 - bo - ca+1000000000)) hb.len (fun i hi=>hb.far i Oo),zal (u:=u2) (by simp) (fun i hi=>getD_set_ne Oo _)];exact hhi2
  have s4:=zcz hlen4 hhi4
  have t4:=jV hb.ok (j+n)
  have hk:=yZ (u4.getD (j+n) 0+c) 1000000000
  have hk0:=yaz (u4.getD (j+n) 0+c) (show (1000000000:Int)≠0 by decide)
  have hk1:=yaj (u4.getD (j+n) 0+c) (show (0:Int)<1000000000 by decide)
  have hset:zS (u4.set (j+n) ((u4.getD (j+n) 0+c)%1000000000))=zS u4+pw (j+n)*((u4.getD (j+n) 0+c)%1000000000 - u4.getD (j+n) 0):=VI _ hlen4
  have hbig:(b:Int)<pw n:=by rw [← hn];exact Ql b
  have hbw:pw j*(b:Int)<pw (j+n):=by rw [WL];exact Int.mul_lt_mul_of_pos_left hbig (ZB j)
  -- the last group overflows
  have hco:(u4.getD (j+n) 0+c) / 1000000000=1:=by
    have hq:(u4.getD (j+n) 0+c) / 1000000000=0∨(u4.getD (j+n) 0+c) / 1000000000=1:=Oo
    rcases hq with hq|hq
    · exfalso
      have hy2:u4.getD (j+n) 0+c≤999999999:=Oo
      have m1:pw (j+n)*(u4.getD (j+n) 0+c)≤pw (j+n)*999999999:=yt hy2 (yQ hp)
      rw [yah] at m1
      have m2:pw (j+n)*(u2.getD (j+n) 0 - bo - ca+1000000000 - u2.getD (j+n) 0)=pw (j+n)*1000000000 - pw (j+n)*(bo+ca):=Og
      rw [m2] at e4
      omega
    · exact hq
  have he:zS (u4.set (j+n) ((u4.getD (j+n) 0+c)%1000000000))=zS u - pw j*((g - 1)*(b:Int)):=by
    rw [hset,e4,e2]
    have hr:(u4.getD (j+n) 0+c)%1000000000=u4.getD (j+n) 0+c - 1000000000:=Oo
    rw [hr]
    grind
  refine h.next (by rw [yr,hb.len,yr,hm.len,h.ul]) (QW hb.ok hk0 hk1) ⟨Oo,Oo⟩ he ?_
  rw [he]
  have e:pw j*((g - 1)*(b:Int))=pw j*(g*(b:Int)) - (b:Int)*pw j:=Og
  omega
theorem LgI.start {M n a b:Nat} {u:List Int} (ho:Qk u) (hl:u.length=M) (hv:zS u=(a:Int)) (hn:(zd b).length=n) (hM:n+1≤M) (hu:zS u<pw (M - 1)) (h1:1≤n):LgI M n (a:Int) (b:Int) (M - n) u []:=by
  refine ⟨hl,ho,by simp,QU,Oo,by rw [hv];simp [zS],?_⟩
  have h2:pw (n - 1)≤(b:Int):=zcs Oo
  have h3:pw (M - 1)=pw (n - 1)*pw (M - n):=by rw [← WL];congr 1;omega
  have h4:pw (n - 1)*pw (M - n)≤(b:Int)*pw (M - n):=jF (yQ (ZB _)) h2
  omega
theorem LgI.fin {M n a b:Nat} {u qs:List Int} (h:LgI M n (a:Int) (b:Int) 0 u qs) (hn:(zd b).length=n):vP qs=zd (a / b)∧vP (u.take n)=zd (a%b):=by
  have e:=h.eq;have hlt:=h.lt
  rw [VA,Int.mul_one] at e hlt
  have h0:=qV h.uo;have hq0:=qV h.qo
  have hu:zS u=((a%b:Nat):Int):=by
    rw [Int.natCast_emod,←e,Int.add_mul_emod_self_left,Int.emod_eq_of_lt h0 hlt]
  have hq:zS qs=((a / b:Nat):Int):=by
    rw [ybp,←e,Int.add_mul_ediv_left _ _ Oo,yam h0 hlt];omega
  refine ⟨JR h.qo hq,JR (V9 h.uo n) ?_⟩
  have h1:=h.jle
  have hc:=QC u n (by rw [h.ul];omega)
  have hz:zS (u.drop n)=0:=zdH h.uo (by have:=Ql b;rw [hn] at this;omega)
  rw [hz,Int.mul_zero,Int.add_zero] at hc
  rw [← hc,hu]
def fq (x y:Int):Int:=if 0<y then x / y else (-x) / (-y)
def fr (x y:Int):Int:=x - y*fq x y
theorem zjy {x y q r:Int} (h:x=y*q+r) (h0:0≤r) (h1:r<y):x / y=q:=by
  rw [h,Int.add_comm,Int.add_mul_ediv_left _ _ Oo,yam h0 h1];omega
theorem zdI {x y q r:Int} (h:x=y*q+r) (hr:(0<y∧0≤r∧r<y)∨(y<0∧y<r∧r≤0)):fq x y=q∧fr x y=r:=by
  have e:fq x y=q:=by
    unfold fq
    rcases hr with ⟨h1,h2,h3⟩|⟨h1,h2,h3⟩
    · rw [if_pos h1];exact zjy h h2 h3
    · rw [if_neg Oo]
      exact zjy (r:= -r) (by rw [h,Int.neg_mul];omega) Oo Oo
  refine ⟨e,?_⟩
  unfold fr;rw [e];omega
theorem za3 (x y:Int):(x.natAbs:Int)=(y.natAbs:Int)*((x.natAbs / y.natAbs:Nat):Int)+((x.natAbs%y.natAbs:Nat):Int):=by
  rw [← yH,←Int.natCast_add,Nat.div_add_mod]
theorem zf3 (n:Int):sg true n= -n:=rfl
theorem zps (n:Int):sg false n=n:=rfl
theorem zam {x y:Int} (hy:y≠0) (h:decide (x<0)=decide (y<0)):sg false ((x.natAbs / y.natAbs:Nat):Int)=fq x y∧sg (decide (y<0)) ((x.natAbs%y.natAbs:Nat):Int)=fr x y:=by
  have e:=za3 x y
  have hlt:=yax x.natAbs (show 0<y.natAbs by omega)
  generalize x.natAbs / y.natAbs=q at*
  generalize x.natAbs%y.natAbs=r at*
  rw [zps]
  by_cases hy0:y<0
  · have hx : x < 0 := by simpa [hy0] using h
    rw [decide_eq_true hy0,zf3]
    have:=zdI (x:=x) (y:=y) (q:=(q:Int)) (r:= -(r:Int)) (by
      have h1:(y.natAbs:Int)= -y:=Oo
      rw [h1,Int.neg_mul] at e;omega) (.inr Oo)
    exact ⟨this.1.symm,this.2.symm⟩
  · have hx : ¬ x < 0 := by simpa [hy0] using h
    rw [decide_eq_false hy0,zps]
    have:=zdI (x:=x) (y:=y) (q:=(q:Int)) (r:=(r:Int)) (by
      have h1:(y.natAbs:Int)=y:=Oo
      rw [h1] at e;omega) (.inl Oo)
    exact ⟨this.1.symm,this.2.symm⟩
theorem zez {x y:Int} (hy:y≠0) (h:¬decide (x<0)=decide (y<0)) (hr:x.natAbs%y.natAbs=0):sg true ((x.natAbs / y.natAbs:Nat):Int)=fq x y∧sg (decide (y<0)) ((x.natAbs%y.natAbs:Nat):Int)=fr x y:=by
  have e:=za3 x y
  rw [hr] at e ⊢
  generalize x.natAbs / y.natAbs=q at*
  rw [zf3,show sg (decide (y<0)) ((0:Nat):Int)=0 from zah _]
  have hs:x=y*(-(q:Int))+0:=by
    rw [Int.mul_neg]
    by_cases hy0:y<0
    · have hx : ¬ x < 0 := by simpa [hy0] using h
      have h1:(y.natAbs:Int)= -y:=Oo
      rw [h1,Int.neg_mul] at e;omega
    · have hx : x < 0 := by simpa [hy0] using h
      have h1:(y.natAbs:Int)=y:=Oo
      rw [h1] at e;omega
  have:=zdI hs Oo
  exact ⟨this.1.symm,this.2.symm⟩
theorem zeA {x y:Int} (hy:y≠0) (h:¬decide (x<0)=decide (y<0)) (hr:x.natAbs%y.natAbs≠0):sg true ((x.natAbs / y.natAbs+1:Nat):Int)=fq x y∧sg (decide (y<0)) ((y.natAbs - x.natAbs%y.natAbs:Nat):Int)=fr x y:=by
  have e:=za3 x y
  have hlt:=yax x.natAbs (show 0<y.natAbs by omega)
  generalize x.natAbs / y.natAbs=q at*
  generalize x.natAbs%y.natAbs=r at*
  rw [zf3]
  by_cases hy0:y<0
  · have hx : ¬ x < 0 := by simpa [hy0] using h
    rw [decide_eq_true hy0,zf3]
    have:=zdI (x:=x) (y:=y) (q:= -((q+1:Nat):Int)) (r:= -((y.natAbs - r:Nat):Int)) (by
      have h1:(y.natAbs:Int)= -y:=Oo
      rw [h1,Int.neg_mul] at e
      rw [Int.mul_neg,Int.natCast_add,yah];omega) (.inr Oo)
    exact ⟨this.1.symm,this.2.symm⟩
  · have hx : x < 0 := by simpa [hy0] using h
    rw [decide_eq_false hy0,zps]
    have:=zdI (x:=x) (y:=y) (q:= -((q+1:Nat):Int)) (r:=((y.natAbs - r:Nat):Int)) (by
      have h1:(y.natAbs:Int)=y:=Oo
      rw [h1] at e
      rw [Int.mul_neg,Int.natCast_add,yah];omega) (.inl Oo)
    exact ⟨this.1.symm,this.2.symm⟩
theorem zdJ {x y:Int} (h:0<y):fq x y=x / y∧fr x y=x%y:=by
  have e:fq x y=x / y:=by unfold fq;rw [if_pos h]
  refine ⟨e,?_⟩
  unfold fr;rw [e]
  have:=yZ x y;omega
theorem zan {a b:Nat}:yE b (a%b)=yE a b:=by rw [Nat.gcd_comm b,←Nat.gcd_rec,Nat.gcd_comm]
theorem Za {a b:Nat} (h:a≤b):(zd a).length≤(zd b).length:=by
  refine QV ?_
  have:=Ql b;omega
theorem WQ {a s:Nat} (h:1≤s):(zd a).length≤(zd (a*s)).length:=Za (Nat.le_mul_of_pos_right a h)
theorem zcA (a s:Nat):(zd (a*s)).length≤(zd a).length+(zd s).length:=by
  refine QV ?_
  rw [yH,WL]
  have h1:(a:Int)*s≤pw (zd a).length*s:=yV (yQ (Ql a)) Oo
  have h2:pw (zd a).length*(s:Int)<pw (zd a).length*pw (zd s).length:=Int.mul_lt_mul_of_pos_left (Ql s) (ZB _)
  omega
theorem zdK {b n:Nat} (hn:(zd b).length=n+1) {s:Nat} (hs:s=(1000000000 / ((zd b).getD n 0+1)).toNat):1≤s∧s≤500000000∧(zd (b*s)).length=n+1:=by
  have ht:=zak hn
  have ho:=qC (qG b) n
  have h1:1≤1000000000 / ((zd b).getD n 0+1):=by
    refine Int.le_ediv_of_mul_le Oo Oo
  have h2:1000000000 / ((zd b).getD n 0+1)≤500000000:=by
    refine Int.ediv_le_of_le_mul Oo Oo
  have hs1:(s:Int)=1000000000 / ((zd b).getD n 0+1):=by rw [hs];exact ybb Oo
  refine ⟨Oo,Oo,?_⟩
  have hge:=WQ (a:=b) (s:=s) Oo
  have hle:(zd (b*s)).length≤n+1:=by
    refine QV ?_
    have hv:=qE b
    have hc:=QC (zd b) n Oo
    have hd:zS ((zd b).drop n)=(zd b).getD n 0:=by rw [vV,yu Oo];simp [zS]
    have hl:=jV (qG b) n
    rw [hd] at hc
    have hp:=ZB n
    have hb:(b:Int)<((zd b).getD n 0+1)*pw n:=by rw [yba,yK _ (pw n)];omega
    have hm:((zd b).getD n 0+1)*(s:Int)≤1000000000:=by rw [hs1];exact Int.mul_ediv_self_le Oo
    rw [yH,jy]
    have h3:(b:Int)*s<((zd b).getD n 0+1)*pw n*s:=Int.mul_lt_mul_of_pos_right hb Oo
    have h4:((zd b).getD n 0+1)*pw n*s=((zd b).getD n 0+1)*s*pw n:=by ac_rfl
    have h5:((zd b).getD n 0+1)*(s:Int)*pw n≤1000000000*pw n:=jF (yQ hp) hm
    omega
  omega
theorem zdL {a b s:Nat} (hs:1≤s):a*s / (b*s)=a / b∧a*s%(b*s) / s=a%b:=by
  refine ⟨Nat.mul_div_mul_right a b Oo,?_⟩
  rw [Nat.mul_mod_mul_right,Nat.mul_div_cancel _ Oo]
theorem zcB {s:Nat} (h1:1≤s) (h2:s<1000000000):zd s=[(s:Int)]:=by
  rw [QA Oo,ybq h2,ybr h2,jE]
theorem zmq {g x:Int} (h0:0≤g) (h1:g≤2000000000) (h2:0≤x) (h3:x<1000000000):0≤g*x∧g*x≤2000000000000000000:=by
  have a:=yap h0 h2
  have b:g*x≤2000000000*x:=jF h2 h1
  omega
theorem zdM {b:Nat} (h:(zd b).length=1):(zd b).getD 0 0=(b:Int):=by
  have h1:=QC (zd b) 0 (Nat.zero_le _)
  have h2:=vV (zd b) 0
  rw [yu (show (zd b).length≤0+1 by omega)] at h2
  rw [qE,h2] at h1
  simp [zS,VA] at h1;exact h1.symm
theorem zhJ {b:Nat} (h:0<b):1≤(zd b).length:=by
  refine Nat.pos_of_ne_zero fun e=> ?_
  have:=Ze.1 e;omega
theorem KL {a:Nat} (h:(zd a).length≤2):a<1000000000000000000:=by
  have h1:=Ql a
  have h2:=VB h
  have:pw 2=1000000000000000000:=Od
  omega
theorem zkR {A:List Int} (k:Nat):zS (A.drop (k+1))*1000000000+A.getD k 0=zS (A.drop k):=by rw [vV A k];omega
theorem zkS {a k:Nat} {z:Int} (h:k+1≤(zd a).length) (hz:z=zS ((zd a).drop (k+1))):(z*1000000000+(zd a).getD k 0)*pw k≤(a:Int):=by
  have h1:=QC (zd a) k Oo
  rw [qE,vV,←hz] at h1
  have h2:=jV (qG a) k
  have:(z*1000000000+(zd a).getD k 0)*pw k=pw k*((zd a).getD k 0+1000000000*z):=Og
  omega
theorem zmr {a k:Nat} {z:Int} (hl:(zd a).length≤2) (h:k+1≤(zd a).length) (h0:0≤z) (hp:z*pw (k+1)≤(a:Int)):z<1000000000:=by
  have h1:=KL hl
  have h2:=VB (show 1≤k+1 by omega)
  have h3:pw 1=1000000000:=Od
  refine yA fun hc=> ?_
  have h4:1000000000*pw (k+1)≤z*pw (k+1):=jF (yQ (ZB _)) Oo
  omega
theorem zt3 (x y:Int): -1≤cmp x y∧cmp x y≤1:=by unfold cmp;split <;> (try split) <;> decide
theorem zhK {x y u v:Int} (h1:x<y↔u<v) (h2:y<x↔v<u):cmp x y=cmp u v:=by
  unfold cmp;simp only [h1,h2]
theorem zms (x y:Int): - cmp x y=cmp y x:=by
  unfold cmp
  by_cases h1:x<y
  · rw [if_pos h1,if_neg Oo,if_pos h1];rfl
  · by_cases h2 : y < x
    · rw [if_neg h1,if_pos h2,if_pos h2]
    · rw [if_neg h1,if_neg h2,if_neg h2,if_neg h1];rfl
theorem VD {x:Int}:(x<0∧x.sign= -1)∨(x=0∧x.sign=0)∨(0<x∧x.sign=1):=by
  rcases ybj x 0 with h|h|h
  · exact .inl ⟨h,yS h⟩
  · exact .inr (.inl ⟨h,by rw [h];rfl⟩)
  · exact .inr (.inr ⟨h,yw h⟩)
theorem zkT {x y:Int} (h:x.sign≠y.sign):cmp x y=cmp x.sign y.sign:=by
  have h1:=VD (x:=x);have h2:=VD (x:=y)
  exact zhK Oo Oo
theorem cmp_neg {x y:Int} (h:¬x.sign≠y.sign) (hx:x<0):cmp x y= - cmp (x.natAbs:Int) (y.natAbs:Int):=by
  have h1:=VD (x:=x);have h2:=VD (x:=y)
  rw [zms];exact zhK Oo Oo
theorem zpt {x y:Int} (h:¬x.sign≠y.sign) (hx:¬x<0):cmp x y=cmp (x.natAbs:Int) (y.natAbs:Int):=by
  have h1:=VD (x:=x);have h2:=VD (x:=y)
  exact zhK Oo Oo
structure ScI (A:List Int) (d:Int) (i:Nat) (os:List Int) (cy:Int):Prop where
  le:i≤A.length
  len:os.length=i
  ok:Qk os
  c0:0≤cy
  c1:cy<1000000000
  val:zS os+pw i*cy=zS (A.take i)*d
theorem ScI.start (A:List Int) (d:Int):ScI A d 0 [] 0:=⟨Nat.zero_le _,rfl,QU,Od,Od,by simp [zS]⟩
theorem zmt {x d cy:Int} (hx:0≤x∧x<1000000000) (hd:0≤d∧d<1000000000) (hc:0≤cy∧cy<1000000000):0≤x*d∧x*d+cy<1000000000000000000∧0≤(x*d+cy) / 1000000000∧(x*d+cy) / 1000000000<1000000000:=by
  have:=zbT hx hd;omega
theorem ScI.step {A:List Int} {d:Int} {i:Nat} {os:List Int} {cy:Int} (h:ScI A d i os cy) (hA:Qk A) (hd:0≤d∧d<1000000000) (hi:i<A.length):
    ScI A d (i+1) (os++[(A.getD i 0*d+cy)%1000000000]) ((A.getD i 0*d+cy) / 1000000000):=by
  have hl:=zmt (qC hA i) hd ⟨h.c0,h.c1⟩
  refine ⟨Oo,by simp [h.len],Qz h.ok Oo Oo,hl.2.2.1,hl.2.2.2,?_⟩
  rw [QN,h.len,jA,jy]
  have e:=h.val
  have hs:(A.getD i 0*d+cy)=1000000000*((A.getD i 0*d+cy) / 1000000000)+(A.getD i 0*d+cy)%1000000000:=Oo
  generalize (A.getD i 0*d+cy) / 1000000000=q at*
  generalize (A.getD i 0*d+cy)%1000000000=r at*
  have h2:pw i*(A.getD i 0*d+cy)=pw i*(1000000000*q+r):=by rw [hs]
  generalize A.getD i 0=x at*
  generalize zS os=a at*
  generalize zS (A.take i)=b at*
  generalize pw i=p at*
  grind
theorem ScI.fin {a d i:Nat} {os:List Int} {cy:Int} (h:ScI (zd a) (d:Int) i os cy) (hi:(zd a).length≤i):Qk (os++[cy])∧zS (os++[cy])=((a*d:Nat):Int):=by
  refine ⟨Qz h.ok h.c0 h.c1,?_⟩
  rw [QN,h.len,h.val,yF hi,qE,yH]
theorem zmu {a:Nat} (h:(zd a).length≤2):(zd a).getD 1 0*1000000000+(zd a).getD 0 0=(a:Int):=by
  have h0:=vV (zd a) 0
  have h1:=vV (zd a) 1
  rw [List.drop_zero,qE] at h0
  have h2:zS ((zd a).drop 2)=0:=by rw [yu h];rfl
  simp only [ybf,Nat.reduceAdd] at h0 h1
  omega
theorem zpu {u:Nat} (h:u<1000000000000000000):Qk [((u%1000000000:Nat):Int),((u / 1000000000:Nat):Int)]∧zS [((u%1000000000:Nat):Int),((u / 1000000000:Nat):Int)]=(u:Int):=by
  refine ⟨Qa.2 ⟨Oo,Qa.2 ⟨Oo,QU⟩⟩,?_⟩
  simp only [zS];omega
theorem zdN (A:List Int) (k:Nat):zS A=zS (A.take k)+pw k*zS (A.drop k):=by
  by_cases h:k≤A.length
  · exact QC A k h
  · rw [yu Oo,yF Oo];simp [zS]
structure PtI (A V:Nat) (j:Nat) (qs:List Int) (R:Nat):Prop where
  le:j≤(zd A).length
  ok:Qk qs
  val:zS ((zd A).drop j)=zS qs*V+R
  lt:R<V
theorem PtI.start {A V n j R:Nat} (hV:(zd V).length=n+1) (hj:j+n=(zd A).length) (hR:zS ((zd A).drop j)=(R:Int)):PtI A V j [] R:=by
  refine ⟨Oo,QU,by rw [hR];simp [zS],?_⟩
  have h1:=Ju (QD (qG A) j)
  rw [hR,ybo,show (zd A).length - j=n by omega] at h1
  have h2:=zcs (k:=n) (n:=V) Oo
  omega
theorem zmv {V R d:Nat} (h:R<V) (hd:d<1000000000):R*1000000000+d<V*1000000000:=Oo
theorem PtI.step {A V j:Nat} {qs:List Int} {R d g r:Nat} (h:PtI A V (j+1) qs R) (hd:(zd A).getD j 0=(d:Int)) (hg:r+V*g=R*1000000000+d) (hr:r<V):PtI A V j ((g:Int) :: qs) r:=by
  have hd1:=qC (qG A) j
  have hgl:g<1000000000:=by
    have h1:=zmv h.lt (show d<1000000000 by omega)
    exact yaf (a:=V) Oo
  refine ⟨Nat.le_of_succ_le h.le,Qa.2 ⟨Oo,h.ok⟩,?_,hr⟩
  rw [vV,h.val,hd]
  simp only [zS]
  have hg2:(r:Int)+(V:Int)*(g:Int)=(R:Int)*1000000000+(d:Int):=by
    rw [← yH];omega
  generalize zS qs=q at*
  grind
theorem zmw {W V m d:Nat} (hW:W<V*1000000000) (hV:(zd V).length=m+1) (hd:(d:Int)=((zd W).getD (m+1) 0*1000000000+(zd W).getD m 0) / ((zd V).getD m 0+1)):V*d≤W∧d<1000000000:=by
  have hw:=zdN (zd W) m
  have hv:=zdN (zd V) m
  rw [qE] at hw hv
  have h1:=vV (zd W) m
  have h2:=vV (zd W) (m+1)
  have h3:=qV (QD (qG W) (m+1+1))
  have h4:=vV (zd V) m
  rw [yu (by omega:(zd V).length≤m+1)] at h4
  have h5:=jV (qG W) m
  have h6:=jV (qG V) m
  have h7:=qC (qG V) m
  have hp:=ZB m
  have h8:zS ([]:List Int)=0:=rfl
  have h9:=Int.mul_ediv_self_le (x:=(zd W).getD (m+1) 0*1000000000+(zd W).getD m 0) (k:=(zd V).getD m 0+1) Oo
  rw [← hd] at h9
  have key:(V:Int)*(d:Int)≤(W:Int):=by
    have a1:(V:Int)≤((zd V).getD m 0+1)*pw m:=by
      rw [h8,Int.mul_zero,Int.add_zero] at h4;rw [hv,h4,yba,ybm,yK (pw m)];omega
    have a2:((zd W).getD (m+1) 0*1000000000+(zd W).getD m 0)*pw m≤(W:Int):=by
      have:(zd W).getD (m+1) 0*1000000000+(zd W).getD m 0≤zS ((zd W).drop m):=Oo
      have:=jF (yQ hp) this
      rw [yK (zS _)] at this;omega
    have a3:=jF (w:=(d:Int)) Oo a1
    have a4:=jF (yQ hp) h9
    have a5:((zd V).getD m 0+1)*pw m*(d:Int)=((zd V).getD m 0+1)*(d:Int)*pw m:=Og
    omega
  have k2:V*d≤W:=by rw [← yH] at key;omega
  exact ⟨k2,yaf (a:=V) Oo⟩
theorem PtI.fin {A V:Nat} {qs:List Int} {R:Nat} (h:PtI A V 0 qs R):zS qs=((A / V:Nat):Int)∧R=A%V:=by
  have h0:=h.val
  rw [List.drop_zero,qE] at h0
  have hn:=qV h.ok
  have hl:=h.lt
  obtain ⟨q,hq⟩:∃q:Nat,zS qs=(q:Int):=⟨(zS qs).toNat,Oo⟩
  rw [hq,←yH] at h0
  have h1:A=R+V*q:=by rw [Nat.mul_comm];omega
  rw [hq,h1,Nat.add_mul_div_left _ _ Oo,ybr hl,Nat.add_mul_mod_self_left,ybq hl]
  simp
theorem zpv {W V m:Nat} (hW:W<V*1000000000) (hV:(zd V).length=m+1):(zd W).length≤m+2:=by
  refine QV ?_
  have h1:=Ql V
  rw [hV] at h1
  rw [jy];omega
theorem zf4 {l:List Int} {n:Nat} (ho:Qk l) (h:zS l=(n:Int)):(sg false (zS l)).natAbs=n:=by
  rw [KI (qV ho),h];exact ybk _
theorem zf5 {x y:Int} (hy:y≠0):ln (fq x y)≤ln x+2:=by
  have key:(fq x y).natAbs≤x.natAbs+1:=by
    have hd:=ybc x.natAbs y.natAbs
    by_cases h:decide (x<0)=decide (y<0)
    · rw [← (zam hy h).1,zps,yO];omega
    · by_cases hr : x.natAbs % y.natAbs = 0
      · rw [← (zez hy h hr).1,zf3,yag,yO];omega
      · rw [← (zeA hy h hr).1,zf3,yag,yO];omega
  unfold ln
  have h1:=Za key
  have h2:=zjw x.natAbs 1
  have h3:(zd 1).length=1:=Od
  omega
abbrev RQ:=(Bool×List Int)×(Bool×List Int)
def qok (x:RQ):Prop:=canon x.1.1 x.1.2∧canon x.2.1 x.2.2∧0<raw x.2.1 x.2.2∧yE (raw x.1.1 x.1.2).natAbs (raw x.2.1 x.2.2).natAbs=1
instance (x:RQ):Decidable (qok x):=inferInstanceAs (Decidable (_∧_))
def qv (x:RQ):Rat:=if qok x then yP (raw x.1.1 x.1.2) (raw x.2.1 x.2.2) else 0
theorem VT {n d:Int} (hd:d≠0):(yP n d).num=d.sign*n / (yE n.natAbs d.natAbs:Nat)∧((yP n d).den:Int)=((d.natAbs / yE n.natAbs d.natAbs:Nat):Int):=by
  rw [Rat.num_divInt,Rat.den_divInt,if_neg hd]
  have:Int.gcd d n=yE n.natAbs d.natAbs:=by unfold Int.gcd;rw [Nat.gcd_comm]
  rw [this];exact ⟨rfl,rfl⟩
theorem VJ {x:RQ} (h:qok x):(qv x).num=raw x.1.1 x.1.2∧((qv x).den:Int)=raw x.2.1 x.2.2:=by
  unfold qv;rw [if_pos h]
  obtain ⟨_,_,h3,h4⟩:=h
  obtain ⟨e1,e2⟩:=VT (n:=raw x.1.1 x.1.2) (d:=raw x.2.1 x.2.2) Oo
  rw [e1,e2,h4,yw h3]
  refine ⟨by simp,by rw [Nat.div_one];omega⟩
theorem zeB {x:RQ} (h:¬qok x):qv x=0:=by unfold qv;rw [if_neg h]
def rq (q:Rat):RQ:=((decide (q.num<0),zd q.num.natAbs),(decide ((q.den:Int)<0),zd (q.den:Int).natAbs))
theorem zrq (q:Rat):qok (rq q):=by
  refine ⟨Ja _,Ja _,?_,?_⟩
  · simp only [rq];rw [vl];have:=q.den_pos;omega
  · simp only [rq];rw [vl,vl,yO];exact q.reduced
theorem rq_v (q:Rat):qv (rq q)=q:=by
  obtain ⟨h1,h2⟩:=VJ (zrq q)
  refine Rat.ext ?_ ?_
  · rw [h1];simp only [rq];rw [vl]
  · have : ((qv (rq q)).den : Int) = (q.den : Int) := by rw [h2]; simp only [rq]; rw [vl]
    omega
def hq (q:Rat):Nat:=max (ln q.num) (ln (q.den:Int))
theorem v9 (q:Rat):ln q.num≤hq q:=Nat.le_max_left _ _
theorem jm (q:Rat):ln (q.den:Int)≤hq q:=Nat.le_max_right _ _
theorem Zr {n d:Int} (hd:d≠0):hq (yP n d)≤max (ln n) (ln d):=by
  obtain ⟨e1,e2⟩:=VT (n:=n) hd
  unfold hq
  rw [e1,e2]
  have h1:ln (d.sign*n / (yE n.natAbs d.natAbs:Nat))≤ln n:=by
    refine zag ?_
    refine yY (Int.natAbs_ediv_le_natAbs _ _) ?_
    rw [Int.natAbs_mul,Int.natAbs_sign_of_ne_zero hd,Nat.one_mul];exact yJ _
  have h2:ln ((d.natAbs / yE n.natAbs d.natAbs:Nat):Int)≤ln d:=by
    refine zag ?_
    rw [yO];exact ybc _ _
  omega
theorem ZJ (q:Rat):(q.den:Int)≠0:=by have:=q.den_pos;omega
theorem za4 (x y:Rat):x+y=yP (x.num*y.den+y.num*x.den) (x.den*y.den):=by
  rw [Rat.add_def',←yH,ybs]
theorem za5 (x y:Rat):x*y=yP (x.num*y.num) (x.den*y.den):=by
  rw [Rat.mul_def',←yH,ybs]
theorem za6 {x y:Rat} (hy:y.num≠0):x / y=yP (x.num*y.den) (x.den*y.num):=by
  rw [Rat.div_def,Rat.inv_def,←Rat.num_divInt_den x,Rat.divInt_mul_divInt,Rat.num_divInt_den]
theorem QX (x y:Rat):hq (x+y)≤hq x+hq y+1:=by
  rw [za4]
  refine yY (Zr (Int.mul_ne_zero (ZJ x) (ZJ y))) ?_
  have h1:=QJ (x.num*y.den) (y.num*x.den)
  have h2:=qI x.num y.den;have h3:=qI y.num x.den;have h4:=qI x.den y.den
  have a:=v9 x;have b:=jm x;have c:=v9 y;have d:=jm y
  omega
theorem jB (x y:Rat):hq (x*y)≤hq x+hq y:=by
  rw [za5]
  refine yY (Zr (Int.mul_ne_zero (ZJ x) (ZJ y))) ?_
  have h2:=qI x.num y.num;have h4:=qI x.den y.den
  have a:=v9 x;have b:=jm x;have c:=v9 y;have d:=jm y
  omega
theorem zhL {y:Rat} (h:y≠0):y.num≠0:=fun e=>h (ybd.1 e)
theorem Qs (x:Rat) {y:Rat} (hy:y≠0):hq (x / y)≤hq x+hq y:=by
  rw [za6 (zhL hy)]
  refine yY (Zr (Int.mul_ne_zero (ZJ x) (zhL hy))) ?_
  have h2:=qI x.num y.den;have h4:=qI x.den y.num
  have a:=v9 x;have b:=jm x;have c:=v9 y;have d:=jm y
  omega
theorem KN (x:Rat):hq (-x)=hq x:=by unfold hq;rw [Rat.neg_num,Rat.neg_den,j6]
theorem KO (x y:Rat):hq (x - y)≤hq x+hq y+1:=by
  rw [Rat.sub_eq_add_neg];have:=QX x (-y);rw [KN] at this;exact this
theorem zhM:ln 1=1:=Od
theorem zcC (z:Int):hq (z:Rat)≤max (ln z) 1:=by
  unfold hq;rw [Rat.num_intCast,Rat.den_intCast];exact Nat.le_of_eq (by rw [show ((1:Nat):Int)=1 from rfl,zhM])
theorem vN:hq 0=1:=Od
theorem zeC:hq 1=1:=Od
theorem KP (q:Rat):1≤hq q:=by
  have h:=jm q
  have h1:1≤ln (q.den:Int):=by
    refine yA fun hc=> ?_
    have h2:=zct (q.den:Int)
    rw [show ln (q.den:Int)=0 by omega] at h2
    have:pw 0=1:=rfl
    have:=q.den_pos;omega
  omega
theorem zmx {z:Int} (h1: -9223372036854775808≤z) (h2:z≤9223372036854775807):hq (z:Rat)≤3:=by
  have:=zdE h1 h2;have:=zcC z;omega
theorem ZD {n d:Int} (hd:d≠0):0<yE n.natAbs d.natAbs:=Nat.gcd_pos_of_pos_right _ Oo
theorem zcD {x y q:Int} (hy:y≠0) (h:x=y*q):fq x y=q:=(zdI (r:=0) Oo Oo).1
theorem zeD {n d:Int} (hd:0<d):fq n (yE n.natAbs d.natAbs:Nat)=(yP n d).num∧fq d (yE n.natAbs d.natAbs:Nat)=((yP n d).den:Int):=by
  obtain ⟨e1,e2⟩:=VT (n:=n) (d:=d) Oo
  have hg:=ZD (n:=n) (d:=d) Oo
  rw [e1,e2,yw hd,ybm]
  rw [(zdJ (x:=n) (y:=(yE n.natAbs d.natAbs:Nat)) Oo).1,(zdJ (x:=d) (y:=(yE n.natAbs d.natAbs:Nat)) Oo).1]
  refine ⟨rfl,?_⟩
  rw [ybp,Int.natAbs_of_nonneg Oo]
theorem zf6 {n d:Int} (hd:d<0):fq (-n) (yE (-n).natAbs (-d).natAbs:Nat)=(yP n d).num∧fq (-d) (yE (-n).natAbs (-d).natAbs:Nat)=((yP n d).den:Int):=by
  have:=zeD (n:= -n) (d:= -d) Oo
  rw [Rat.neg_divInt_neg] at this;exact this
theorem zdP (x y:Int) (hy:y≠0):fq x (-y)=fq (-x) y:=by
  unfold fq
  by_cases h:0<y
  · rw [if_neg Oo,if_pos h,Int.neg_neg]
  · rw [if_pos Oo,if_neg h,Int.neg_neg]
theorem zpw {n d:Int} (hd:d<0):fq n (-(yE n.natAbs d.natAbs:Nat))=(yP n d).num∧fq d (-(yE n.natAbs d.natAbs:Nat))=((yP n d).den:Int):=by
  have hg:=ZD (n:=n) (d:=d) Oo
  rw [zdP _ _ Oo,zdP _ _ Oo]
  have:=zf6 (n:=n) hd
  rw [yag,yag] at this;exact this
def Zv (q:Rat):Int:=q.num.sign
theorem zjz (a b:Int):cmp a b=(a - b).sign:=by
  unfold cmp
  split
  · rw [yS Oo]
  · split
    · rw [yw Oo]
    · rw [show a - b=0 by omega];rfl
theorem zf7 {n d:Int} (hd:0<d):(yP n d).num.sign=n.sign:=by
  obtain ⟨e1,_⟩:=VT (n:=n) (d:=d) Oo
  have hg:=ZD (n:=n) (d:=d) Oo
  rw [e1,yw hd,ybm]
  have hdv:((yE n.natAbs d.natAbs:Nat):Int)∣n:=Int.ofNat_dvd_left.2 (Nat.gcd_dvd_left _ _)
  obtain ⟨k,hk⟩:=hdv
  generalize yE n.natAbs d.natAbs=g at*
  rw [hk,Int.mul_ediv_cancel_left _ (show (g:Int)≠0 by omega),Int.sign_mul,yw (show 0<(g:Int) by omega),ybm]
theorem zmy (x y:Rat):(x.num*y.den - y.num*x.den).sign=Zv (x - y):=by
  have:x - y=yP (x.num*y.den - y.num*x.den) (x.den*y.den):=by
    rw [Rat.sub_def',←yH,ybs]
  unfold Zv
  rw [this,zf7 (Int.mul_pos (by have:=x.den_pos;omega) (by have:=y.den_pos;omega))]
theorem zpx (x y:Rat):cmp (x.num*y.den) (y.num*x.den)=Zv (x - y):=by rw [zjz,zmy]
theorem zcE {x:Rat}:Zv x=0↔x=0:=by unfold Zv;rw [Int.sign_eq_zero_iff_zero,ybd]
theorem zeE {x y:Rat}:Zv (x - y)=0↔x=y:=by
  rw [zcE]
  constructor
  · intro h;grind
  · intro h;grind
theorem QY {x:Rat}:0<Zv x↔0<x:=by
  unfold Zv
  rw [Int.sign_pos_iff]
  have h:=Rat.num_nonneg (q:=x);have h0:=ybd (q:=x)
  constructor
  · intro h1; have h2 := h.1 Oo; have h3 : x ≠ 0 := fun e => by rw [e] at h1; exact absurd h1 Od
    grind
  · intro h1
    have h2:=h.2 Og
    have h3:x.num≠0:=fun e=>by rw [h0.1 e] at h1;exact absurd h1 Od
    omega
theorem zmz (x:Rat):Zv (-x)= - Zv x:=by unfold Zv;rw [Rat.neg_num,Int.sign_neg]
theorem zeF {x:Rat}:Zv x<0↔x<0:=by
  have h:=QY (x:= -x);rw [zmz] at h
  constructor
  · intro h1;have:=h.1 Oo;grind
  · intro h1;have:=h.2 Og;omega
theorem zsi {x:Rat}:Zv x≤0↔x≤0:=by
  have h:=QY (x:=x)
  constructor
  · intro h1; have : ¬ 0 < x := fun k => by have := h.2 k; omega
    grind
  · intro h1; have : ¬ 0 < Zv x := fun k => by have := h.1 k; grind
    omega
theorem Wh (x:Rat): -1≤Zv x∧Zv x≤1:=by
  unfold Zv
  rcases ybj x.num 0 with h|h|h
  · rw [yS h];decide
  · rw [h];decide
  · rw [yw h];decide
theorem zmA {x y:Int}:cmp x y=0↔x=y:=by
  unfold cmp;split
  · omega
  · split <;> omega
theorem zjA {x:RQ} (h:canon x.1.1 x.1.2∧canon x.2.1 x.2.2∧0<raw x.2.1 x.2.2):cmp ((yE (raw x.1.1 x.1.2).natAbs (raw x.2.1 x.2.2).natAbs:Nat):Int) 1=0↔qok x:=by
  rw [zmA];exact ⟨fun e=>⟨h.1,h.2.1,h.2.2,Oo⟩,fun e=>by have:=e.2.2.2;omega⟩
theorem zmB {c d:Prop} {z:Int} (hc:c) (hd:d):z.sign≤0↔¬(c∧d∧0<z):=by
  rcases ybj z 0 with h|h|h
  · rw [yS h];exact ⟨fun _ k=>by omega,fun _=>by decide⟩
  · rw [h];exact ⟨fun _ k=>by omega,fun _=>by decide⟩
  · rw [yw h];exact ⟨fun k=>by omega,fun k=>absurd ⟨hc,hd,h⟩ k⟩
theorem zdQ {x:RQ} (h1:nn x.1.2) (h2:nn x.2.2) (h:qok x):decide ((qv x).num<0)=x.1.1∧zd (qv x).num.natAbs=x.1.2∧decide (((qv x).den:Int)<0)=x.2.1∧zd (((qv x).den:Nat):Int).natAbs=x.2.2:=by
  obtain ⟨e1,e2⟩:=VJ h
  have d1:=QB (s:=x.1.1) h1;have d2:=QB (s:=x.2.1) h2
  rw [if_pos h.1] at d1;rw [if_pos h.2.1] at d2
  rw [e1,e2]
  exact ⟨zai h1 h.1,d1,zai h2 h.2.1,d2⟩
theorem KQ {n d:Int} (hd:d≠0):ln (yE n.natAbs d.natAbs:Nat)≤ln d:=by
  refine zag ?_
  rw [yO];exact Nat.gcd_le_right _ Oo
theorem WR {n d:Int} (hd:d=0):yP n d=0:=by rw [hd,Rat.divInt_zero]
theorem zjB {x y:Rat} (hy:y=0):x / y=0:=by rw [hy,Rat.div_def,Rat.inv_zero,Rat.mul_zero]
theorem ZX {z:Int}:z.sign=0↔z=0:=Int.sign_eq_zero_iff_zero
theorem zpy {x:RQ} (h:canon x.1.1 x.1.2∧canon x.2.1 x.2.2∧0<raw x.2.1 x.2.2):(((yE (raw x.1.1 x.1.2).natAbs (raw x.2.1 x.2.2).natAbs:Nat):Int) - 1).sign=0↔qok x:=by
  rw [← zjz];exact zjA h
theorem zf8 (x y:Rat):(x.den:Int)*y.num=0↔y=0:=by
  constructor
  · intro h; rcases Int.mul_eq_zero.1 h with e | e
    · exact absurd e (ZJ x)
    · exact ybd.1 e
  · intro h;rw [h];simp
theorem zpz (x y:Rat):x / y=yP (x.num*y.den) (x.den*y.num):=by
  by_cases h:y=0
  · rw [zjB h,WR ((zf8 x y).2 h)]
  · exact za6 (zhL h)
end Big
namespace Sp
open Go
def Wd.raw (g:Hp) (w:Wd) (x:Bool×List Int):Prop:=w.s=x.1∧w.n=x.2.length∧x.2.length≤1099511627776∧Sl (rI .u32) g w.p w.c x.2
theorem Wd.raw_mono {g g':Hp} {w:Wd} {x:Bool×List Int} (h:g.le g') (k:w.raw g x):w.raw g' x:=⟨k.1,k.2.1,k.2.2.1,k.2.2.2.mono h⟩
def qF (c:Bool) (u v:Wd) (q:Rat):Fa:=⟨fun g=>∃x:Big.RQ,u.raw g x.1∧v.raw g x.2∧Big.qv x=q∧(c=true→Big.qok x),fun _ _ h ⟨x,a,b,d⟩=>⟨x,Wd.raw_mono h a,Wd.raw_mono h b,d⟩⟩
theorem Sl.nn {g:Hp} {p:Option Addr} {c:Nat} {l:List Int} (h:Sl (rI .u32) g p c l):yn l:=fun d hd=>by
  obtain ⟨j,hj⟩:=List.getElem?_of_mem hd
  obtain ⟨_,_,_,_,_,e⟩:=h.2.2.2 j d hj
  exact (zO.1 e).1
theorem Wd.raw_is {g:Hp} {w:Wd} {x:Bool×List Int} (h:w.raw g x) (hc:Big.canon x.1 x.2):w.is g (yd x.1 x.2):=by
  have hn:=h.2.2.2.nn
  have hd:=Big.QB (s:=x.1) hn
  rw [if_pos hc] at hd
  exact ⟨h.1.trans (Big.zai hn hc).symm,by rw [hd];exact h.2.1,by rw [hd];exact h.2.2.2⟩
theorem Wd.is_raw {g:Hp} {w:Wd} {z:Int} (h:w.is g z) (hl:yg z≤1099511627776):w.raw g (decide (z<0),ya z.natAbs):=⟨h.1,h.2.1,hl,h.2.2⟩
section
variable {P : Program} {c : Cx} {n : Sz} {Q : Exit → Act → World → Prop} {m : Fm} {O : List As} {R : List Fa} {f : Nat} {u v : Wd} {q : Rat}
theorem zf9 {g:Hp} (h:(qF true u v q).on g):u.is g q.num∧v.is g (q.den:Int):=by
  obtain ⟨x,a,b,e,ok⟩:=h
  have hk:=ok rfl
  obtain ⟨e1,e2⟩:=Big.VJ hk
  rw [← e,e1,e2]
  exact ⟨Wd.raw_is a hk.1,Wd.raw_is b hk.2.1⟩
theorem jp (i:Nat) (hi:R[i]? =some (qF true u v q)):∀g,Holds g R→∃x:Unit,True∧Holds g [zF u q.num,zF v (q.den:Int)]:=fun g h=>
  ⟨(),trivial,(zf9 (Holds.get i hi h)).1,(zf9 (Holds.get i hi h)).2,trivial⟩
theorem zjC {g:Hp} (h1:u.is g q.num) (h2:v.is g (q.den:Int)) (hl:Big.hq q≤1099511627776):(qF true u v q).on g:=
  ⟨Big.rq q,Wd.is_raw h1 (yY (Big.v9 q) hl),Wd.is_raw h2 (yY (Big.jm q) hl),Big.rq_v q,fun _=>Big.zrq q⟩
theorem QZ (i j:Nat) {a b:Int} (hi:R[i]? =some (zF u a)) (hj:R[j]? =some (zF v b)) (h:a=q.num∧b=(q.den:Int)∧Big.hq q≤1099511627776):∀g,Holds g R→(qF true u v q).on g:=fun g r=>by
  have h1:u.is g a:=Holds.get i hi r
  have h2:v.is g b:=Holds.get j hj r
  rw [h.1] at h1;rw [h.2.1] at h2
  exact zjC h1 h2 h.2.2
theorem zsj {g:Hp} {k:Bool} (h:(qF k u v q).on g):Big.hq q≤1099511627776:=by
  obtain ⟨x,a,b,e,ok⟩:=h
  by_cases hk:Big.qok x
  · obtain ⟨e1, e2⟩ := Big.VJ hk
    rw [← e]
    unfold Big.hq yg
    rw [e1,e2]
    have h1:=Big.QB (s:=x.1.1) a.2.2.2.nn
    have h2:=Big.QB (s:=x.2.1) b.2.2.2.nn
    rw [if_pos hk.1] at h1;rw [if_pos hk.2.1] at h2
    rw [h1,h2]
    have:=a.2.2.1;have:=b.2.2.1;omega
  · rw [Big.zeB hk] at e
    rw [← e,Big.vN];omega
theorem zbU (g:Hp):(qF false wz wz 0).on g:=⟨((false,[]),(false,[])),⟨rfl,rfl,Od,Sl.nil _ _⟩,⟨rfl,rfl,Od,Sl.nil _ _⟩,Oz,fun h=>by cases h⟩
abbrev zt4 (p:Option Addr) (c:Nat) (x:Bool×List Int):List Value:=[.bool x.1,.slice p x.2.length c]
theorem Wd.rawL_eq {g:Hp} {w:Wd} {x:Bool×List Int} (h:w.raw g x):[w.b,w.l]=zt4 w.p w.c x:=by rw [Wd.b,Wd.l,h.1,h.2.1]
theorem zhN {k:Bool} {Y:Type} {φ:Y→Prop} {val:Y→Value} {O':Y→List As} {R':Y→List Fa}
    (h:∀(x:Big.RQ),Big.qv x=q→(k=true→Big.qok x)→x.1.2.length≤1099511627776→x.2.2.length≤1099511627776→jI P f [.agg #[.bool x.1.1,.slice u.p x.1.2.length u.c,.bool x.2.1,.slice v.p x.2.2.length v.c]] O [zI (rI .u32) u.p u.c x.1.2,zI (rI .u32) v.p v.c x.2.2] φ val O' R'):
    jI P f [.agg #[u.b,u.l,v.b,v.l]] O [qF k u v q] φ val O' R':=
  jI.of (X:=Big.RQ) (ψ:=fun x=>Big.qv x=q∧(k=true→Big.qok x)∧x.1.2.length≤1099511627776∧x.2.2.length≤1099511627776) (A2:=fun x=>[.agg #[.bool x.1.1,.slice u.p x.1.2.length u.c,.bool x.2.1,.slice v.p x.2.2.length v.c]]) (R2:=fun x=>[zI (rI .u32) u.p u.c x.1.2,zI (rI .u32) v.p v.c x.2.2])
    (fun x hx=>h x hx.1 hx.2.1 hx.2.2.1 hx.2.2.2) fun g r=>by
      obtain ⟨x,a,b,e,ok⟩:=r.1
      refine ⟨x,⟨e,ok,a.2.2.1,b.2.2.1⟩,?_,a.2.2.2,b.2.2.2,trivial⟩
      have h1:=Wd.rawL_eq a;have h2:=Wd.rawL_eq b
      simp only [zt4,List.cons.injEq,and_true] at h1 h2
      rw [h1.1,h1.2,h2.1,h2.2]
theorem zjD {k:Bool} {Y:Type} {φ:Y→Prop} {val:Y→Value} {O':Y→List As} {R':Y→List Fa}
    (h:∀(x:Big.RQ),Big.qv x=q→(k=true→Big.qok x)→x.1.2.length≤1099511627776→x.2.2.length≤1099511627776→Big.hq q≤1099511627776→jI P f [.agg #[.bool x.1.1,.slice u.p x.1.2.length u.c,.bool x.2.1,.slice v.p x.2.2.length v.c]] O [zI (rI .u32) u.p u.c x.1.2,zI (rI .u32) v.p v.c x.2.2] φ val O' R'):
    jI P f [.agg #[u.b,u.l,v.b,v.l]] O [qF k u v q] φ val O' R':=fun w hh g s r ap h1 h2=>
  zhN (fun x a b c d=>h x a b c d (zsj r.1)) w hh g s r ap h1 h2
theorem zsk {A:List Value} {z d:Int} (h:jI P f A O R (Y:=Option Addr×Nat×Option Addr×Nat) (fun _=>True) (fun y=> .agg #[.bool (decide (z<0)),.slice y.1 (ya z.natAbs).length y.2.1,.bool (decide (d<0)),.slice y.2.2.1 (ya d.natAbs).length y.2.2.2]) (fun _=>[]) (fun y=>[bigS z y.1 y.2.1,bigS d y.2.2.1 y.2.2.2]))
    (hz:z=q.num) (hd:d=(q.den:Int)) (hl:Big.hq q≤1099511627776):jI P f A O R (Y:=Wd×Wd) (fun _=>True) (fun w=> .agg #[w.1.b,w.1.l,w.2.b,w.2.l]) (fun _=>[]) (fun w=>[qF true w.1 w.2 q]):=
  h.told (fun y=>(⟨decide (z<0),y.1,(ya z.natAbs).length,y.2.1⟩,⟨decide (d<0),y.2.2.1,(ya d.natAbs).length,y.2.2.2⟩)) (fun _=>rfl) (fun _ _=>trivial) (fun _=>rfl)
    (fun y _ g r=>⟨zjC (q:=q) ⟨by rw [hz],by rw [hz],hz ▸ r.1⟩ ⟨by rw [hd],by rw [hd],hd ▸ r.2.1⟩ hl,trivial⟩)
theorem zjE {A:List Value} {z d:Int} {k:Value} (h:jI P f A O R (Y:=Option Addr×Nat×Option Addr×Nat) (fun _=>True) (fun y=> .tuple #[.agg #[.bool (decide (z<0)),.slice y.1 (ya z.natAbs).length y.2.1],.agg #[.bool (decide (d<0)),.slice y.2.2.1 (ya d.natAbs).length y.2.2.2],k]) (fun _=>[]) (fun y=>[bigS z y.1 y.2.1,bigS d y.2.2.1 y.2.2.2])):
    jI P f A O R (Y:=Wd×Wd) (fun _=>True) (fun w=> .tuple #[.agg #[w.1.b,w.1.l],.agg #[w.2.b,w.2.l],k]) (fun _=>[]) (fun w=>[zF w.1 z,zF w.2 d]):=
  h.told (fun y=>(⟨decide (z<0),y.1,(ya z.natAbs).length,y.2.1⟩,⟨decide (d<0),y.2.2.1,(ya d.natAbs).length,y.2.2.2⟩)) (fun _=>rfl) (fun _ _=>trivial) (fun _=>rfl)
    (fun y _ g r=>⟨⟨rfl,rfl,r.1⟩,⟨rfl,rfl,r.2.1⟩,trivial⟩)
theorem zpA {s t:Bool} {p1 p2:Option Addr} {n1 c1 n2 c2:Nat} {l1 l2:List Int} (i j:Nat) (hi:R[i]? =some (zI (rI .u32) p1 c1 l1)) (hj:R[j]? =some (zI (rI .u32) p2 c2 l2)) (hn1:l1.length=n1) (hn2:l2.length=n2) (hm1:n1≤1099511627776) (hm2:n2≤1099511627776) (hq:Big.qok ((s,l1),(t,l2))):
    ∀g,Holds g R→(qF true ⟨s,p1,n1,c1⟩ ⟨t,p2,n2,c2⟩ (Big.qv ((s,l1),(t,l2)))).on g:=fun g r=>by
  subst hn1;subst hn2
  exact ⟨((s,l1),(t,l2)),⟨rfl,rfl,hm1,Holds.get i hi r⟩,⟨rfl,rfl,hm2,Holds.get j hj r⟩,rfl,fun _=>hq⟩
end
section
variable {P : Program} {c : Cx} {m : Fm} {O : List As} {R : List Fa}
end
section
variable {P : Program} {n : Sz} {m : Fm} {d : Option Tmp} {ty : TypeId} {ps : String} {af : Array Edge} {gd : Option (Nat × Bool)}
end
end Sp
namespace Sp
open Go
theorem kr {p:Prop} (h:p:=by kernel_rfl):p:=h
theorem qB {p:Prop} (h:p:=by assumption):p:=h
theorem Kw {p:Prop} (h:p:=by first|rfl|assumption|omega|(simp;done)|(simp;omega)|(simp_all;done)):p:=h
theorem zL {p:Prop} (h:p:=by first|rfl|assumption|omega):p:=h
theorem cbd {p:Prop} (h:p:=by first|rfl|assumption|decide|omega):p:=h
theorem J0 {p:Prop} (h:p:=by first|rfl|assumption|(simp_all;done)|omega):p:=h
theorem JS {p:Prop} (h:p:=by first|(simp_all;done)|(simp_all;omega)|(simp;omega)|omega):p:=h
theorem om {p:Prop} (h:p:=by omega):p:=h
theorem dd {p:Prop} (h:p:=by decide):p:=h
theorem aq {α:Type} {l m:List α}:List.append l m=l++m:=rfl
theorem nq {α:Type} {l:List α}:[]++l=l:=rfl
theorem cq {α:Type} {a:α} {l m:List α}:a :: l++m=a :: (l++m):=rfl
theorem JL.t2 {cells:List Value} {k:Nat} {cs:List Value} {a b:Value} (h:JL cells 0 k cs):JL (a :: b :: cells) 0 (k+2) (a :: b :: cs):= .take (.take h)
theorem JL.t4 {cells:List Value} {k:Nat} {cs:List Value} {a b c d:Value} (h:JL cells 0 k cs):JL (a :: b :: c :: d :: cells) 0 (k+4) (a :: b :: c :: d :: cs):= .t2 (.t2 h)
theorem JL.t8 {cells:List Value} {k:Nat} {cs:List Value} {a b c d e f g i:Value} (h:JL cells 0 k cs):JL (a :: b :: c :: d :: e :: f :: g :: i :: cells) 0 (k+8) (a :: b :: c :: d :: e :: f :: g :: i :: cs):= .t4 (.t4 h)
theorem JL.s2 {cells:List Value} {k off:Nat} {cs:List Value} {a b:Value} (h:JL cells off k cs):JL (a :: b :: cells) (off+2) k cs:= .skip (.skip h)
theorem JL.s4 {cells:List Value} {k off:Nat} {cs:List Value} {a b c d:Value} (h:JL cells off k cs):JL (a :: b :: c :: d :: cells) (off+4) k cs:= .s2 (.s2 h)
theorem JL.s8 {cells:List Value} {k off:Nat} {cs:List Value} {a b c d e f g i:Value} (h:JL cells off k cs):JL (a :: b :: c :: d :: e :: f :: g :: i :: cells) (off+8) k cs:= .s4 (.s4 h)
theorem Wu.t2 {cells news cells':List Value} {a b a' b':Value} (h:Wu cells 0 news cells'):Wu (a :: b :: cells) 0 (a' :: b' :: news) (a' :: b' :: cells'):= .take (.take h)
theorem Wu.t4 {cells news cells':List Value} {a b c d a' b' c' d':Value} (h:Wu cells 0 news cells'):Wu (a :: b :: c :: d :: cells) 0 (a' :: b' :: c' :: d' :: news) (a' :: b' :: c' :: d' :: cells'):= .t2 (.t2 h)
theorem Wu.t8 {cells news cells':List Value} {a b c d e f g i a' b' c' d' e' f' g' i':Value} (h:Wu cells 0 news cells'):Wu (a :: b :: c :: d :: e :: f :: g :: i :: cells) 0 (a' :: b' :: c' :: d' :: e' :: f' :: g' :: i' :: news) (a' :: b' :: c' :: d' :: e' :: f' :: g' :: i' :: cells'):= .t4 (.t4 h)
theorem Wu.s2 {cells news cells':List Value} {off:Nat} {a b:Value} (h:Wu cells off news cells'):Wu (a :: b :: cells) (off+2) news (a :: b :: cells'):= .skip (.skip h)
theorem Wu.s4 {cells news cells':List Value} {off:Nat} {a b c d:Value} (h:Wu cells off news cells'):Wu (a :: b :: c :: d :: cells) (off+4) news (a :: b :: c :: d :: cells'):= .s2 (.s2 h)
theorem Wu.s8 {cells news cells':List Value} {off:Nat} {a b c d e f g i:Value} (h:Wu cells off news cells'):Wu (a :: b :: c :: d :: e :: f :: g :: i :: cells) (off+8) news (a :: b :: c :: d :: e :: f :: g :: i :: cells'):= .s4 (.s4 h)
variable {P : Program} {ops : Array Oper} {Q : Exit → Act → World → Prop} {c : Cx} {n : Sz} {wi k : Nat} {L : Array Bool} {m : Fm} {OW O : List As} {R : List Fa} {op : Op} {t0 : Tmp} {ty : TypeId} {ps : String} {af : Array Edge} {gd : Option (Nat × Bool)}
def ckD (ops:Array Oper) (L:Array Bool) (wi i:Nat):Bool:= !(yat i wi)&&(Region.free .any ops L i&&(Region.ready .any ops L).contains i)
theorem Qm {i:Nat} (h:ckD ops L wi i=true):yat i wi=false∧Region.free .any ops L i=true∧(Region.ready .any ops L).contains i=true:=by
  unfold ckD at h
  rw [Bool.and_eq_true,Bool.and_eq_true,Bool.not_eq_true'] at h
  exact h
def ckW (ops:Array Oper) (L:Array Bool) (wi i:Nat):Bool:=zkB ops wi i&&ckD ops L wi i
theorem zbV {i:Nat} (h:ckW ops L wi i=true):zkB ops wi i=true∧yat i wi=false∧Region.free .any ops L i=true∧(Region.ready .any ops L).contains i=true:=by
  unfold ckW at h
  rw [Bool.and_eq_true] at h
  exact ⟨h.1,Qm h.2⟩
theorem KR (i:Nat) (hi:ops[i]? =some ⟨some t0,op,ty,ps,af,gd⟩) (hw':j3 ops m ⟨some t0,op,ty,ps,af,gd⟩=some true) {v:Value} (h:PV P n ⟨some t0,op,ty,ps,af,gd⟩ m v)
    (kont:vn P ops Q c n wi k (L.setIfInBounds i true) ((t0,v) :: m) OW O R) (hd:yab (t0+1) n.sz=true:=by exact rfl) (ck:ckD ops L wi i=true:=by kernel_rfl):vn P ops Q c n wi (k+1) L m OW O R:=
  zkC i hi (Qm ck).1 (Qm ck).2.1 (Qm ck).2.2 hw' hd h kont
theorem zC (i:Nat) (hi:ops[i]? =some ⟨some t0,op,ty,ps,af,gd⟩) {v:Value} (h:PV P n ⟨some t0,op,ty,ps,af,gd⟩ m v) (kont:vn P ops Q c n wi k (L.setIfInBounds i true) ((t0,v) :: m) OW O R) (hd:yab (t0+1) n.sz=true:=by exact rfl) (ck:ckD ops L wi i=true:=by kernel_rfl) (hw':j3 ops m ⟨some t0,op,ty,ps,af,gd⟩=some true:=by exact rfl):vn P ops Q c n wi (k+1) L m OW O R:=KR i hi hw' h kont (hd:=hd) (ck:=ck)
theorem zcF (i:Nat) {x:Operand} (hi:ops[i]? =some ⟨some t0,.move x,ty,ps,af,gd⟩) (hw':j3 ops m ⟨some t0,.move x,ty,ps,af,gd⟩=some true) {v:Value} (h:vz m x=some v)
    (kont:vn P ops Q c n wi k (L.setIfInBounds i true) ((t0,v) :: m) OW O R) (hd:yab (t0+1) n.sz=true:=by exact rfl) (ck:ckD ops L wi i=true:=by kernel_rfl):vn P ops Q c n wi (k+1) L m OW O R:=
  zkC i hi (Qm ck).1 (Qm ck).2.1 (Qm ck).2.2 hw' hd (qU h) kont
theorem zQ (i:Nat) {x:Operand} (hi:ops[i]? =some ⟨some t0,.move x,ty,ps,af,gd⟩) {v:Value} (h:vz m x=some v) (kont:vn P ops Q c n wi k (L.setIfInBounds i true) ((t0,v) :: m) OW O R) (hd:yab (t0+1) n.sz=true:=by exact rfl) (ck:ckD ops L wi i=true:=by kernel_rfl) (hw':j3 ops m ⟨some t0,.move x,ty,ps,af,gd⟩=some true:=by exact rfl):vn P ops Q c n wi (k+1) L m OW O R:=zcF i hi hw' h kont (hd:=hd) (ck:=ck)
theorem qO (i:Nat) (hi:ops[i]? =some ⟨some t0,op,ty,ps,af,gd⟩) (kont:vn P ops Q c n wi k (L.setIfInBounds i true) ((t0,undef) :: m) OW O R) (hd:yab (t0+1) n.sz=true:=by exact rfl) (ck:ckD ops L wi i=true:=by kernel_rfl) (hw':j3 ops m ⟨some t0,op,ty,ps,af,gd⟩=some false:=by exact rfl):vn P ops Q c n wi (k+1) L m OW O R:=
  zsa i hi (Qm ck).1 (Qm ck).2.1 (Qm ck).2.2 hw' hd kont
theorem zpB (i:Nat) (hi:ops[i]? =some ⟨some t0,op,ty,ps,af,gd⟩) (hw':j3 ops m ⟨some t0,op,ty,ps,af,gd⟩=some true) {v:Value} (h:Vl P n ⟨some t0,op,ty,ps,af,gd⟩ m O R (Y:=Unit) (fun _=>True) (fun _=>v) (fun _=>[]))
    (kont:vn P ops Q c n wi k (L.setIfInBounds i true) ((t0,v) :: m) OW O R) (hd:yab (t0+1) n.sz=true:=by exact rfl) (ck:ckD ops L wi i=true:=by kernel_rfl):vn P ops Q c n wi (k+1) L m OW O R:=
  d_u i hi (Qm ck).1 (Qm ck).2.1 (Qm ck).2.2 hw' hd h kont
theorem vE (i:Nat) (hi:ops[i]? =some ⟨some t0,op,ty,ps,af,gd⟩) {v:Value} (h:Vl P n ⟨some t0,op,ty,ps,af,gd⟩ m O R (Y:=Unit) (fun _=>True) (fun _=>v) (fun _=>[])) (kont:vn P ops Q c n wi k (L.setIfInBounds i true) ((t0,v) :: m) OW O R) (hd:yab (t0+1) n.sz=true:=by exact rfl) (ck:ckD ops L wi i=true:=by kernel_rfl) (hw':j3 ops m ⟨some t0,op,ty,ps,af,gd⟩=some true:=by exact rfl):vn P ops Q c n wi (k+1) L m OW O R:=zpB i hi hw' h kont (hd:=hd) (ck:=ck)
theorem zrr (i:Nat) (hi:ops[i]? =some ⟨some t0,op,ty,ps,af,gd⟩) (hw':j3 ops m ⟨some t0,op,ty,ps,af,gd⟩=some true) {v:Value} (h:Vl P n ⟨some t0,op,ty,ps,af,gd⟩ m (OW++O) R (Y:=Unit) (fun _=>True) (fun _=>v) (fun _=>[]))
    (kont:vn P ops Q c n wi k (L.setIfInBounds i true) ((t0,v) :: m) OW O R) (hd:yab (t0+1) n.sz=true:=by exact rfl) (ck:ckW ops L wi i=true:=by kernel_rfl):vn P ops Q c n wi (k+1) L m OW O R:=
  d_uw i hi (zbV ck).2.1 (zbV ck).1 (zbV ck).2.2.1 (zbV ck).2.2.2 hw' hd h kont
theorem qy (i:Nat) (hi:ops[i]? =some ⟨some t0,op,ty,ps,af,gd⟩) {v:Value} (h:Vl P n ⟨some t0,op,ty,ps,af,gd⟩ m (OW++O) R (Y:=Unit) (fun _=>True) (fun _=>v) (fun _=>[])) (kont:vn P ops Q c n wi k (L.setIfInBounds i true) ((t0,v) :: m) OW O R) (hd:yab (t0+1) n.sz=true:=by exact rfl) (ck:ckW ops L wi i=true:=by kernel_rfl) (hw':j3 ops m ⟨some t0,op,ty,ps,af,gd⟩=some true:=by exact rfl):vn P ops Q c n wi (k+1) L m OW O R:=zrr i hi hw' h kont (hd:=hd) (ck:=ck)
theorem zt (i:Nat) (h:JN P ops Q c n wi k L i m OW O R) (hr:Region.ready .any ops L=[i]:=by kernel_rfl):vn P ops Q c n wi (k+1) L m OW O R:=jt i hr h
section
variable {ro : Option Nat} {l : List Oper} {t : Tmp}
theorem zE {v:Value} (h:PV P n ⟨some t,op,ty,ps,af,gd⟩ m v) (kont:ve (ro:=ro) P ops Q c n l ((t,v) :: m) O R) (hw:j3 ops m ⟨some t,op,ty,ps,af,gd⟩=some true:=by exact rfl) (hd:yab (t+1) n.sz=true:=by exact rfl):ve (ro:=ro) P ops Q c n (⟨some t,op,ty,ps,af,gd⟩ :: l) m O R:=zho hw hd h kont
theorem qJ {x:Operand} {v:Value} (h:vz m x=some v) (kont:ve (ro:=ro) P ops Q c n l ((t,v) :: m) O R) (hw:j3 ops m ⟨some t,.move x,ty,ps,af,gd⟩=some true:=by exact rfl) (hd:yab (t+1) n.sz=true:=by exact rfl):ve (ro:=ro) P ops Q c n (⟨some t,.move x,ty,ps,af,gd⟩ :: l) m O R:=zho hw hd (qU h) kont
theorem e_no (kont:ve (ro:=ro) P ops Q c n l ((t,undef) :: m) O R) (hw:j3 ops m ⟨some t,op,ty,ps,af,gd⟩=some false:=by exact rfl) (hd:yab (t+1) n.sz=true:=by exact rfl):ve (ro:=ro) P ops Q c n (⟨some t,op,ty,ps,af,gd⟩ :: l) m O R:=zcd hw hd kont
theorem zw {v:Value} (h:Vl P n ⟨some t,op,ty,ps,af,gd⟩ m O R (Y:=Unit) (fun _=>True) (fun _=>v) (fun _=>[])) (kont:ve (ro:=ro) P ops Q c n l ((t,v) :: m) O R) (hw:j3 ops m ⟨some t,op,ty,ps,af,gd⟩=some true:=by exact rfl) (hd:yab (t+1) n.sz=true:=by exact rfl):ve (ro:=ro) P ops Q c n (⟨some t,op,ty,ps,af,gd⟩ :: l) m O R:=r_u hw hd h kont
end
theorem Qn:True:=trivial
theorem vA {p:Prop} (h:p:=by first|rfl|(congr 1;omega)|simp_all):p:=h
theorem oN {O:List As}:zJ [] O []:= .n
theorem sN {R:List Fa}:q9 [] R []:=trivial
theorem mR {m l:Fm} (h:zjg m (l.map Prod.fst)=l.map (fun p=>some p.2)):vQ l m:= .of h
theorem s0 {R:List Fa} {r:Fa} (h:R[0]? =some r):q9 [0] R [r]:=⟨h,trivial⟩
theorem o0 {O:List As} {A:As} (h:O[0]? =some A):zJ [0] O [A]:= .c h .n
end Sp
namespace Sp
open Go
structure OpS where
  i:Nat
  t:Nat
  X:Type
  val:X→Value
  O:X→List As
  R:X→List Fa
instance:Inhabited OpS:=⟨⟨0,0,Unit,fun _=>undef,fun _=>[],fun _=>[]⟩⟩
def DP (T:List OpS):List Nat→(Fm→List Fa→Prop)→Prop
  |[],f=>f [] []
  |p :: ps,f=>∀x:(T.getD p default).X,DP T ps fun m R=>f (((T.getD p default).t,(T.getD p default).val x) :: m) ((T.getD p default).R x++R)
def DA:List OpS→(Fm→List As→List Fa→Prop)→Prop
  |[],f=>f [] [] []
  |e :: T,f=>∀x:e.X,DA T fun m A R=>f ((e.t,e.val x) :: m) (e.O x++A) (e.R x++R)
def Left (a:Act) (g:Hp) (e:OpS):Prop:=∃x:e.X,a.tmps[e.t]? =some (e.val x)∧Holds g (e.R x)
theorem DP.use {T:List OpS} {a:Act} {g:Hp}:∀{ps:List Nat} {f:Fm→List Fa→Prop},DP T ps f→(∀p∈ps,Left a g (T.getD p default))→∃m R,f m R∧(∀t v,lk m t=some v→a.tmps[t]? =some v)∧Holds g R
  |[],f,h,_=>⟨[],[],h,(fun _ _ e=>by cases e),trivial⟩
  |p :: ps,f,h,hs=>by
    obtain ⟨x,hx,hr⟩:=hs p (yaa ..)
    obtain ⟨m,R,hf,hm,hR⟩:=DP.use (h x) (fun q hq=>hs q (yz _ hq))
    refine ⟨_,_,hf,fun t v e=> ?_,Holds.app hr hR⟩
    simp only [lk] at e
    split at e
    · rename_i hb
      have:(T.getD p default).t=t:=yL hb
      cases e
      rw [← this];exact hx
    · exact hm t v e
def ofr (o:Oper):Oper:=⟨o.dst,o.op,o.type,o.pos,#[],none⟩
def zkU (c:Cx) (n:Sz) (e:OpS):Exit→Act→World→Prop:=Exit.then (zjc c n (fun _:e.X=>True) (fun x=>[(e.t,e.val x)]) e.O e.R) (fun _ _ _=>False)
section
variable {P : Program} {Q : Exit → Act → World → Prop} {c : Cx} {n : Sz} {ops : Array Oper} {m : Fm} {OW O : List As} {R : List Fa} {k wi : Nat} {L : Array Bool}
structure StepOK (P:Program) (ops:Array Oper) (n:Sz) (m0:Fm) (R0:List Fa) (e:OpS) (T:List OpS) (o:Oper) (ps:List Nat):Prop where
  hi:ops[e.i]? =some o
  hd:o.dst=some e.t
  hg:o.guard=none
  hn:Region.noSelect #[ofr o]=true
  ht:yab (e.t+1) n.sz=true
  hm:(lk m0 e.t).isNone=true
  hT:(T.all fun x=> !yat x.t e.t)=true
  hp:(ps.all fun p=>Nat.blt p T.length&&o.after.any fun ed=>Region.binds .any ed&&yat ed.on (T.getD p default).i)=true
  go:∀c,DP T ps (fun m R=>vn P #[ofr o] (zkU c n e) c n 100000 1 #[false] (m++m0) [] [] (R++R0))
def WF (P:Program) (ops:Array Oper) (n:Sz) (m0:Fm) (R0:List Fa):List OpS→Prop
  |[]=>True
  |e :: T=>(∃o ps,StepOK P ops n m0 R0 e T o ps)∧WF P ops n m0 R0 T
theorem WF.get {m0:Fm} {R0:List Fa} {e:OpS}:∀{T:List OpS},WF P ops n m0 R0 T→e∈T→∃T' o ps,StepOK P ops n m0 R0 e T' o ps∧(∀x∈T',x∈T)
  |[],_,h=>by cases h
  |e' :: T,⟨⟨o,ps,h1⟩,h2⟩,h=>by
    rcases yad.1 h with rfl|h
    · exact ⟨T,o,ps,h1,fun x hx=>yz _ hx⟩
    · obtain ⟨T', o, ps, h3, h4⟩ := WF.get h2 h
      exact ⟨T',o,ps,h3,fun x hx=>yz _ (h4 x hx)⟩
theorem WF.dist {m0:Fm} {R0:List Fa} {e e':OpS}:∀{T:List OpS},WF P ops n m0 R0 T→e∈T→e'∈T→e.t=e'.t→e=e'
  |[],_,h,_,_=>by cases h
  |d :: T,⟨⟨o,ps,h1⟩,h2⟩,h,h',ht=>by
    have hT:=fun x (hx:x∈T)=>yX.1 h1.hT x hx
    rcases yad.1 h with k1|k1
    · rcases yad.1 h' with k2 | k2
      · rw [k1,k2]
      · have:=hT _ k2;rw [← ht,k1] at this;simp [ybg] at this
    · rcases yad.1 h' with k2 | k2
      · have:=hT _ k1;rw [ht,k2] at this;simp [ybg] at this
      · exact WF.dist h2 k1 k2 ht
theorem zsl {o:Oper} {a:Act} {w:World} {K K':Act→World→Prop} {Q0:Exit→Act→World→Prop} (hp:∀ch a w,Q0 (.panic ch) a w→False) (hl:¬LetsOut Q0) (hk:∀v w',K (a.put o.dst v) w'→K' (a.put o.dst v) w')
    (hd:∀d v w',K (({a with defers:=d :: a.defers}:Act).put o.dst v) w'→False) (h:o.wp P a w K Q0):o.wp P a w K' Q:=by
  unfold Oper.wp at*
  generalize (execOp a.eval o).run P w=r at*
  cases r with
  |ok nx w'=>
    cases nx <;> simp only [Oper.upon] at h ⊢ <;>
      first
        |exact hk _ _ h
        |exact (hd _ _ _ h).elim
        |exact Calls.mono h (fun e w'' he=>by cases e <;> first|exact hk _ _ he|exact (hp _ _ _ he).elim|exact (hl he).elim)
        |exact Rows.mono h (fun _ _ he=>hk _ _ he)
  |halt x w'=>
    cases x <;> simp only [Oper.upon] at h ⊢
    exact (hp _ _ _ h).elim
theorem zhO {a:Act} {t:Nat} {v:Value} {s:Nat} {u:Value} (h:a.tmps[s]? =some u) (hne:s≠t):(a.put (some t) v).tmps[s]? =some u:=by
  simp only [Act.put,yaw]
  rw [if_neg (fun e=>hne e.symm)];exact h
theorem zhP {m0:Fm} {t:Nat}:∀(m:Fm),lk (m++m0) t=(match lk m t with|some v=>some v|none=>lk m0 t)
  |[]=>rfl
  |(q,v) :: m=>by
    simp only [List.cons_append,lk]
    split
    · rfl
    · exact zhP m
def Own (L:Array Bool) (a:Act) (g:Hp):List OpS→List As→Prop
  |[],A=>A=[]
  |e :: T,A=>if L.getD e.i false then ∃x A',A=e.O x++A'∧a.tmps[e.t]? =some (e.val x)∧Holds g (e.R x)∧Own L a g T A' else Own L a g T A
theorem Own.left {L:Array Bool} {a:Act} {g:Hp} {e:OpS}:∀{T:List OpS} {A:List As},Own L a g T A→e∈T→L.getD e.i false=true→Left a g e
  |[],_,_,h,_=>by cases h
  |d :: T,A,ho,h,hL=>by
    unfold Own at ho
    rcases yad.1 h with h|h
    · subst h
      rw [hL,if_pos rfl] at ho
      obtain ⟨x,A',-,h1,h2,-⟩:=ho
      exact ⟨x,h1,h2⟩
    · split at ho
      · obtain ⟨x, A', -, -, -, h3⟩ := ho
        exact Own.left h3 h hL
      · exact Own.left ho h hL
theorem Own.all {L:Array Bool} {a:Act} {g:Hp}:∀{T:List OpS} {A:List As} {f:Fm→List As→List Fa→Prop},Own L a g T A→(∀e∈T,L.getD e.i false=true)→DA T f→∃m R,f m A R∧(∀t v,lk m t=some v→a.tmps[t]? =some v)∧Holds g R
  |[],A,f,ho,_,h=>by
    have:A=[]:=ho
    subst this
    exact ⟨[],[],h,(fun _ _ e=>by cases e),trivial⟩
  |e :: T,A,f,ho,hall,h=>by
    unfold Own at ho
    rw [hall e (yaa ..),if_pos rfl] at ho
    obtain ⟨x,A',hA,hx,hr,h3⟩:=ho
    subst hA
    obtain ⟨m,R,hf,hm,hR⟩:=Own.all h3 (fun d hd=>hall d (yz _ hd)) (h x)
    refine ⟨_,_,hf,fun t v e'=> ?_,Holds.app hr hR⟩
    simp only [lk] at e'
    split at e'
    · rename_i hb
      have:e.t=t:=yL hb
      cases e'
      rw [← this];exact hx
    · exact hm t v e'
theorem Own.none {L:Array Bool} {a:Act} {g:Hp}:∀{T:List OpS},(∀e∈T,L.getD e.i false=false)→Own L a g T []
  |[],_=>rfl
  |e :: T,h=>by
    unfold Own
    rw [h e (yaa ..),if_neg (by simp)]
    exact Own.none fun d hd=>h d (yz _ hd)
theorem Own.keep {L:Array Bool} {a:Act} {g g':Hp} {i t:Nat} {v:Value} (hg:g.le g'):∀{T:List OpS} {A:List As},Own L a g T A→(∀d∈T,d.i≠i∧d.t≠t)→Own (L.setIfInBounds i true) (a.put (some t) v) g' T A
  |[],_,h,_=>h
  |d :: T,A,ho,h=>by
    obtain ⟨h1,h2⟩:=h d (yaa ..)
    have hr:=fun x hx=>h x (yz _ hx)
    unfold Own at ho ⊢
    rw [getD_set_ne false (fun e=>h1 e.symm)]
    split at ho
    · obtain ⟨x, A', h3, h4, h5, h6⟩ := ho
      rename_i hL
      rw [if_pos hL]
      exact ⟨x,A',h3,zhO h4 h2,Holds.mono hg h5,Own.keep hg h6 hr⟩
    · rename_i hL
      rw [if_neg hL]
      exact Own.keep hg ho hr
theorem Own.step {L:Array Bool} {a:Act} {g g':Hp} {e:OpS} {x:e.X} (hg:g.le g') (hsz:e.i<L.size) (hx:(a.put (some e.t) (e.val x)).tmps[e.t]? =some (e.val x)) (hR:Holds g' (e.R x)) (hu:L.getD e.i false=false):
    ∀{T:List OpS} {A:List As},Own L a g T A→e∈T→(∀d∈T,d=e∨(d.i≠e.i∧d.t≠e.t))→T.Pairwise (fun d d'=>d.t≠d'.t)→∃A',Own (L.setIfInBounds e.i true) (a.put (some e.t) (e.val x)) g' T A'∧(e.O x++A).Perm A'
  |[],_,_,h,_,_=>by cases h
  |d :: T,A,ho,he,hd,hp=>by
    have hp':=List.pairwise_cons.1 hp
    by_cases hde:d=e
    · subst hde
      unfold Own at ho
      rw [hu,if_neg (by simp)] at ho
      refine ⟨d.O x++A,?_,List.Perm.refl _⟩
      unfold Own
      rw [show (L.setIfInBounds d.i true).getD d.i false=true by simp [ys,hsz],if_pos rfl]
      refine ⟨x,A,rfl,hx,hR,Own.keep hg ho fun b hb=> ?_⟩
      rcases hd b (yz _ hb) with h|h
      · subst h;exact absurd rfl (hp'.1 _ hb)
      · exact h
    · have he':e∈T:=by
        rcases yad.1 he with h|h
        · exact absurd h.symm hde
        · exact h
      obtain ⟨h1,h2⟩:=(hd d (yaa ..)).resolve_left hde
      unfold Own at ho
      split at ho
      · rename_i hL
        obtain ⟨y,A',h3,h4,h5,h6⟩:=ho
        obtain ⟨A2,h7,h8⟩:=Own.step hg hsz hx hR hu h6 he' (fun b hb=>hd b (yz _ hb)) hp'.2
        refine ⟨d.O y++A2,?_,?_⟩
        · unfold Own
          rw [getD_set_ne false (fun k=>h1 k.symm),hL,if_pos rfl]
          exact ⟨y,A2,rfl,zhO h4 h2,Holds.mono hg h5,h7⟩
        · subst h3
          rw [← yD]
          refine (List.Perm.append_right _ List.perm_append_comm).trans ?_
          rw [yD]
          exact List.Perm.append_left _ h8
      · rename_i hL
        obtain ⟨A2,h7,h8⟩:=Own.step hg hsz hx hR hu ho he' (fun b hb=>hd b (yz _ hb)) hp'.2
        refine ⟨A2,?_,h8⟩
        unfold Own
        rw [getD_set_ne false (fun k=>h1 k.symm),if_neg hL]
        exact h7
theorem StepOK.run {m0:Fm} {R0:List Fa} {e:OpS} {T:List OpS} {o:Oper} {ps:List Nat} (s:StepOK P ops n m0 R0 e T o ps) {a:Act} {w:World} {F:List As} {hf g:Hp} {K':Act→World→Prop}
    (f:Fr n a m0) (mm:MemAt c w F R0 hf g) (hps:∀p∈ps,Left a g (T.getD p default))
    (hk:∀(x:e.X) w' g' h',Fr n (a.put (some e.t) (e.val x)) m0→g.le g'→h'.apart hf→vG g' (e.O x) h'→vG g' F hf→MemAt c w' (e.O x++F) R0 (h'.join hf) g'→Holds g' (e.R x)→(a.put (some e.t) (e.val x)).tmps[e.t]? =some (e.val x)→K' (a.put (some e.t) (e.val x)) w'):wpOp P ops Q e.i K' a w:=by
  obtain ⟨m,R,hf1,hm,hR⟩:=DP.use (s.go ⟨w,Hp.emp,g⟩) hps
  have hfr:Fr n a (m++m0):=⟨f.defers,f.size,fun t v h=>by
    rw [zhP] at h
    cases hl:lk m t with
    |some u=>rw [hl] at h;cases h;exact hm t _ hl
    |none=>rw [hl] at h;exact f.tmp t v h⟩
  have hQ:v4 (zkU ⟨w,Hp.emp,g⟩ n e):=fun ch a d v w x=>x
  have hs1:Region.noSelect #[ofr o]=true:=s.hn
  have hcl:Closed #[ofr o] 100000 #[false]:=by
    intro q o' ho ht ed hed
    have hq:q=0:=by
      have:=(yR.1 ho).1
      simpa using this
    subst hq
    have:o'=ofr o:=by simpa using ho.symm
    subst this
    simp [ofr] at hed
  have hR2:Holds g (R++R0):=Holds.app hR mm.holds
  have hmem:MemAt ⟨w,Hp.emp,g⟩ w ([]++[]) (R++R0) (Hp.emp.join Hp.emp) g:=vR.start rfl hR2 (Hp.emp_apart g) (fun _ _ e=>by cases e) mm.hasG
  have h1:=hf1 hQ hs1 hcl a w Hp.emp Hp.emp g hfr rfl rfl (Hp.emp_apart _) hmem
  have hrd:0∈Region.ready .any #[ofr o] #[false]:=mem_ready.2 ⟨rfl,ofr o,rfl,fun e he=>by simp [ofr] at he⟩
  have h2:=h1.2 0 hrd
  have hd:o.dst=some e.t:=s.hd
  have hid:ops[e.i]? =some o:=s.hi
  unfold wpOp at h2 ⊢
  rw [hid]
  have hwant:∀y,Region.wanted o y=true:=fun y=>by simp [Region.wanted,s.hg]
  have hwant2:∀y,Region.wanted (ofr o) y=true:=fun y=>by simp [Region.wanted,ofr]
  simp only [hwant,if_true]
  have h3:(ofr o).wp P a w (fun a' w'=>SL 100000 Hp.emp Hp.emp g (#[false].setIfInBounds 0 true) w'∧Zi P #[ofr o] (zkU ⟨w,Hp.emp,g⟩ n e) (SL 100000 Hp.emp Hp.emp g) 0 (#[false].setIfInBounds 0 true) a' w') (zkU ⟨w,Hp.emp,g⟩ n e):=by
    have:(#[ofr o]:Array Oper)[0]? =some (ofr o):=rfl
    simp only [this,hwant2,if_true] at h2
    rcases h2 with h2|⟨_,b,w9,h2⟩
    · exact h2
    · exact h2.elim
  have h4:o.wp P a w (fun a' w'=>SL 100000 Hp.emp Hp.emp g (#[false].setIfInBounds 0 true) w'∧Zi P #[ofr o] (zkU ⟨w,Hp.emp,g⟩ n e) (SL 100000 Hp.emp Hp.emp g) 0 (#[false].setIfInBounds 0 true) a' w') (zkU ⟨w,Hp.emp,g⟩ n e):=h3
  refine .inl (zsl (fun ch a w x=>x) (fun ⟨_,_,x⟩=>x) (fun v w' hK=> ?_) (fun d v w' hK=> ?_) h4)
  · rw [hd] at hK ⊢
    obtain ⟨_,_,x,_,hfx,hM⟩:=hK
    have ht:e.t<n.sz:=Nat.lt_of_succ_le (Nat.le_of_ble_eq_true s.ht)
    have hsz:a.tmps.size=n.sz:=f.size
    have htv:=hfx.tmp e.t (e.val x) (by simp [lk,ybg])
    have hv:v=e.val x:=by
      have:=htv
      simpa [Act.put,yaw,hsz,ht] using this
    subst hv
    have mm0:MemAt c w ([]++F) R0 (Hp.emp.join hf) g:=by simpa [Hp.emp_join] using mm
    obtain ⟨h',g',mm',sO',sF,ap',le'⟩:=MemAt.framed (O:=[]) (F:=F) rfl mm.sep (Hp.emp_apart _) mm0 hM
    have hR':=mm'.holds
    have hsplit:∀(A B:List Fa),Holds g' (A++B)→Holds g' A∧Holds g' B:=by
      intro A
      induction A with
      |nil=>exact fun B hh=>⟨trivial,hh⟩
      |cons r l ih=>exact fun B hh=>⟨⟨hh.1,(ih B hh.2).1⟩,(ih B hh.2).2⟩
    obtain ⟨hRx,hR0⟩:=hsplit _ _ hR'
    refine hk x w' g' h' ⟨?_,?_,fun s' u hl=> ?_⟩ le' ap' sO' sF ⟨mm'.sep,hR0,mm'.apart,mm'.hasH,mm'.hasG,mm'.le,mm'.newG,mm'.newH,mm'.kept⟩ hRx htv
    · exact f.defers
    · simp [Act.put,hsz]
    · refine zhO (f.tmp s' u hl) (fun e' => ?_)
      subst e'
      have:=s.hm
      rw [hl] at this;cases this
  · rw [hd] at hK
    obtain ⟨_,_,x,_,hfx,_⟩:=hK
    have:=hfx.defers
    have h0:=f.defers
    simp only [Act.put] at this
    rw [h0] at this
    have:=congrArg List.length this
    simp at this
theorem WF.pair {m0:Fm} {R0:List Fa}:∀{T:List OpS},WF P ops n m0 R0 T→T.Pairwise (fun d d'=>d.t≠d'.t)
  |[],_=>List.Pairwise.nil
  |d :: T,⟨⟨o,ps,h1⟩,h2⟩=>List.pairwise_cons.2 ⟨fun b hb e=>by
      have:=yX.1 h1.hT b hb
      rw [e] at this;simp [ybg] at this,WF.pair h2⟩
def zmC (ops:Array Oper):Bool:=(yT ops.size).all fun i=>match ops[i]? with|some o=>o.after.all fun e=> !Region.binds .any e||Nat.blt e.on i|none=>true
theorem ready_nil {L:Array Bool} (hb:zmC ops=true) (hr:Region.ready .any ops L=[]) (hsz:L.size=ops.size):∀i,i<ops.size→L.getD i false=true:=by
  intro i
  induction i using Nat.strongRecOn with
  |_ i ih=>
    intro hi
    cases hL:L.getD i false with
    |true=>rfl
    |false=>
      exfalso
      have ho:ops[i]? =some ops[i]:=yU hi
      have hLt:L.getD i true=false:=by
        have h':i<L.size:=hsz ▸ hi
        simp only [ys,yU h',yau] at hL ⊢
        exact hL
      have hmem:i∈Region.ready .any ops L:=mem_ready.2 ⟨hLt,ops[i],ho,fun e he hbn=>by
        have:=yX.1 hb i (ybh.2 hi)
        rw [ho] at this
        have h2:=Array.all_eq_true_iff_forall_mem.1 this e he
        rw [hbn] at h2
        have h3:e.on<i:=by simpa using h2
        exact ih e.on h3 (Nat.lt_trans h3 hi)⟩
      rw [hr] at hmem;cases hmem
def mark (M:Array Bool) (o:Oper):Array Bool:=o.after.foldl (fun M e=>if Region.binds .any e then M.setIfInBounds e.on true else M) M
def marks (ops:Array Oper) (q:Nat):Array Bool:=((yT q).reverse).foldl (fun M i=>if M.getD i false then (match ops[i]? with|some o=>mark M o|none=>M) else M) (match ops[q]? with|some o=>mark (Array.replicate ops.size false) o|none=>Array.replicate ops.size false)
theorem zbv {M:Array Bool} {i j:Nat} (h:(M.setIfInBounds i true).getD j false=true):j=i∨M.getD j false=true:=by
  by_cases e:i=j
  · exact .inl e.symm
  · rw [getD_set_ne false e] at h;exact .inr h
theorem zjF {o:Oper} {D:Nat→Prop} {M:Array Bool} (hM:∀i,M.getD i false=true→D i) (ho:∀e∈o.after,Region.binds .any e=true→D e.on):∀i,(mark M o).getD i false=true→D i:=by
  unfold mark
  rw [← Array.foldl_toList]
  have:∀(l:List Edge) (M:Array Bool),(∀e∈l,Region.binds .any e=true→D e.on)→(∀i,M.getD i false=true→D i)→∀i,(l.foldl (fun M e=>if Region.binds .any e then M.setIfInBounds e.on true else M) M).getD i false=true→D i:=by
    intro l
    induction l with
    |nil=>exact fun M _ h=>h
    |cons e l ih=>
      intro M hl hM
      refine ih _ (fun e' he'=>hl e' (yz _ he')) (fun i hi=> ?_)
      dsimp only at hi
      split at hi
      · rename_i hb
        rcases zbv hi with h|h
        · rw [h];exact hl e (yaa ..) hb
        · exact hM i h
      · exact hM i hi
  exact this _ _ (fun e he=>ho e (Array.mem_toList_iff.1 he)) hM
theorem zmD {q:Nat} {o:Oper} {D:Nat→Prop} (hq:ops[q]? =some o) (h0:∀e∈o.after,Region.binds .any e=true→D e.on) (hD:∀i oi,ops[i]? =some oi→D i→∀e∈oi.after,Region.binds .any e=true→D e.on):
    ∀i,(marks ops q).getD i false=true→D i:=by
  unfold marks
  rw [hq]
  have key:∀(l:List Nat) (M:Array Bool),(∀i,M.getD i false=true→D i)→∀i,(l.foldl (fun M i=>if M.getD i false then (match ops[i]? with|some o=>mark M o|none=>M) else M) M).getD i false=true→D i:=by
    intro l
    induction l with
    |nil=>exact fun M h=>h
    |cons x l ih=>
      intro M hM
      refine ih _ (fun i hi=> ?_)
      dsimp only at hi
      split at hi
      · rename_i hx
        cases hox:ops[x]? with
        |none=>rw [hox] at hi;exact hM i hi
        |some ox=>rw [hox] at hi;exact zjF hM (hD x ox hox (hM x hx)) i hi
      · exact hM i hi
  refine key _ _ (zjF (fun i hi=> ?_) h0)
  rw [ys,Array.getElem?_replicate] at hi
  split at hi <;> simp at hi
def Later (ops:Array Oper) (L':Array Bool) (T:List OpS):Bool:=(yT ops.size).all fun q=>L'.getD q true||T.all fun e=>(marks ops q).getD e.i false
def CovL (ops:Array Oper) (L L':Array Bool) (T:List OpS):Bool:=(yT ops.size).all fun i=>L'.getD i false == (L.getD i false||T.any fun e=>yat e.i i)
def JI (T:List OpS) (L:Array Bool):Nat:=(T.filter fun e=> !L.getD e.i false).length
theorem zbw {S:Array Bool→World→Prop}:∀(k:Nat) (L:Array Bool) (a:Act) (w:World),Zi P ops Q S k L a w→Zi P ops Q S (k+1) L a w
  |0,_,_,_,h=>⟨fun _=>h.2,fun i hi=>by rw [h.1] at hi;cases hi⟩
  |k+1,_,_,_,h=>⟨h.1,fun i hi=>wpOp_mono (fun a' w' h'=>⟨h'.1,zbw k _ a' w' h'.2⟩) (h.2 i hi)⟩
theorem J7 {S:Array Bool→World→Prop} {k:Nat} {L:Array Bool} {a:Act} {w:World} (h:Zi P ops Q S k L a w):∀j,Zi P ops Q S (k+j) L a w
  |0=>h
  |j+1=>zbw _ _ _ _ (J7 h j)
theorem zhQ {T:List OpS} {L:Array Bool} {e:OpS} (he:e∈T) (hu:L.getD e.i true=false):JI T (L.setIfInBounds e.i true)+1≤JI T L:=by
  have hsz:e.i<L.size:=by
    rcases ybw e.i L.size with h|h
    · exact h
    · simp [yan h] at hu
  have huf:L.getD e.i false=false:=by
    simp only [ys,yU hsz,yau] at hu ⊢;exact hu
  have hmon:∀l:List OpS,JI l (L.setIfInBounds e.i true)≤JI l L:=by
    intro l
    induction l with
    |nil=>exact yJ _
    |cons d l ih=>
      unfold JI at ih ⊢
      rw [yav,yav]
      by_cases hd:e.i=d.i
      · have h1 : (L.setIfInBounds e.i true).getD d.i false = true := by rw [← hd]; simp [ys, hsz]
        rw [h1]
        simp only [Bool.not_true,Bool.false_eq_true,if_false]
        split <;> (try simp only [yI]) <;> omega
      · rw [getD_set_ne false hd]
        split <;> (try simp only [yI]) <;> omega
  clear hu
  induction T with
  |nil=>cases he
  |cons d l ih=>
    unfold JI at ih ⊢
    rw [yav,yav]
    by_cases hd:e.i=d.i
    · have h1 : (L.setIfInBounds e.i true).getD d.i false = true := by rw [← hd]; simp [ys, hsz]
      rw [h1,←hd,huf]
      have:=hmon l
      unfold JI at this
      simp only [Bool.not_true,Bool.not_false,Bool.false_eq_true,if_false,if_true,yI]
      omega
    · have he':e∈l:=by
        rcases yad.1 he with h|h
        · subst h;exact absurd rfl hd
        · exact h
      have:=ih he'
      rw [getD_set_ne false hd]
      split <;> (try simp only [yI]) <;> omega
theorem zpC {m0:Fm} {R0:List Fa} {T:List OpS} {L':Array Bool} {k':Nat} (hwf:WF P ops n m0 R0 T) (hb:zmC ops=true) (hlat:Later ops L' T=true) (hsz':L'.size=ops.size) (hTL:∀e∈T,L'.getD e.i false=true)
    (hw hr g0:Hp)
    (hfin:∀(a:Act) (w:World) (g hA:Hp) (A:List As),g0.le g→Closed ops wi L'→Fr n a m0→vG g A hA→hA.apart (hw.join hr)→MemAt c w (A++(OW++O)) R0 (hA.join (hw.join hr)) g→Own L' a g T A→Zi P ops Q (SL wi (hA.join hw) hr g) k' L' a w) (ap:hw.apart hr) (s0:vG g0 OW hw) (s1:vG g0 O hr):
    ∀(j:Nat) (L:Array Bool) (a:Act) (w:World) (g hA:Hp) (A:List As),g0.le g→L.size=ops.size→Closed ops wi L→JI T L≤j→(∀i,L.getD i false=true→L'.getD i false=true)→(∀i,L'.getD i false=true→L.getD i false=true∨∃e∈T,e.i=i)→Fr n a m0→vG g A hA→hA.apart (hw.join hr)→MemAt c w (A++(OW++O)) R0 (hA.join (hw.join hr)) g→
      Own L a g T A→Zi P ops Q (SL wi (hA.join hw) hr g) (k'+j) L a w:=by
  have hsz:∀e∈T,e.i<ops.size:=fun e he=>by
    obtain ⟨T',o,ps,s,_⟩:=hwf.get he
    exact (yR.1 s.hi).1
  have done:∀(L:Array Bool) (a:Act) (w:World) (g hA:Hp) (A:List As) (j:Nat),g0.le g→L.size=ops.size→Closed ops wi L→(∀e∈T,L.getD e.i false=true)→(∀i,L.getD i false=true→L'.getD i false=true)→(∀i,L'.getD i false=true→L.getD i false=true∨∃e∈T,e.i=i)→Fr n a m0→vG g A hA→hA.apart (hw.join hr)→MemAt c w (A++(OW++O)) R0 (hA.join (hw.join hr)) g→
      Own L a g T A→Zi P ops Q (SL wi (hA.join hw) hr g) (k'+j) L a w:=by
    intro L a w g hA A j hg0 hs hcl hall h1 h2 f sA apA mm hI
    have hL:L=L':=by
      apply Array.ext
      · rw [hs,hsz']
      · intro i hi hi'
        have e1:L.getD i false=L[i]:=by simp [ys,hi]
        have e2:L'.getD i false=L'[i]:=by simp [ys,hi']
        rw [← e1,←e2]
        cases h3:L.getD i false with
        |true=>exact (h1 i h3).symm
        |false=>
          cases h4:L'.getD i false with
          |false=>rfl
          |true=>
            rcases h2 i h4 with h5|⟨e,he,rfl⟩
            · rw [h3] at h5;cases h5
            · rw [hall e he] at h3;cases h3
    subst hL
    exact J7 (hfin a w g hA A hg0 hcl f sA apA mm hI) j
  intro j
  induction j with
  |zero=>
    intro L a w g hA A hg0 hs hcl hc h1 h2 f sA apA mm hI
    refine done L a w g hA A 0 hg0 hs hcl (fun e he=> ?_) h1 h2 f sA apA mm hI
    cases hd:L.getD e.i false with
    |true=>rfl
    |false=>
      exfalso
      have:e∈T.filter fun e=> !L.getD e.i false:=List.mem_filter.2 ⟨he,by rw [hd];rfl⟩
      have h0:(T.filter fun e=> !L.getD e.i false)=[]:=yar (by unfold JI at hc;omega)
      rw [h0] at this;cases this
  |succ j ih=>
    intro L a w g hA A hg0 hs hcl hc h1 h2 f sA apA mm hI
    by_cases hall:∀e∈T,L.getD e.i false=true
    · exact done L a w g hA A (j+1) hg0 hs hcl hall h1 h2 f sA apA mm hI
    · refine ⟨fun h0 => absurd (fun e he => ready_nil hb h0 hs _ (hsz e he)) hall, fun i hi => ?_⟩
      obtain ⟨hu,o,ho,hbef⟩:=mem_ready.1 hi
      have hlt:=(yR.1 ho).1
      have hcl2:∀i oi,ops[i]? =some oi→L.getD i false=true→∀e∈oi.after,Region.binds .any e=true→L.getD e.on false=true:=fun i oi hoi hL=>hcl i oi hoi (VO hL)
      have hT:∃e∈T,e.i=i:=by
        cases hL':L'.getD i true with
        |true=>
          have hi':L'.getD i false=true:=by
            have h':i<L'.size:=hsz' ▸ hlt
            simp only [ys,yU h',yau] at hL' ⊢;exact hL'
          rcases h2 i hi' with h|h
          · have := VO h
            rw [hu] at this;cases this
          · exact h
        |false=>
          exfalso
          have:=yX.1 hlat i (ybh.2 hlt)
          rw [hL',Bool.false_or] at this
          exact hall fun e he=>zmD (D:=fun i=>L.getD i false=true) ho hbef hcl2 e.i (yX.1 this e he)
      obtain ⟨e,he,rfl⟩:=hT
      obtain ⟨T',o',ps,s,hsub⟩:=hwf.get he
      have ho':o'=o:=by have:=s.hi;rw [ho] at this;exact (Option.some.inj this).symm
      subst ho'
      have huf:L.getD e.i false=false:=by
        have h':e.i<L.size:=hs ▸ hlt
        simp only [ys,yU h',yau] at hu ⊢;exact hu
      refine s.run f mm (fun p hp=> ?_) (fun x w' g' h' f' le' ap' sO' sF mm' hR htv=> ?_)
      · have := yX.1 s.hp p hp
        simp only [Bool.and_eq_true] at this
        obtain ⟨hpl,hany⟩:=this
        have hpl':p<T'.length:=by simpa using hpl
        obtain ⟨ed,hed,hed2⟩:=Array.any_eq_true'.1 hany
        simp only [Bool.and_eq_true] at hed2
        have hon:ed.on=(T'.getD p default).i:=yL hed2.2
        have hmem:T'.getD p default∈T':=by
          rw [yq,yv hpl']
          exact ybt _
        exact hI.left (hsub _ hmem) (by rw [← hon];exact hbef ed hed hed2.1)
      · have hdist:∀d∈T,d=e∨(d.i≠e.i∧d.t≠e.t):=fun d hd=>by
          by_cases hde:d=e
          · exact .inl hde
          · refine .inr ⟨fun h => ?_, fun h => hde (hwf.dist hd he h)⟩
            obtain ⟨_,o2,_,s2,_⟩:=hwf.get hd
            have h3:=s2.hi
            rw [h,s.hi] at h3
            have:o'=o2:=Option.some.inj h3
            subst this
            have h4:=s.hd
            rw [s2.hd] at h4
            exact hde (hwf.dist hd he (Option.some.inj h4))
        obtain ⟨A2,hI2,hperm⟩:=Own.step le' (by rw [hs];exact hlt) htv hR huf hI he hdist hwf.pair
        have apq:=Hp.apart_joinR.1 ap'
        have sAO:vG g' (e.O x++A) (h'.join hA):=vG.app sO' (vG.mono le' sA) apq.1
        have sA2:vG g' A2 (h'.join hA):=vG.perm hperm sAO
        have apn:(h'.join hA).apart (hw.join hr):=Hp.apart_join.2 ⟨apq.2,apA⟩
        have mm2:MemAt c w' (A2++(OW++O)) R0 ((h'.join hA).join (hw.join hr)) g':=by
          rw [Hp.join_assoc]
          refine ⟨?_,mm'.holds,mm'.apart,mm'.hasH,mm'.hasG,mm'.le,mm'.newG,mm'.newH,mm'.kept⟩
          rw [← Hp.join_assoc]
          exact vG.app sA2 (vG.app (vG.mono (Hp.le_trans hg0 le') s0) (vG.mono (Hp.le_trans hg0 le') s1) ap) apn
        have hasAll:Has w' (hA.join (hw.join hr)):=Has.mono mm'.hasH (Hp.le_joinR ap')
        have hasR:Has w' hr:=Has.mono hasAll (Hp.le_trans (Hp.le_joinR ap) (Hp.le_joinR apA))
        have hasW:Has w' (hA.join hw):=Has.mono hasAll (by rw [← Hp.join_assoc];exact Hp.le_joinL _ _)
        have hSL:SL wi (hA.join hw) hr g (L.setIfInBounds e.i true) w':=⟨hasR,Has.mono mm'.hasG le',fun _=>hasW⟩
        refine ⟨hSL,ZA (S':=SL wi ((h'.join hA).join hw) hr g') (fun L w2 ⟨x1,x2,x3⟩=>⟨x1,Has.mono x2 le',fun k=>Has.mono (x3 k) (by rw [Hp.join_assoc];exact Hp.le_joinR (Hp.apart_joinR.2 ⟨apq.1,(Hp.apart_joinR.1 apq.2).1⟩))⟩) _ _ _ _ (ih (L.setIfInBounds e.i true) _ w' g' (h'.join hA) A2 (Hp.le_trans hg0 le') (by simpa using hs) (hcl.step hi) ?_ ?_ ?_ f' sA2 apn mm2 hI2)⟩
        · have:=zhQ he hu;omega
        · intro q hq
          rcases zbv hq with h|h
          · rw [h];exact hTL e he
          · exact h1 q h
        · intro q hq
          rcases h2 q hq with h|h
          · exact .inl (JF h)
          · exact .inr h
def RunA (P:Program) (ops:Array Oper) (Q:Exit→Act→World→Prop) (c:Cx) (n:Sz) (wi k:Nat) (L:Array Bool) (m0:Fm) (OW O:List As) (R0:List Fa) (T:List OpS):Prop:=WF P ops n m0 R0 T→vn P ops Q c n wi k L m0 OW O R0
theorem zeG (h:RunA P ops Q c n wi k L m OW O R []):vn P ops Q c n wi k L m OW O R:=h trivial
theorem Jc (i:Nat) {t:Nat} {op:Op} {ty:TypeId} {pos:String} {af:Array Edge} {T:List OpS} (hi:ops[i]? =some ⟨some t,op,ty,pos,af,none⟩) {X:Type} (val:X→Value) (O':X→List As) (R':X→List Fa) (ps:List Nat) (hn:Region.noSelect #[⟨some t,op,ty,pos,#[],none⟩]=true) (hm:(lk m t).isNone=true) (hT:(T.all fun x=> !yat x.t t)=true) (hp:(ps.all fun p=>Nat.blt p T.length&&af.any fun ed=>Region.binds .any ed&&yat ed.on (T.getD p default).i)=true) (go:∀c,DP T ps (fun m1 R1=>vn P #[⟨some t,op,ty,pos,#[],none⟩] (Exit.then (zjc c n (fun _:X=>True) (fun x=>[(t,val x)]) O' R') (fun _ _ _=>False)) c n 100000 1 #[false] (m1++m) [] [] (R1++R))) (h:RunA P ops Q c n wi k L m OW O R (⟨i,t,X,val,O',R'⟩ :: T)) (ht:yab (t+1) n.sz=true:=by exact rfl):RunA P ops Q c n wi k L m OW O R T:=
  fun hwf=>h ⟨⟨⟨some t,op,ty,pos,af,none⟩,ps,hi,rfl,rfl,hn,ht,hm,hT,hp,go⟩,hwf⟩
theorem zmE {T:List OpS} {k':Nat} {L':Array Bool} (hsz:yat L.size ops.size=true) (hsz':yat L'.size ops.size=true) (hb:zmC ops=true) (hc:CovL ops L L' T=true) (hlat:Later ops L' T=true) (hk:yab (k'+T.length) k=true) (hL:(T.all fun e=> !L.getD e.i false)=true)
    (h:DA T (fun m1 A1 R1=>vn P ops Q c n wi k' L' (m1++m) (A1++OW) O (R1++R))):RunA P ops Q c n wi k L m OW O R T:=fun hwf hQ hs hcl a w hw hr g f s1 s2 ap mm=>by
  have hz:L.size=ops.size:=yL hsz
  have hz':L'.size=ops.size:=yL hsz'
  have hcov:∀i,L'.getD i false=(L.getD i false||T.any fun e=>yat e.i i):=fun i=>by
    rcases ybw i ops.size with hi|hi
    · have := yX.1 hc i (ybh.2 hi)
      exact beq_iff_eq.1 this
    · have e1 : L'.getD i false = false := by simp [yan (show L'.size ≤ i by omega)]
      have e2:L.getD i false=false:=by simp [yan (show L.size≤i by omega)]
      rw [e1,e2,Bool.false_or]
      symm
      cases hx:T.any fun e=>yat e.i i with
      |false=>rfl
      |true=>
        obtain ⟨e,he,h2⟩:=ybu.1 hx
        obtain ⟨_,_,_,s,_⟩:=hwf.get he
        have:=(yR.1 s.hi).1
        have h3:e.i=i:=yL h2
        omega
  have hLn:∀e∈T,L.getD e.i false=false:=fun e he=>by
    have:=yX.1 hL e he
    simpa using this
  have hTL:∀e∈T,L'.getD e.i false=true:=fun e he=>by
    rw [hcov,Bool.or_eq_true]
    exact .inr (ybu.2 ⟨e,he,ybg _⟩)
  have hund:JI T L≤T.length:=List.length_filter_le ..
  have hk':k'+T.length≤k:=Nat.le_of_ble_eq_true hk
  have key:=zpC (P:=P) (Q:=Q) (c:=c) (n:=n) (ops:=ops) (OW:=OW) (O:=O) (wi:=wi) (k':=k') hwf hb hlat hz' hTL hw hr g (fun a w g' hA A hg' hcl' f sA apA mm hI=> ?_) ap s1 s2 T.length L a w g Hp.emp [] (Hp.le_refl _) hz hcl hund (fun i hi=>by rw [hcov,hi,Bool.true_or]) (fun i hi=>by
      rw [hcov,Bool.or_eq_true] at hi
      rcases hi with hi|hi
      · exact .inl hi
      · obtain ⟨e, he, h2⟩ := ybu.1 hi
        exact .inr ⟨e,he,yL h2⟩) f rfl (Hp.emp_apart _) (by simpa [Hp.emp_join] using mm) (Own.none hLn)
  · have : k = k' + T.length + (k - (k' + T.length)) := by omega
    rw [this]
    rw [Hp.emp_join] at key
    exact J7 key _
  · obtain ⟨m1, R1, hP, hm, hR⟩ := hI.all hTL h
    have apA':=Hp.apart_joinR.1 apA
    refine hP hQ hs hcl' a w (hA.join hw) hr g' ⟨f.defers,f.size,fun t v h=> ?_⟩ (vG.app sA (vG.mono hg' s1) apA'.1) (vG.mono hg' s2) (Hp.apart_join.2 ⟨apA'.2,ap⟩) ?_
    · rw [zhP] at h
      cases hl:lk m1 t with
      |some u=>rw [hl] at h;cases h;exact hm t _ hl
      |none=>rw [hl] at h;exact f.tmp t v h
    · rw [yD, Hp.join_assoc]
      exact ⟨mm.sep,Holds.app hR mm.holds,mm.apart,mm.hasH,mm.hasG,mm.le,mm.newG,mm.newH,mm.kept⟩
end
end Sp
namespace Sp
open Go
section
variable {P : Program} {Q : Exit → Act → World → Prop} {c : Cx} {n : Sz} {ops : Array Oper} {o : Oper} {m : Fm} {OW O : List As} {R R' : List Fa} {k wi : Nat} {L : Array Bool}
theorem zsm {i:Nat} {A:List As} (hlw:(L.setIfInBounds i true).getD wi true=true) (hi:ops[i]? =some o) (hw':j3 ops m o=some true) (hd:okT n o.dst=true) {Y:Type} {φ:Y→Prop} {val:Y→Value} {A':Y→List As} {R1:Y→List Fa} (h:Ef P n o m A R φ val A' R1)
    (kont:∀y,φ y→vn P ops Q c n wi k (L.setIfInBounds i true) (KB m o.dst (val y)) (A' y++OW) O (R1 y++R)):JN P ops Q c n wi k L i m (A++OW) O R:=fun hQ hs hcl hrd a w hw hr g f s1 s2 ap mm=>by
  unfold wpOp
  simp only [hi]
  rw [if_pos (f.wanted hw')]
  obtain ⟨k1,k2,a12,e,sA,sW⟩:=vG.split s1
  subst e
  have hapA:=Hp.apart_join.1 ap
  have hk1:k1.apart g:=(Hp.apart_join.1 (Hp.apart_join.1 mm.apart).1).1
  have hkw:Has w k1:=Has.mono mm.hasH (Hp.le_trans (Hp.le_joinL k1 k2) (Hp.le_joinL _ _))
  refine .inl<|WpB.wp (h a f w k1 g sA mm.holds hk1 hkw mm.hasG _ _ fun y w' hy hM=> ?_)
  have apF:k1.apart (k2.join hr):=Hp.apart_joinR.2 ⟨a12,hapA.1⟩
  have hsF:vG g (OW++O) (k2.join hr):=vG.app sW s2 hapA.2
  have mm0:MemAt c w (A++(OW++O)) R (k1.join (k2.join hr)) g:=by rw [← Hp.join_assoc,←yD];exact mm
  obtain ⟨h',g',mm',sO',sF,ap',le'⟩:=MemAt.framed (O:=A) (F:=OW++O) sA hsF apF mm0 hM
  have ap2:=Hp.apart_joinR.1 ap'
  have hasj:Has w' (k2.join hr):=Has.mono mm'.hasH (Hp.le_joinR ap')
  have hasr:Has w' hr:=Has.mono hasj (Hp.le_joinR hapA.2)
  refine ⟨⟨hasr,Has.mono mm'.hasG le',fun e=>by rw [hlw] at e;cases e⟩,?_⟩
  have sW':vG g' (A' y++OW) (h'.join k2):=vG.app sO' (vG.mono le' sW) ap2.1
  have apn:(h'.join k2).apart hr:=Hp.apart_join.2 ⟨ap2.2,hapA.2⟩
  have mm2:MemAt c w' ((A' y++OW)++O) (R1 y++R) ((h'.join k2).join hr) g':=by
    rw [Hp.join_assoc,yD]
    exact mm'
  refine KH (hw:=h'.join k2) _ _ _ _ hlw ?_
  exact ZA (S':=SL wi (h'.join k2) hr g') (fun L w2 ⟨x1,x2,x3⟩=>⟨x1,Has.mono x2 le',x3⟩) _ _ _ _ (kont y hy hQ hs (hcl.step hrd) _ w' (h'.join k2) hr g' (f.put hd _) sW' (vG.mono le' s2) apn mm2)
theorem zmF {i:Nat} {ty:TypeId} {ps:String} {af:Array Edge} {gd:Option (Nat×Bool)} {A:List As} {t0:Tmp} {fo:Operand} {xs:List Operand} {ats:Array TypeId} {f:Nat} {first cap vs:List Value} {js:List Nat} {Y:Type} {φ:Y→Prop} {val:Y→Value} {A':Y→List As} {R1:Y→List Fa}
    (hlw:(L.setIfInBounds i true).getD wi true=true) (hi:ops[i]? =some ⟨some t0,.call ⟨.value fo,xs.toArray,ats⟩,ty,ps,af,gd⟩) (hw:j3 ops m ⟨some t0,.call ⟨.value fo,xs.toArray,ats⟩,ty,ps,af,gd⟩=some true) (hd:yab (t0+1) n.sz=true) (hf:vz m fo=some (.func (.func f) first.toArray cap.toArray)) (hx:evs m xs vs) (hc:CanEnter P f)
    (h:jI P f (first++vs++cap) A R' φ val A' R1) (hs:q9 js R R')
    (kont:∀y,φ y→vn P ops Q c n wi k (L.setIfInBounds i true) ((t0,val y) :: m) (A' y++OW) O (R1 y++R)):JN P ops Q c n wi k L i m (A++OW) O R:=
  zsm hlw hi hw hd (Ef.weakR hs (Wb hf hx hc h)) kont
end
end Sp
namespace Sp
open Go
def zsn (k:IntKind) (a b:Int):Int:=k.wrap ((BitVec.ofInt k.bits a &&& BitVec.ofInt k.bits b).toNat:Nat)
section
variable {P : Program} {n : Sz} {m : Fm} {O : List As} {R : List Fa} {d : Option Tmp} {ty : TypeId} {ps : String} {af : Array Edge} {gd : Option (Nat × Bool)}
theorem zso {t t2:TypeId} {x y:Operand} {k:IntKind} {a b:Int} (h1:vz m x=some (.int k a)) (h2:vz m y=some (.int k b)):PV P n ⟨d,.binOp .and t x y t2,ty,ps,af,gd⟩ m (.int k (zsn k a b)):=fun ac w f=>by
  simp [execOp,f.ev h1,f.ev h2,eqGuard_at_int,binOp_and,Op.intBits,zsn]
end
end Sp
namespace Sp
open Go
section
variable {P : Program} {n : Sz} {m : Fm} {R : List Fa} {d : Option Tmp} {ty : TypeId} {ps : String} {af : Array Edge} {gd : Option (Nat × Bool)} {α : Type}
theorem zeH {t t2:TypeId} {x y:Operand} {k:IntKind} {a b z:Int} (h1:vz m x=some (.int k a)) (h2:vz m y=some (.int k b)) (hz:zsn k a b=z):PV P n ⟨d,.binOp .and t x y t2,ty,ps,af,gd⟩ m (.int k z):=by
  subst hz;exact zso h1 h2
theorem zao {t t2:TypeId} {x y:Operand} {k k2:IntKind} {a b z:Int} (h1:vz m x=some (.int k a)) (h2:vz m y=some (.int k2 b)) (hb:0≤b) (hz:a / 2^min b.toNat k.bits=z):PV P n ⟨d,.binOp .shr t x y t2,ty,ps,af,gd⟩ m (.int k z):=fun ac w f=>by
  simp [execOp,f.ev h1,f.ev h2,eqGuard_at_int,binOp_shr,shift_shr_any _ _ _ _ hb,hz]
end
end Sp
namespace Mx
def sm:Nat→(Nat→Rat)→Rat
  |0,_=>0
  |n+1,f=>sm n f+f n
theorem J8 (n:Nat) (f:Nat→Rat):sm (n+1) f=sm n f+f n:=rfl
theorem vo {n:Nat} {f g:Nat→Rat} (h:∀i,i<n→f i=g i):sm n f=sm n g:=by
  induction n with
  |zero=>rfl
  |succ n ih=>unfold sm;rw [ih fun i hi=>h i Oo,h n Oo]
theorem J9 {n:Nat} {f:Nat→Rat} (h:∀i,i<n→f i=0):sm n f=0:=by
  induction n with
  |zero=>rfl
  |succ n ih=>unfold sm;rw [ih fun i hi=>h i Oo,h n Oo];grind
theorem za7 (n:Nat) (f g:Nat→Rat):sm n (fun i=>f i+g i)=sm n f+sm n g:=by
  induction n with
  |zero=>unfold sm;grind
  |succ n ih=>unfold sm;rw [ih];grind
theorem zhR (n:Nat) (f g:Nat→Rat):sm n (fun i=>f i - g i)=sm n f - sm n g:=by
  induction n with
  |zero=>unfold sm;grind
  |succ n ih=>unfold sm;rw [ih];grind
theorem Vo (n:Nat) (c:Rat) (f:Nat→Rat):sm n (fun i=>c*f i)=c*sm n f:=by
  induction n with
  |zero=>unfold sm;grind
  |succ n ih=>unfold sm;rw [ih];grind
theorem zeI (n m:Nat) (f:Nat→Nat→Rat):sm n (fun i=>sm m (fun k=>f i k))=sm m (fun k=>sm n (fun i=>f i k)):=by
  induction n with
  |zero=>exact (J9 fun _ _=>rfl).symm
  |succ n ih=>rw [J8,ih,←za7];exact vo fun k _=>(J8 n _).symm
theorem Ka {n p:Nat} {v:Rat} {f:Nat→Rat} (hp:p<n):sm n (fun c=>if c=p then f c else 0)=f p:=by
  induction n with
  |zero=>omega
  |succ n ih=>
    rw [J8]
    by_cases e:p=n
    · subst e
      rw [J9 fun i hi=>if_neg Oo,if_pos rfl];grind
    · rw [ih Oo,if_neg Oo];grind
abbrev Mt:=List (List Rat)
def e (m:Mt) (i c:Nat):Rat:=(m.getD i []).getD c 0
theorem Zk {α:Type} {l:List α} {i j:Nat} {x d:α} (h:i<l.length):(l.set i x).getD j d=if j=i then x else l.getD j d:=by
  rw [yq,yM,yq]
  by_cases k:i=j
  · subst k;simp [h]
  · rw [if_neg k,if_neg (fun x=>k x.symm)]
def swp (m:Mt) (r k:Nat):Mt:=(m.set r (m.getD k [])).set k (m.getD r [])
theorem zjG (m:Mt) (r k:Nat):(swp m r k).length=m.length:=by unfold swp;simp
theorem swp_get {m:Mt} {r k i:Nat} (hr:r<m.length) (hk:k<m.length):(swp m r k).getD i []=if i=k then m.getD r [] else if i=r then m.getD k [] else m.getD i []:=by
  unfold swp
  rw [Zk (by simpa using hk),Zk hr]
def sc (row:List Rat) (x:Rat) (j t:Nat):List Rat:=(yT row.length).map fun c=>if j≤c∧c<t then x*row.getD c 0 else row.getD c 0
theorem jR {n c:Nat} {f:Nat→Rat}:((yT n).map f).getD c 0=if c<n then f c else 0:=by
  rw [yq,yB]
  by_cases h:c<n
  · rw [yai h,if_pos h];rfl
  · rw [if_neg h,yC (by simpa using h)];rfl
theorem j9 {α:Type} {a b:List α} (d:α) (h:a.length=b.length) (k:∀c,c<a.length→a.getD c d=b.getD c d):a=b:=by
  refine List.ext_getElem h fun i h1 h2=> ?_
  have:=k i h1
  rw [yq,yq,yv h1,yv h2] at this
  exact this
theorem KS (row:List Rat) (x:Rat) (j t:Nat):(sc row x j t).length=row.length:=by unfold sc;simp
theorem KT {row:List Rat} {x:Rat} {j t c:Nat} (h:c<row.length):(sc row x j t).getD c 0=if j≤c∧c<t then x*row.getD c 0 else row.getD c 0:=by
  unfold sc;rw [jR,if_pos h]
theorem zmG (row:List Rat) (x:Rat) (j:Nat):sc row x j j=row:=
  j9 0 (KS _ _ _ _) fun c hc=>by
    rw [KS] at hc
    rw [KT hc,if_neg Oo]
theorem zpD {row:List Rat} {x:Rat} {j t:Nat} (hj:j≤t) (ht:t<row.length):(sc row x j t).set t (x*(sc row x j t).getD t 0)=sc row x j (t+1):=
  j9 0 (by rw [yr,KS,KS]) fun c hc=>by
    rw [yr,KS] at hc
    rw [Zk (by rw [KS];exact ht),KT hc,KT ht,KT hc]
    by_cases k:c=t
    · subst k;rw [if_pos rfl,if_neg Oo,if_pos Oo]
    · rw [if_neg k]
      by_cases q:j≤c∧c<t
      · rw [if_pos q,if_pos Oo]
      · rw [if_neg q,if_neg Oo]
def sb (row other:List Rat) (x:Rat) (j t:Nat):List Rat:=(yT row.length).map fun c=>if j≤c∧c<t then row.getD c 0 - x*other.getD c 0 else row.getD c 0
theorem Vq (row other:List Rat) (x:Rat) (j t:Nat):(sb row other x j t).length=row.length:=by unfold sb;simp
theorem KU {row other:List Rat} {x:Rat} {j t c:Nat} (h:c<row.length):(sb row other x j t).getD c 0=if j≤c∧c<t then row.getD c 0 - x*other.getD c 0 else row.getD c 0:=by
  unfold sb;rw [jR,if_pos h]
theorem zmH (row other:List Rat) (x:Rat) (j:Nat):sb row other x j j=row:=
  j9 0 (Vq _ _ _ _ _) fun c hc=>by
    rw [Vq] at hc
    rw [KU hc,if_neg Oo]
theorem zjH {row other:List Rat} {x:Rat} {j t:Nat} (hj:j≤t) (ht:t<row.length):(sb row other x j t).set t ((sb row other x j t).getD t 0 - x*other.getD t 0)=sb row other x j (t+1):=
  j9 0 (by rw [yr,Vq,Vq]) fun c hc=>by
    rw [yr,Vq] at hc
    rw [Zk (by rw [Vq];exact ht),KU hc,KU ht,KU hc]
    by_cases k:c=t
    · subst k;rw [if_pos rfl,if_neg Oo,if_pos Oo]
    · rw [if_neg k]
      by_cases q:j≤c∧c<t
      · rw [if_pos q,if_pos Oo]
      · rw [if_neg q,if_neg Oo]
theorem zpE {row other:List Rat} {x:Rat} {j t:Nat} (hj:j≤t) (ht:t<row.length) (h0:other.getD t 0=0):sb row other x j t=sb row other x j (t+1):=by
  rw [← zjH hj ht,h0]
  refine j9 0 (by rw [yr]) fun c hc=> ?_
  rw [Vq] at hc
  rw [Zk (by rw [Vq];exact ht)]
  split
  · rename_i k;rw [k];grind
  · rfl
def el (m:Mt) (r j t:Nat):Mt:=(yT m.length).map fun i=>if i<t∧i≠r then sb (m.getD i []) (m.getD r []) (e m i j) j (m.getD i []).length else m.getD i []
theorem zcG {n i:Nat} {f:Nat→List Rat} (h:i<n):((yT n).map f).getD i []=f i:=by
  rw [yq,yB,yai h];rfl
theorem Q1 (m:Mt) (r j t:Nat):(el m r j t).length=m.length:=by unfold el;simp
theorem Jd {m:Mt} {r j t i:Nat} (h:i<m.length):(el m r j t).getD i []=if i<t∧i≠r then sb (m.getD i []) (m.getD r []) (e m i j) j (m.getD i []).length else m.getD i []:=by
  unfold el;rw [zcG h]
theorem zt6 (m:Mt) (r j:Nat):el m r j 0=m:=j9 [] (Q1 _ _ _ _) fun i hi=>by
  rw [Q1] at hi
  rw [Jd hi,if_neg Oo]
theorem zmI {m:Mt} {r j t:Nat} (hr:r<m.length):(el m r j t).getD r []=m.getD r []:=by rw [Jd hr,if_neg Oo]
theorem zeJ {m:Mt} {r j t:Nat} (ht:t<m.length):(el m r j t).getD t []=m.getD t []:=by rw [Jd ht,if_neg Oo]
theorem zjI {m:Mt} {r j t:Nat} (ht:t<m.length) (hr:t≠r):(el m r j t).set t (sb (m.getD t []) (m.getD r []) (e m t j) j (m.getD t []).length)=el m r j (t+1):=
  j9 [] (by rw [yr,Q1,Q1]) fun i hi=>by
    rw [yr,Q1] at hi
    rw [Zk (by rw [Q1];exact ht),Jd hi,Jd hi]
    by_cases k:i=t
    · subst k;rw [if_pos rfl,if_pos ⟨Oo,hr⟩]
    · rw [if_neg k]
      by_cases q:i<t∧i≠r
      · rw [if_pos q,if_pos ⟨Oo,q.2⟩]
      · rw [if_neg q,if_neg Oo]
theorem zjJ {m:Mt} {r j:Nat} (hr:r<m.length):el m r j r=el m r j (r+1):=j9 [] (by rw [Q1,Q1]) fun i hi=>by
  rw [Q1] at hi
  rw [Jd hi,Jd hi]
  by_cases q:i<r∧i≠r
  · rw [if_pos q,if_pos ⟨Oo,q.2⟩]
  · rw [if_neg q,if_neg Oo]
theorem zt7 {row other:List Rat} {j t:Nat}:sb row other 0 j t=row:=j9 0 (Vq _ _ _ _ _) fun c hc=>by
  rw [Vq] at hc
  rw [KU hc];split
  · grind
  · rfl
theorem zpF {m:Mt} {r j t:Nat} (ht:t<m.length) (h0:e m t j=0):el m r j t=el m r j (t+1):=by
  by_cases hr:t=r
  · subst hr;exact zjJ ht
  · rw [← zjI ht hr, h0, zt7]
    refine j9 [] (by rw [yr]) fun i hi=> ?_
    rw [Q1] at hi
    rw [Zk (by rw [Q1];exact ht)]
    split
    · rename_i k;rw [k];exact zeJ ht
    · rfl
structure Rd (N K:Nat) (m0 m:Mt) (j:Nat) (ps:List Nat):Prop where
  len:m.length=K
  rl:∀i,i<K→(m.getD i []).length=N
  plj:ps.length≤j
  plk:ps.length≤K
  plt:∀t,t<ps.length→ps.getD t 0<j
  inc:∀s t,s<t→t<ps.length→ps.getD s 0<ps.getD t 0
  one:∀t s,t<ps.length→s<ps.length→e m t (ps.getD s 0)=if t=s then 1 else 0
  zero:∀i c,ps.length≤i→i<K→c<j→e m i c=0
  sub:∀i,i<K→∃y:Nat→Rat,∀c,c<N→e m i c=sm K (fun t=>y t*e m0 t c)
  sup:∀x:Nat→Rat,(∀i,i<K→sm N (fun c=>e m i c*x c)=0)→∀i,i<K→sm N (fun c=>e m0 i c*x c)=0
section
variable {N K : Nat} {m0 m : Mt} {j : Nat} {ps : List Nat}
theorem Rd.start (hl:m0.length=K) (hr:∀i,i<K→(m0.getD i []).length=N):Rd N K m0 m0 0 []:=
  ⟨hl,hr,yJ _,Nat.zero_le _,fun t h=>absurd h (ybe _),fun s t _ h=>absurd h (ybe _),fun t s h=>absurd h (ybe _),fun i c _ _ h=>absurd h (ybe _),
    fun i hi=>⟨fun t=>if t=i then 1 else 0,fun c _=>by
      have:=Ka (n:=K) (p:=i) (v:=0) (f:=fun t=>e m0 t c) hi
      rw [← this];refine vo fun t _=> ?_
      split <;> grind⟩,fun x h=>h⟩
theorem Rd.skip (h:Rd N K m0 m j ps) (hz:∀i,ps.length≤i→i<K→e m i j=0):Rd N K m0 m (j+1) ps:=
  ⟨h.len,h.rl,by have:=h.plj;omega,h.plk,fun t ht=>by have:=h.plt t ht;omega,h.inc,h.one,fun i c hi hk hc=>by
    by_cases k:c=j
    · subst k;exact hz i hi hk
    · exact h.zero i c hi hk Oo,h.sub,h.sup⟩
theorem zdR {r k i c:Nat} (hr:r<m.length) (hk:k<m.length):e (swp m r k) i c=if i=k then e m r c else if i=r then e m k c else e m i c:=by
  unfold e;rw [swp_get hr hk];split
  · rfl
  · split <;> rfl
theorem Rd.swp (h:Rd N K m0 m j ps) {k:Nat} (hr:ps.length<K) (hk:ps.length≤k) (hkK:k<K):Rd N K m0 (swp m ps.length k) j ps:=by
  have hl:=h.len
  have es:∀i c,e (Mx.swp m ps.length k) i c=if i=k then e m ps.length c else if i=ps.length then e m k c else e m i c:=fun i c=>zdR Oo Oo
  refine ⟨by rw [zjG];exact hl,fun i hi=> ?_,h.plj,h.plk,h.plt,h.inc,fun t s ht hs=> ?_,fun i c hi hk2 hc=> ?_,fun i hi=> ?_,fun x hx=>h.sup x fun i hi=> ?_⟩
  · rw [swp_get Oo Oo]; split
    · exact h.rl _ hr
    · split
      · exact h.rl _ hkK
      · exact h.rl _ hi
  · rw [es,if_neg Oo,if_neg Oo];exact h.one t s ht hs
  · rw [es]; split
    · exact h.zero _ _ (yJ _) hr hc
    · split
      · exact h.zero _ _ hk hkK hc
      · exact h.zero _ _ hi hk2 hc
  · by_cases a : i = k
    · obtain ⟨y,hy⟩:=h.sub _ hr;exact ⟨y,fun c hc=>by rw [es,if_pos a];exact hy c hc⟩
    · by_cases b : i = ps.length
      · obtain ⟨y,hy⟩:=h.sub _ hkK;exact ⟨y,fun c hc=>by rw [es,if_neg a,if_pos b];exact hy c hc⟩
      · obtain ⟨y,hy⟩:=h.sub _ hi;exact ⟨y,fun c hc=>by rw [es,if_neg a,if_neg b];exact hy c hc⟩
  · by_cases a : i = k
    · by_cases b : k = ps.length
      · have := hx i hi
        rw [vo fun c _=>by rw [es,if_pos a]] at this
        rw [a,b];exact this
      · have := hx ps.length hr
        rw [vo fun c _=>by rw [es,if_neg (fun z=>b z.symm),if_pos rfl]] at this
        rw [a];exact this
    · by_cases b : i = ps.length
      · have := hx k hkK
        rw [vo fun c _=>by rw [es,if_pos rfl]] at this
        rw [b];exact this
      · have := hx i hi
        rw [vo fun c _=>by rw [es,if_neg a,if_neg b]] at this
        exact this
theorem zcH {i r c:Nat} {row:List Rat} (hr:r<m.length):e (m.set r row) i c=if i=r then row.getD c 0 else e m i c:=by
  unfold e;rw [Zk hr];split <;> rfl
theorem Rd.scale (h:Rd N K m0 m j ps) {x:Rat} (hr:ps.length<K) (hx:x≠0):Rd N K m0 (m.set ps.length (sc (m.getD ps.length []) x j N)) j ps∧∀c,c<N→e (m.set ps.length (sc (m.getD ps.length []) x j N)) ps.length c=x*e m ps.length c:=by
  have hl:=h.len
  have hrl:=h.rl _ hr
  have er:∀c,c<N→e (m.set ps.length (sc (m.getD ps.length []) x j N)) ps.length c=x*e m ps.length c:=fun c hc=>by
    rw [zcH Oo,if_pos rfl,KT Oo]
    split
    · rfl
    · rename_i k
      have:=h.zero ps.length c (yJ _) hr Oo
      show e m ps.length c=_;rw [this];grind
  have ei:∀i c,i≠ps.length→e (m.set ps.length (sc (m.getD ps.length []) x j N)) i c=e m i c:=fun i c hi=>by rw [zcH Oo,if_neg hi]
  refine ⟨⟨by rw [yr];exact hl,fun i hi=> ?_,h.plj,h.plk,h.plt,h.inc,fun t s ht hs=> ?_,fun i c hi hk2 hc=> ?_,fun i hi=> ?_,fun y hy=>h.sup y fun i hi=> ?_⟩,er⟩
  · rw [Zk Oo]; split
    · rw [KS];exact hrl
    · exact h.rl _ hi
  · rw [ei _ _ Oo];exact h.one t s ht hs
  · by_cases a : i = ps.length
    · subst a
      rw [zcH Oo,if_pos rfl]
      by_cases q:c<N
      · rw [KT Oo,if_neg Oo];exact h.zero _ _ (yJ _) hr hc
      · unfold sc;rw [jR,if_neg Oo]
    · rw [ei _ _ a];exact h.zero _ _ hi hk2 hc
  · by_cases a : i = ps.length
    · obtain ⟨y, hy⟩ := h.sub _ hr
      exact ⟨fun t=>x*y t,fun c hc=>by rw [a,er c hc,hy c hc,←Vo];exact vo fun t _=>by grind⟩
    · obtain ⟨y,hy⟩:=h.sub _ hi;exact ⟨y,fun c hc=>by rw [ei _ _ a];exact hy c hc⟩
  · have h9 := hy i hi
    by_cases a:i=ps.length
    · rw [a] at h9 ⊢
      rw [vo fun c hc=>by rw [er c hc]] at h9
      rw [vo (g:=fun c=>x*(e m ps.length c*y c)) fun c _=>by grind,Vo] at h9
      rcases Rat.mul_eq_zero.1 h9 with k|k
      · exact absurd k hx
      · exact k
    · rwa [vo fun c _=>by rw [ei _ _ a]] at h9
theorem Rd.elim (h:Rd N K m0 m j ps) (hr:ps.length<K) (hjN:j<N) (h1:e m ps.length j=1):Rd N K m0 (el m ps.length j K) (j+1) (ps++[j]):=by
  have hl:=h.len
  have hrl:=h.rl _ hr
  have er:∀c,e (el m ps.length j K) ps.length c=e m ps.length c:=fun c=>by unfold e;rw [zmI Oo]
  have ei:∀i c,i<K→i≠ps.length→c<N→e (el m ps.length j K) i c=e m i c - e m i j*e m ps.length c:=fun i c hi hn hc=>by
    have hil:=h.rl i hi
    have e0:e (el m ps.length j K) i c=(sb (m.getD i []) (m.getD ps.length []) (e m i j) j (m.getD i []).length).getD c 0:=by
      show ((el m ps.length j K).getD i []).getD c 0=_
      rw [Jd Oo,if_pos ⟨hi,hn⟩]
    rw [e0,KU Oo]
    split
    · rfl
    · rename_i k
      have:=h.zero ps.length c (yJ _) hr Oo
      rw [this];show e m i c=_;grind
  have hpl:(ps++[j]).length=ps.length+1:=by simp
  have pg:∀s,s<ps.length→(ps++[j]).getD s 0=ps.getD s 0:=fun s hs=>by rw [yq,List.getElem?_append_left hs,yq]
  have pl:(ps++[j]).getD ps.length 0=j:=by rw [yq,yae (yJ _)];simp
  refine ⟨by rw [Q1];exact hl,fun i hi=> ?_,by rw [hpl];have:=h.plj;omega,by rw [hpl];omega,fun t ht=> ?_,fun s t hst ht=> ?_,fun t s ht hs=> ?_,fun i c hi hk2 hc=> ?_,fun i hi=> ?_,fun y hy=>h.sup y fun i hi=> ?_⟩
  · rw [Jd Oo]; split
    · rw [Vq];exact h.rl _ hi
    · exact h.rl _ hi
  · rw [hpl] at ht
    by_cases a:t=ps.length
    · rw [a,pl];omega
    · rw [pg t Oo];have:=h.plt t Oo;omega
  · rw [hpl] at ht
    by_cases a:t=ps.length
    · rw [a,pl,pg s Oo];exact h.plt s Oo
    · rw [pg t Oo,pg s Oo];exact h.inc s t hst Oo
  · rw [hpl] at ht hs
    have hps:∀s,s<ps.length→e m ps.length (ps.getD s 0)=0:=fun s hs=>h.zero _ _ (yJ _) hr (h.plt s hs)
    by_cases a:t=ps.length
    · rw [a, er]
      by_cases b:s=ps.length
      · rw [b,pl,h1,if_pos rfl]
      · rw [pg s Oo,hps s Oo,if_neg (fun z=>b z.symm)]
    · have htK := h.plk
      by_cases b:s=ps.length
      · rw [b,pl,ei t j Oo a hjN,h1,if_neg a];grind
      · have hsj := h.plt s Oo
        rw [pg s Oo,ei t _ Oo a Oo,hps s Oo,h.one t s Oo Oo];grind
  · rw [hpl] at hi
    by_cases q:c<N
    · rw [ei i c hk2 Oo q]
      by_cases b:c=j
      · rw [b,h1];grind
      · rw [h.zero i c Oo hk2 Oo,h.zero ps.length c (yJ _) hr Oo];grind
    · omega
  · by_cases a : i = ps.length
    · obtain ⟨y,hy⟩:=h.sub _ hr;exact ⟨y,fun c hc=>by rw [a,er];exact hy c hc⟩
    · obtain ⟨y, hy⟩ := h.sub _ hi
      obtain ⟨z,hz⟩:=h.sub _ hr
      exact ⟨fun t=>y t - e m i j*z t,fun c hc=>by
        rw [ei i c hi a hc,hy c hc,hz c hc,←Vo,←zhR];exact vo fun t _=>by grind⟩
  · have hq := hy ps.length hr
    rw [vo fun c _=>by rw [er c]] at hq
    by_cases a:i=ps.length
    · rw [a];exact hq
    · have h9 := hy i hi
      rw [vo (g:=fun c=>e m i c*y c - e m i j*(e m ps.length c*y c)) fun c hc=>by rw [ei i c hi a hc];grind,zhR,Vo,hq] at h9
      grind
theorem Rd.step (h:Rd N K m0 m j ps) {k:Nat} (hk:ps.length≤k) (hkK:k<K) (hjN:j<N) (hp:e m k j≠0):
    Rd N K m0 (el ((Mx.swp m ps.length k).set ps.length (sc ((Mx.swp m ps.length k).getD ps.length []) (1 / e m k j) j N)) ps.length j K) (j+1) (ps++[j]):=by
  have hl:=h.len
  have h1:=h.swp (k:=k) Oo hk hkK
  have hx:(1 / e m k j:Rat)≠0:=fun z=>by
    have:=Rat.mul_inv_cancel _ hp
    rw [Rat.div_def,Rat.one_mul] at z
    rw [z] at this;grind
  obtain ⟨h2,h3⟩:=h1.scale (x:=1 / e m k j) Oo hx
  refine h2.elim Oo hjN ?_
  rw [h3 j hjN,zdR Oo Oo]
  have e9:(if ps.length=k then e m ps.length j else if ps.length=ps.length then e m k j else e m ps.length j)=e m k j:=by
    split
    · rename_i z;rw [z]
    · rw [if_pos rfl]
  rw [e9,Rat.div_def,Rat.one_mul]
  exact Rat.inv_mul_cancel _ hp
def xs (m:Mt) (n:Nat) (ps:List Nat):Nat→List Rat
  |0=>yG n 0
  |t+1=>(xs m n ps t).set (ps.getD t 0) (e m t n)
theorem Rd.inj (h:Rd N K m0 m j ps) {t s:Nat} (ht:t<ps.length) (hs:s<ps.length) (he:ps.getD t 0=ps.getD s 0):t=s:=by
  have h1:=h.one t s ht hs
  have h2:=h.one t t ht ht
  rw [he,h1,if_pos rfl] at h2
  split at h2
  · assumption
  · exact absurd h2 Od
end
end Mx
namespace Mx
open Big
section
variable {M : Mt} {i r j t c N K : Nat} {x : Rat}
theorem Wy (h:i<M.length):M.set i (M.getD i [])=M:=j9 [] (by simp) fun k hk=>by
  rw [Zk h];split
  · rename_i e;rw [e]
  · rfl
theorem zkV (hi:i<M.length) (hr:c<(M.getD i []).length) (hc:t≤c):e (M.set i (sb (M.getD i []) (M.getD r []) x j t)) i c=e M i c:=by
  rw [zcH hi,if_pos rfl,KU hr,if_neg Oo];rfl
theorem zga (hi:i<M.length) {l:List Rat} (hne:r≠i):e (M.set i l) r c=e M r c:=by rw [zcH hi,if_neg hne]
theorem zkW (hi:i<M.length):M.set i (sb (M.getD i []) (M.getD r []) x j j)=M:=by rw [zmH];exact Wy hi
theorem zmJ (hi:i<M.length) (hj:j≤t) (ht:t<(M.getD i []).length):(M.set i (sb (M.getD i []) (M.getD r []) x j t)).set i (((M.set i (sb (M.getD i []) (M.getD r []) x j t)).getD i []).set t (e M i t - x*e M r t))=M.set i (sb (M.getD i []) (M.getD r []) x j (t+1)):=by
  rw [Zk hi,if_pos rfl,List.set_set,←zjH hj ht]
  have:(sb (M.getD i []) (M.getD r []) x j t).getD t 0=e M i t:=by rw [KU ht,if_neg Oo];rfl
  rw [this];rfl
theorem zmK (hj:j≤t) (ht:t<(M.getD i []).length) (h0:e M r t=0):M.set i (sb (M.getD i []) (M.getD r []) x j t)=M.set i (sb (M.getD i []) (M.getD r []) x j (t+1)):=by rw [zpE hj ht h0]
theorem zkX (hi:i<M.length) (hr:c<(M.getD i []).length) (hc:t≤c):e (M.set i (sc (M.getD i []) x j t)) i c=e M i c:=by
  rw [zcH hi,if_pos rfl,KT hr,if_neg Oo];rfl
theorem zkY (hi:i<M.length):M.set i (sc (M.getD i []) x j j)=M:=by rw [zmG];exact Wy hi
theorem zt8 (hi:i<M.length) (hj:j≤t) (ht:t<(M.getD i []).length):(M.set i (sc (M.getD i []) x j t)).set i (((M.set i (sc (M.getD i []) x j t)).getD i []).set t (x*e M i t))=M.set i (sc (M.getD i []) x j (t+1)):=by
  rw [Zk hi,if_pos rfl,List.set_set,←zpD hj ht]
  have:(sc (M.getD i []) x j t).getD t 0=e M i t:=by rw [KT ht,if_neg Oo];rfl
  rw [this]
theorem zt9 (ht:t<M.length):e (el M r j t) t c=e M t c:=by unfold e;rw [zeJ ht]
theorem zu9 (ht:t<M.length) (hr:r<M.length) (hne:t≠r) (hN:(M.getD t []).length=N):(el M r j t).set t (sb ((el M r j t).getD t []) ((el M r j t).getD r []) (e M t j) j N)=el M r j (t+1):=by
  rw [zeJ ht,zmI hr,←hN];exact zjI ht hne
theorem zuR (ht:t<M.length) (h:t=r∨e (el M r j t) t j=0):el M r j t=el M r j (t+1):=by
  rcases h with h|h
  · subst h;exact zjJ ht
  · rw [zt9 ht] at h;exact zpF ht h
theorem Rd.step' {m0:Mt} {m M2 M3:Mt} {ps:List Nat} {xk:Rat} (h:Rd N K m0 m j ps) {k:Nat} (hk:ps.length≤k) (hkK:k<K) (hjN:j<N) (hp:e m k j≠0) (e2:M2=Mx.swp m ps.length k) (ex:xk=((1:Int):Rat) / e M2 ps.length j) (e3:M3=M2.set ps.length (sc (M2.getD ps.length []) xk j N)):
    Rd N K m0 (el M3 ps.length j K) (j+1) (ps++[j]):=by
  have h9:=h.step hk hkK hjN hp
  have hl:=h.len
  have ep:e M2 ps.length j=e m k j:=by
    rw [e2,zdR Oo Oo]
    split
    · rename_i z;rw [z]
    · rw [if_pos rfl]
  rw [ep] at ex
  have ex':xk=1 / e m k j:=ex
  rw [e3,ex',e2]
  exact h9
theorem zpG {m:Mt} {k:Nat} (hr:r<m.length) (hk:k<m.length):e (Mx.swp m r k) r j=e m k j:=by
  rw [zdR hr hk]
  split
  · rename_i z;rw [z]
  · rw [if_pos rfl]
theorem zmL {y:Rat} {B:Nat} (hy:y≠0) (h:hq y≤B):hq (((1:Int):Rat) / y)≤B+1:=by
  have:=Qs ((1:Int):Rat) hy
  have h1:hq ((1:Int):Rat)=1:=zeC
  omega
def bd (M:Mt) (B:Nat):Prop:=∀i c,hq (e M i c)≤B
def H (b:Nat):Nat→Nat
  |0=>b
  |j+1=>6*H b j+4
theorem zhS (b:Nat):∀{j k:Nat},j≤k→H b j≤H b k:=fun {j k} h=>by
  induction h with
  |refl=>exact yJ _
  |step _ ih=>rw [H];omega
theorem bd.up {B C:Nat} (h:bd M B) (k:B≤C):bd M C:=fun i c=>yY (h i c) k
theorem bd.swp {B k:Nat} (h:bd M B) (hr:r<M.length) (hk:k<M.length):bd (Mx.swp M r k) B:=fun i c=>by
  rw [zdR hr hk];split
  · exact h _ _
  · split
    · exact h _ _
    · exact h _ _
theorem bd.sc {B:Nat} (h:bd M B) (hr:r<M.length) (hx:hq x≤B+1):bd (M.set r (Mx.sc (M.getD r []) x j t)) (2*B+1):=fun i c=>by
  rw [zcH hr];split
  · unfold Mx.sc; rw [jR]
    have h1:=h r c
    have h2:=jB x (e M r c)
    split
    · split
      · show hq (x*e M r c)≤_;omega
      · show hq (e M r c)≤_;omega
    · rw [vN];omega
  · have:=h i c;omega
theorem bd.el {B:Nat} (h:bd M B):bd (Mx.el M r j t) (3*B+1):=fun i c=>by
  have hp:=yY (KP _) (h i c)
  by_cases hi:i<M.length
  · unfold e
    rw [Jd hi]
    split
    · unfold sb; rw [jR]
      split
      · split
        · have h1 := h i c
          have h2:=jB (e M i j) (e M r c)
          have h3:=KO (e M i c) (e M i j*e M r c)
          have h4:=h i j
          have h5:=h r c
          show hq (e M i c - e M i j*e M r c)≤_;omega
        · have h1 := h i c
          show hq (e M i c)≤_;omega
      · rw [vN];omega
    · have h1 := h i c
      show hq (e M i c)≤_;omega
  · have : (Mx.el M r j t).getD i [] = [] := by rw [yq, yC (by rw [Q1]; omega)]; rfl
    unfold e;rw [this];show hq (0:Rat)≤_;rw [vN];omega
end
def ints (ps:List Nat):List Int:=ps.map fun n:Nat=>(n:Int)
theorem Qb (ps:List Nat):(ints ps).length=ps.length:=by unfold ints;simp
theorem ztu (ps:List Nat) (j:Nat):ints ps++[(j:Int)]=ints (ps++[j]):=by unfold ints;simp
theorem zap {ps:List Nat} {i:Nat}:(ints ps).getD i 0=((ps.getD i 0:Nat):Int):=by
  unfold ints
  rw [yq,yB,yq]
  cases ps[i]? <;> rfl
end Mx
namespace Rd
open Mx
structure Cm where
  (a b d w:Int)
deriving DecidableEq
def c0:Cm:=⟨0,0,0,0⟩
def bad (n:Int) (c:Cm):Prop:=c.a<0∨n≤c.a∨c.b<0∨n≤c.b∨c.d< -65535∨65535<c.d∨c.w<1∨4096<c.w
instance (n:Int) (c:Cm):Decidable (bad n c):=inferInstanceAs (Decidable (_∨_))
structure Ok (n:Nat) (c:Cm):Prop where
  a:c.a.toNat<n
  b:c.b.toNat<n
  a0:0≤c.a
  b0:0≤c.b
  ne:c.a.toNat≠c.b.toNat
  d: -65535≤c.d∧c.d≤65535
  w:1≤c.w∧c.w≤4096
def Oks (n:Nat) (l:List Cm):Prop:=∀c∈l,Ok n c
theorem Oks.getD {n:Nat} {l:List Cm} (h:Oks n l) {i:Nat} (hi:i<l.length):Ok n (l.getD i c0):=by
  refine h _ ?_
  rw [yq,yv hi]
  exact ybt _
def st (p:List Int) (c:Cm):List Int:=(p.set c.a.toNat (min (p.getD c.a.toNat 0) (p.getD c.b.toNat 0))).set c.b.toNat (min (p.getD c.a.toNat 0) (p.getD c.b.toNat 0))
theorem st_len (p:List Int) (c:Cm):(st p c).length=p.length:=by unfold st;simp
end Rd
namespace Ro
structure St where
  x:Int
  y:Int
  z:Int
  a:Int
  b:Int
  c:Int
  d:Int
  f:Int
  u:Int
  v:Int
def s0:St:=⟨0,0,0,0,0,0,0,0,0,0⟩
def s5 (n:Int):Prop:= -500≤n∧n≤500
structure St.ok (s:St):Prop where
  q:¬(s.a=0∧s.b=0∧s.c=0∧s.d=0)
  f1:1≤s.f
  p:(s5 s.x∧s5 s.y∧s5 s.z)∧(s5 s.u∧s5 s.v∧s5 s.f)∧s5 s.a∧s5 s.b∧s5 s.c∧s5 s.d
theorem zhT {P:St→Prop} {s t:St} (h:∀i,i<2→P (([s,t]:List St).getD i s0)):P s∧P t:=⟨h 0 Od,h 1 Od⟩
theorem zsp {P:St→Prop} {s t:St} (h:P s) (k:P t):∀i,i<2→P (([s,t]:List St).getD i s0):=fun i hi=>by
  have:i=0∨i=1:=Oo
  rcases this with rfl|rfl
  · exact h
  · exact k
theorem get_mem {α:Type} {l:List α} {i:Nat} {d:α} (h:i<l.length):l.getD i d∈l:=by
  rw [yq,yv h];exact ybt h
def nr (z:Rd.Cm):Prop:=(-1000≤z.a∧z.a≤1000)∧(-1000≤z.b∧z.b≤1000)∧(-1000≤z.d∧z.d≤1000)∧(-1000≤z.w∧z.w≤1000)
def fr (z:Rd.Cm):Prop:=(-0x100000≤z.a∧z.a≤0x100000)∧(-0x100000≤z.b∧z.b≤0x100000)∧(-0x100000≤z.d∧z.d≤0x100000)∧(-0x100000≤z.w∧z.w≤0x100000)
theorem in4 {z:Rd.Cm} (h:nr z):∀jj,jj<4→(-0x100000≤([z.a,z.b,z.d,z.w]:List Int).getD jj 0∧([z.a,z.b,z.d,z.w]:List Int).getD jj 0≤0x100000):=fun i hi=>by
  unfold nr at h
  have:i=0∨i=1∨i=2∨i=3:=Oo
  rcases this with rfl|rfl|rfl|rfl
  · show _≤z.a∧z.a≤_;omega
  · show _≤z.b∧z.b≤_;omega
  · show _≤z.d∧z.d≤_;omega
  · show _≤z.w∧z.w≤_;omega
theorem zdS {M:List (List Rat)} {i:Nat} (h:i<M.length):(M.take i).flatten++M.getD i []=(M.take (i+1)).flatten:=by
  rw [List.take_succ_eq_append_getElem h,List.flatten_append,yq,yv h]
  simp
end Ro
namespace Sp
open Go
section
variable {P : Program} {n : Sz} {m : Fm} {O : List As} {R : List Fa} {d : Option Tmp} {ty : TypeId} {ps : String} {af : Array Edge} {gd : Option (Nat × Bool)} {α : Type}
end
structure Bb where
  (ar le tp rt bt sx sy xx xy yy ms mx my:Int)
deriving DecidableEq
def b0:Bb:=⟨0,0,0,0,0,0,0,0,0,0,0,0,0⟩
end Sp
namespace Big
def jd (q:Rat):Rat:=if q<0 then -q else q
theorem zmM (q:Rat):(jd q).num=(q.num.natAbs:Int):=by
  unfold jd
  have k:= @Rat.num_nonneg q
  split
  · rename_i h; have : ¬ 0 ≤ q.num := fun e => by have := k.1 e; grind
    rw [Rat.neg_num];omega
  · rename_i h; have : 0 ≤ q.num := k.2 Og
    omega
theorem zmN (q:Rat):(jd q).den=q.den:=by unfold jd;split <;> simp [Rat.neg_den]
theorem zeK (q:Rat):hq (jd q)=hq q:=by unfold jd;split <;> simp [KN]
end Big
namespace Sp
open Go
def Wd.zz (u v:Wd):Prop:=u.s=false∧v.s=false∧u.n=0∧v.n=0
instance (u v:Wd):Decidable (Wd.zz u v):=inferInstanceAs (Decidable (_∧_))
def rQ:Rp Rat:=⟨4,Wd×Wd,fun _ w=>[w.1.b,w.1.l,w.2.b,w.2.l],fun g q w=>(qF true w.1 w.2 q).on g,fun _ _ _ _ h k=>(qF true _ _ _).mono _ _ h k,fun _ _=>rfl,fun _ _=>rfl⟩
theorem qR {A:Fa} {q:Rat} {w1 w2:Wd} {R:List Fa}:∀g,Holds g (A :: okF rQ q (w1,w2) :: R)→Holds g (A :: qF true w1 w2 q :: R):=fun g ⟨h,a,r⟩=>⟨h,a,r⟩
theorem VK {q:Rat} {w1 w2:Wd} {R:List Fa}:∀g,Holds g (okF rQ q (w1,w2) :: R)→Holds g (qF true w1 w2 q :: R):=fun g ⟨a,r⟩=>⟨a,r⟩
def qo (y:Big.RQ):Option Rat:=if Big.qok y then some (Big.qv y) else none
def eF (u v:Wd) (x:Option Rat):Fa:=⟨fun g=>∃y:Big.RQ,u.raw g y.1∧v.raw g y.2∧x=qo y,fun _ _ h ⟨y,a,b,e⟩=>⟨y,Wd.raw_mono h a,Wd.raw_mono h b,e⟩⟩
def rE:Rp (Option Rat):=⟨4,Wd×Wd,fun _ w=>[w.1.b,w.1.l,w.2.b,w.2.l],fun g x w=>(eF w.1 w.2 x).on g,fun _ _ _ _ h k=>(eF _ _ _).mono _ _ h k,fun _ _=>rfl,fun _ _=>rfl⟩
theorem qo_v (y:Big.RQ):(qo y).getD 0=Big.qv y:=by
  unfold qo;split
  · rfl
  · rename_i h;rw [Big.zeB h];rfl
theorem zsq {g:Hp} {u v:Wd} {x:Option Rat} (h:(eF u v x).on g):(qF x.isSome u v (x.getD 0)).on g:=by
  obtain ⟨y,a,b,rfl⟩:=h
  refine ⟨y,a,b,(qo_v y).symm,fun e=> ?_⟩
  by_cases hk:Big.qok y
  · exact hk
  · unfold qo at e;rw [if_neg hk] at e;cases e
theorem Kz {g:Hp} {u v:Wd} {q:Rat} (h:(qF true u v q).on g):(eF u v (some q)).on g:=by
  obtain ⟨y,a,b,e,k⟩:=h
  exact ⟨y,a,b,by unfold qo;rw [if_pos (k rfl),e]⟩
theorem Sl.re {α β:Type} {r:Rp α} {s:Rp β} {g:Hp} {p:Option Addr} {c:Nat} {l:List α} {f:α→β} (hz:r.sz=s.sz) (h:∀x γ,r.ok g x γ→∃δ,r.enc x γ=s.enc (f x) δ∧s.ok g (f x) δ) (k:Sl r g p c l):Sl s g p c (l.map f):=by
  refine ⟨by rw [yal];exact k.1,k.2.1,k.2.2.1,fun i x e=> ?_⟩
  rw [yB] at e
  obtain ⟨x0,e0,rfl⟩:=Option.map_eq_some_iff.1 e
  obtain ⟨b,off,γ,e1,e2,e3⟩:=k.2.2.2 i x0 e0
  obtain ⟨δ,d1,d2⟩:=h x0 γ e3
  exact ⟨b,off,δ,e1,by rw [← hz,←d1];exact e2,d2⟩
theorem zsr {R:List Fa} {p:Option Addr} {c:Nat} {l:List Rat} (i:Nat) (hi:R[i]? =some (zI rQ p c l)):∀g,Holds g R→(zI rE p c (l.map some)).on g:=fun g h=>
  Sl.re (r:=rQ) (s:=rE) rfl (fun x γ k=>⟨γ,rfl,Kz k⟩) (Holds.get i hi h)
theorem zbW {A:Fa} {x:Option Rat} {w1 w2:Wd} {R:List Fa}:∀g,Holds g (A :: okF rE x (w1,w2) :: R)→Holds g (A :: qF x.isSome w1 w2 (x.getD 0) :: eF w1 w2 x :: R):=fun g ⟨h,a,r⟩=>⟨h,zsq a,a,r⟩
theorem JT (g:Hp):(eF wz wz none).on g:=⟨((false,[]),(false,[])),⟨rfl,rfl,Od,Sl.nil _ _⟩,⟨rfl,rfl,Od,Sl.nil _ _⟩,by unfold qo;rw [if_neg Oz]⟩
section
variable {P : Program} {O : List As} {R : List Fa} {f : Nat} {u v : Wd}
theorem zpH (i:Nat) {x:Option Rat} (hi:R[i]? =some (eF u v x)):∀g,Holds g R→(qF x.isSome u v (x.getD 0)).on g:=fun g h=>zsq (Holds.get i hi h)
end
end Sp
namespace Sp
open Go
abbrev HP:=List (Option Addr×Nat)
def rp (hs:HP) (i:Nat):Option Addr:=(hs.getD i (none,0)).1
def rc (hs:HP) (i:Nat):Nat:=(hs.getD i (none,0)).2
def oh (hs:HP) (N:Nat):List (Option Addr×Nat×Nat):=hs.map fun h=>(h.1,N,h.2)
def rmA {α:Type} (T:TypeId) (r:Rp α) (h:Option Addr×Nat) (l:List α):As:=rowA T r h.1 h.2 l
def vp {α:Type} (T:TypeId) (r:Rp α) (hs:HP) (m:List (List α)):As:=zdt (yx (rmA T r) hs m)
theorem Z0 (hs:HP) (N:Nat):(oh hs N).length=hs.length:=by unfold oh;simp
theorem getD_some {β:Type} {l:List β} {i:Nat} (d:β) (h:i<l.length):l[i]? =some (l.getD i d):=by
  rw [yq,yv h];rfl
theorem Q2 {hs:HP} {N i:Nat} (h:i<hs.length):(oh hs N)[i]? =some (rp hs i,N,rc hs i):=by
  unfold oh;rw [yB,getD_some (none,0) h];rfl
def sw (hs:HP) (r k:Nat):HP:=(hs.set r (hs.getD k (none,0))).set k (hs.getD r (none,0))
theorem zss (hs:HP) (r k:Nat):(sw hs r k).length=hs.length:=by unfold sw;simp
theorem zua (hs:HP) (N r k:Nat):((oh hs N).set r (rp hs k,N,rc hs k)).set k (rp hs r,N,rc hs r)=oh (sw hs r k) N:=by
  unfold oh sw rp rc;rw [List.map_set,List.map_set]
section
variable {P : Program} {c : Cx} {n : Sz} {m : Fm} {O O' : List As} {R : List Fa} {d : Option Tmp} {ty : TypeId} {ps : String} {af : Array Edge} {gd : Option (Nat × Bool)} {α : Type} {T : TypeId} {r : Rp α} {hs : HP} {M : List (List α)} {w : World}
theorem zcI {k:Nat} (h1:k<hs.length) (h2:k<M.length):(yx (rmA T r) hs M)[k]? =some (rowA T r (rp hs k) (rc hs k) (M.getD k [])):=by
  rw [yN,getD_some (none,0) h1,getD_some [] h2];rfl
theorem zpI {k:Nat} {l:List α} (h1:k<hs.length):yx (rmA T r) hs (M.set k l)=(yx (rmA T r) hs M).set k (rowA T r (rp hs k) (rc hs k) l):=by
  refine yao fun i=> ?_
  rw [yM,yN,yN,yM,List.length_zipWith]
  by_cases e:k=i
  · subst e
    rw [if_pos rfl,if_pos rfl,getD_some (none,0) h1]
    by_cases q:k<M.length
    · rw [if_pos q,if_pos Oo];rfl
    · rw [if_neg q,if_neg Oo]
  · rw [if_neg e,if_neg e]
theorem jJ {s e:TypeId} {x ix:Operand} {N cap:Nat} {kk:IntKind} {z:Int} (i k j:Nat) (hi:O[i]? =some (vp T r hs M)) (hk:k<hs.length) (hM:k<M.length) (hN:(M.getD k []).length=N) (hu:P.underlying s=some (.slice e)) (ht:(P.info? e).map (·.size)=some r.sz)
    (h1:vz m x=some (.slice (rp hs k) N cap)) (h2:vz m ix=some (.int kk z)) (hz:z=(j:Int)) (hj:j<N):
    Vl P n ⟨d,.indexAddr s x ix,ty,ps,af,gd⟩ m O R (Y:=Unit) (fun _=>True) (fun _=>ZZ (rp hs k) (j*r.sz)) (fun _=>[]):=fun a f hh g sp hr=>by
  obtain ⟨k1,k2,ap,e0,hA,_,_⟩:=vG.pick i hi sp
  have hA2:vG g (yx (rmA T r) hs M) k1:=hA
  obtain ⟨k3,k4,ap2,e02,hA3,_,_⟩:=vG.pick k (zcI hk hM) hA2
  refine ⟨(),trivial,trivial,fun w _ _=> ?_⟩
  have hA':Qv T r (rp hs k) (rc hs k) (M.getD k []) g k3:=hA3
  rcases hA' with ⟨_,_,e5,_⟩|⟨b,off,cells,e6,_⟩
  · rw [e5] at hN;simp at hN;omega
  · subst hz
    rw [e6] at h1
    have hrun:=Z8 (P:=P) (a:=⟨b,off,none⟩) (cap:=cap) (kk:=kk) (w:=w) hu ht hj
    simp only [execOp,f.ev h1,f.ev h2,Sem.run_bind,hrun,Result.andThen_ok,Sem.run_pure,Addr.add_lit,ZZ,e6,ybv]
theorem Qc {t:TypeId} {x:Operand} {o:Nat} {x0:α} (i k j:Nat) (hi:O[i]? =some (vp T r hs M)) (hk:k<hs.length) (hM:k<M.length) (ht:Ty P t r.sz true) (h:vz m x=some (ZZ (rp hs k) o)) (ho:o=j*r.sz) (hx:(M.getD k [])[j]? =some x0):
    Vl P n ⟨d,.load t x,ty,ps,af,gd⟩ m O R (Y:=r.G) (fun _=>True) (fun y=> .agg (r.enc x0 y).toArray) (fun y=>[okF r x0 y]):=fun a f hh g sp hr=>by
  obtain ⟨k1,k2,ap,e0,hA,_,_⟩:=vG.pick i hi sp
  have hA2:vG g (yx (rmA T r) hs M) k1:=hA
  obtain ⟨y,hok,hrun⟩:=VN (P:=P) (n:=n) (d:=d) (ty:=ty) (ps:=ps) (af:=af) (gd:=gd) (O:=yx (rmA T r) hs M) (R:=R) k j (zcI hk hM) ht h ho hx a f k1 g hA2 hr
  exact ⟨y,trivial,⟨hok,trivial⟩,fun w hw hg=>hrun w (Has.mono hw (by rw [e0];exact Hp.le_joinL _ _)) hg⟩
theorem zmO {g h:Hp} {k:Nat} (hk:k<hs.length) (hM:k<M.length) (s:vG g [vp T r hs M] h):vG g (rowA T r (rp hs k) (rc hs k) (M.getD k []) :: zdt ((yx (rmA T r) hs M).eraseIdx k) :: []) h:=
  zl4 (O:=[]) (l:=yx (rmA T r) hs M) (zcI hk hM) s
theorem Jv {t:TypeId} {x y:Operand} {o k j:Nat} {x0:α} {γ0:r.G} {v:Value} (hk:k<hs.length) (hM:k<M.length) (hx:vz m x=some (ZZ (rp hs k) o)) (ho:o=j*r.sz) (hj:j<(M.getD k []).length) (hy:vz m y=some v) (hv:v.cells=(r.enc x0 γ0).toArray)
    (ht:(P.info? t).map (·.size)=some r.sz) (hok:∀g,Holds g R→r.ok g x0 γ0):
    Ef P n ⟨none,.store t x y,ty,ps,af,gd⟩ m [vp T r hs M] R (Y:=Unit) (fun _=>True) (fun _=>undef) (fun _=>[vp T r hs (M.set k ((M.getD k []).set j x0))]) (fun _=>[]):=by
  intro a f w hh g s rr ap hw hg K Q hK
  have s2:=zmO hk hM s
  have mm0:vR ⟨w,hh,g⟩ w ([rowA T r (rp hs k) (rc hs k) (M.getD k [])]++[zdt ((yx (rmA T r) hs M).eraseIdx k)]) R:=⟨hh,g,vR.start s2 rr ap hw hg⟩
  obtain ⟨h1,g1,q1,q2,q3,q4,q5,hfin⟩:=vR.framed mm0
  refine qh (P:=P) (n:=n) (ty:=ty) (ps:=ps) (af:=af) (gd:=gd) hx ho hj hy hv ht hok a f w h1 g1 q1 q2 q3 q4 q5 K Q fun z w' hz mm'=>hK z w' hz ?_
  have m3:=hfin w' _ _ mm'
  refine vR.resep (fun g' h' s'=> ?_) (vR.mapR (R':=[]) (fun _ _=>trivial) m3)
  have:=zkE (O:=[]) (l:=yx (rmA T r) hs M) (zcI hk hM) s'
  unfold vp
  rw [zpI hk]
  exact this
theorem vR.rmNil (T:TypeId) (r:Rp α) (mm:vR c w O R):vR c w (vp T r [] [] :: O) R:=
  mm.resep fun g h s=>⟨Hp.emp,h,Hp.emp_apart _,(Hp.emp_join _).symm,rfl,s⟩
theorem zkZ {g h:Hp} {l:List As} {A:As} (s:vG g (A :: zdt l :: O) h):vG g (zdt (l++[A]) :: O) h:=by
  obtain ⟨h1,hr,a,e,x,h2,hb,a2,e2,y,z⟩:=s
  subst e2;subst e
  have a':=Hp.apart_joinR.1 a
  refine ⟨h1.join h2,hb,Hp.apart_join.2 ⟨a'.2,a2⟩,(Hp.join_assoc _ _ _).symm,?_,z⟩
  have:vG g (A :: l) (h1.join h2):=⟨h1,h2,a'.1,rfl,x,y⟩
  exact vG.perm (List.perm_append_singleton A l).symm this
theorem vR.rmSnoc {p:Option Addr} {cap:Nat} {l:List α} (i q:Nat) (hi:O[i]? =some (rowA T r p cap l)) (hq:(O.eraseIdx i)[q]? =some (vp T r hs M)) (hl:hs.length=M.length) (mm:vR c w O R):vR c w (vp T r (hs++[(p,cap)]) (M++[l]) :: (O.eraseIdx i).eraseIdx q) R:=
  (mm.perm ((qP hi).trans (List.Perm.cons _ (qP hq)))).resep fun g h s=>by
    have:=zkZ s
    unfold vp
    rw [List.zipWith_append hl]
    exact this
theorem vR.rmSwap {j k:Nat} (i:Nat) (hi:O[i]? =some (vp T r hs M)) (hj:j<hs.length) (hk:k<hs.length) (hl:hs.length=M.length) (mm:vR c w O R):vR c w (vp T r (sw hs j k) ((M.set j (M.getD k [])).set k (M.getD j [])) :: O.eraseIdx i) R:=
  (mm.perm (qP hi)).resep fun g h s=>by
    obtain ⟨h1,h2,a,e,x,y⟩:=s
    refine ⟨h1,h2,a,e,?_,y⟩
    have hL:(yx (rmA T r) hs M).length=hs.length:=by rw [List.length_zipWith];omega
    have e2:yx (rmA T r) (sw hs j k) ((M.set j (M.getD k [])).set k (M.getD j []))=((yx (rmA T r) hs M).set j (rmA T r (hs.getD k (none,0)) (M.getD k []))).set k (rmA T r (hs.getD j (none,0)) (M.getD j [])):=by
      refine yao fun q=> ?_
      unfold sw
      rw [yN,yM,yM,yM,yM,yM,yM,yN,yr,yr,yr,hL]
      by_cases e1:k=q
      · subst e1;simp [hk,show k<M.length by omega]
      · by_cases e2 : j = q
        · subst e2;simp [e1,hj,show j<M.length by omega]
        · simp [e1,e2]
    show vG g (yx _ _ _) h1
    rw [e2]
    have gx:∀q,(hq:q<hs.length)→rmA T r (hs.getD q (none,0)) (M.getD q [])=(yx (rmA T r) hs M)[q]'Oo:=fun q hq=>by
      have h3:=zcI (T:=T) (r:=r) (hs:=hs) (M:=M) (k:=q) hq Oo
      rw [yv Oo] at h3
      exact (Option.some.inj h3).symm
    rw [gx k hk,gx j hj]
    exact vG.perm (List.set_set_perm Oo Oo).symm x
theorem zhU (hl:hs.length=M.length):vp T r hs M=zjl T r (yx (fun (h:Option Addr×Nat) (l:List α)=>(h.1,h.2,l)) hs M):=by
  unfold vp zjl;rw [List.map_zipWith];rfl
theorem vR.rmFreeze {T0:TypeId} {p:Option Addr} {cap N:Nat} (i q:Nat) (hi:O[i]? =some (rowA T0 rV p cap (oh hs N))) (hq:(O.set i emA)[q]? =some (vp T r hs M)) (hl:hs.length=M.length) (hN:∀k,k<M.length→(M.getD k []).length=N) (mm:vR c w O R):
    vR c w ((O.set i emA).set q emA) (zI (rS r) p cap M :: R):=by
  have e1:oh hs N=(yx (fun (h:Option Addr×Nat) (l:List α)=>(h.1,h.2,l)) hs M).map ov:=by
    refine yao fun k=> ?_
    unfold oh
    rw [yB,yB,yN]
    by_cases h:k<M.length
    · rw [getD_some (none, 0) (show k < hs.length by omega), getD_some [] h]
      simp only [ybv,ov,hN k h]
    · rw [yC Oo,yC (show M.length≤k by omega)];rfl
  have e2:(yx (fun (h:Option Addr×Nat) (l:List α)=>(h.1,h.2,l)) hs M).map (fun z:RW α=>z.2.2)=M:=by
    refine yao fun k=> ?_
    rw [yB,yN]
    by_cases h:k<M.length
    · rw [getD_some (none,0) (show k<hs.length by omega),getD_some [] h];rfl
    · rw [yC Oo,yC (show M.length≤k by omega)];rfl
  rw [e1] at hi
  rw [zhU hl] at hq
  have:=vR.rowsFreeze i q hi hq mm
  rw [e2] at this
  exact this
theorem zst {g h:Hp} {p:Option Addr} {cap:Nat} {l:List (Option Rat)} {l2:List Rat} (e:l=l2.map some) (s:vG g (rowA T rE p cap l :: O) h):vG g (rowA T rQ p cap l2 :: O) h:=by
  subst e
  obtain ⟨h1,h2,a,e,x,y⟩:=s
  refine ⟨h1,h2,a,e,?_,y⟩
  rcases x with ⟨a1,a2,a3,a4⟩|⟨b,off,cells,e1,e2,e3,e4,e5,e6⟩
  · exact .inl ⟨a1,a2,by simpa using a3,a4⟩
  · refine .inr ⟨b, off, cells, e1, by simpa using e2, e3, e4, e5, fun i x hx => ?_⟩
    obtain ⟨γ,q1,q2⟩:=e6 i (some x) (by rw [yB,hx];rfl)
    exact ⟨γ,q1,zsq q2⟩
theorem vR.rowEQ {p:Option Addr} {cap:Nat} {l:List (Option Rat)} {l2:List Rat} (i:Nat) (hi:O[i]? =some (rowA T rE p cap l)) (e:l=l2.map some) (mm:vR c w O R):vR c w (rowA T rQ p cap l2 :: O.eraseIdx i) R:=
  (mm.perm (qP hi)).resep fun g h s=>zst e s
end
end Sp
namespace Mx
open Go Sp
structure Sm {α:Type} (hs:HP) (m:List (List α)) (K N:Nat):Prop where
  h:hs.length=K
  l:m.length=K
  r:∀i,i<K→(m.getD i []).length=N
section
variable {α : Type} {hs : HP} {m : List (List α)} {K N : Nat}
theorem Sm.hk (s:Sm hs m K N) {k:Nat} (hk:k<K):k<hs.length:=by rw [s.h];exact hk
theorem Sm.mk' (s:Sm hs m K N) {k:Nat} (hk:k<K):k<m.length:=by rw [s.l];exact hk
theorem Sm.row (s:Sm hs m K N) {k:Nat} (hk:k<K):(m.getD k []).length=N:=s.r k hk
theorem Sm.hl (s:Sm hs m K N):hs.length=m.length:=s.h.trans s.l.symm
theorem Sm.setR (s:Sm hs m K N) {k:Nat} {l:List α} (hk:k<K) (hl:l.length=N):Sm hs (m.set k l) K N:=
  ⟨s.h,by rw [yr];exact s.l,fun i hi=>by
    rw [Zk (s.mk' hk)];split
    · exact hl
    · exact s.r i hi⟩
theorem Sm.rl (s:Sm hs m K N):∀k,k<m.length→(m.getD k []).length=N:=fun k hk=>s.r k (by rw [← s.l];exact hk)
end
section
variable {hs : HP} {m : Mt} {K N : Nat}
theorem Sm.setSb (s:Sm hs m K N) {k j t:Nat} {o:List Rat} {x:Rat} (hk:k<K):Sm hs (m.set k (sb (m.getD k []) o x j t)) K N:=s.setR hk (by rw [Vq];exact s.r k hk)
theorem Sm.setSc (s:Sm hs m K N) {k j t:Nat} {x:Rat} (hk:k<K):Sm hs (m.set k (sc (m.getD k []) x j t)) K N:=s.setR hk (by rw [KS];exact s.r k hk)
theorem Sm.el (s:Sm hs m K N) {r j t:Nat}:Sm hs (Mx.el m r j t) K N:=
  ⟨s.h,by rw [Q1];exact s.l,fun i hi=>by
    rw [Jd (s.mk' hi)];split
    · rw [Vq];exact s.r i hi
    · exact s.r i hi⟩
theorem Sm.swp (s:Sm hs m K N) {r k:Nat} (hr:r<K) (hk:k<K):Sm (sw hs r k) (Mx.swp m r k) K N:=
  ⟨by rw [zss];exact s.h,by rw [zjG];exact s.l,fun i hi=>by
    rw [swp_get (s.mk' hr) (s.mk' hk)];split
    · exact s.r r hr
    · split
      · exact s.r k hk
      · exact s.r i hi⟩
def mk (K N:Nat) (f:Nat→Nat→Rat):Mt:=(yT K).map fun i=>(yT N).map (f i)
theorem zpJ (K N:Nat) (f:Nat→Nat→Rat):mk (K+1) N f=mk K N f++[(yT N).map (f K)]:=by unfold mk;rw [List.range_succ,List.map_append];rfl
theorem ja (K N:Nat) (f:Nat→Nat→Rat):(mk K N f).length=K:=by unfold mk;simp
theorem Q3 {K N i:Nat} {f:Nat→Nat→Rat} (h:i<K):(mk K N f).getD i []=(yT N).map (f i):=by unfold mk;rw [zcG h]
theorem zbK {K N i c:Nat} {f:Nat→Nat→Rat} (h:i<K) (hc:c<N):e (mk K N f) i c=f i c:=by unfold e;rw [Q3 h,jR,if_pos hc]
theorem Je (K N:Nat) (f:Nat→Nat→Rat) (hh:hs.length=K):Sm hs (mk K N f) K N:=⟨hh,ja ..,fun i hi=>by rw [Q3 hi];simp⟩
theorem zcJ (K N:Nat) (f:Nat→Nat→Rat):∀i,i<K→((mk K N f).getD i []).length=N:=fun i hi=>by rw [Q3 hi];simp
def Wz (j N:Nat) (f:Nat→Rat):List (Option Rat):=(yT N).map fun c=>if c<j then some (f c) else none
theorem jW (j N:Nat) (f:Nat→Rat):(Wz j N f).length=N:=by unfold Wz;simp
theorem Qo (N:Nat) (f:Nat→Rat):yG N none=Wz 0 N f:=by
  refine j9 none (by rw [jW,yac]) fun c hc=> ?_
  rw [yac] at hc
  unfold Wz
  rw [yq,yq,yB,yai hc,List.getElem?_replicate,if_pos hc];rfl
theorem zjK {j N c:Nat} {f:Nat→Rat} (hc:c<N):(Wz j N f).getD c none=if c<j then some (f c) else none:=by
  unfold Wz;rw [yq,yB,yai hc];rfl
theorem VL {j N:Nat} {f:Nat→Rat} (hj:j<N):(Wz j N f).set j (some (f j))=Wz (j+1) N f:=by
  refine j9 none (by rw [yr,jW,jW]) fun c hc=> ?_
  rw [yr,jW] at hc
  rw [Zk (by rw [jW];exact hj),zjK hc,zjK hc]
  by_cases k:c=j
  · subst k;rw [if_pos rfl,if_pos Oo]
  · rw [if_neg k]
    by_cases q:c<j
    · rw [if_pos q,if_pos Oo]
    · rw [if_neg q,if_neg Oo]
theorem Jw (N:Nat) (f:Nat→Rat):Wz N N f=((yT N).map f).map some:=by
  unfold Wz
  rw [List.map_map]
  exact List.map_congr_left fun c hc=>by rw [if_pos (ybh.1 hc)];rfl
def oz (hs:HP) (N K:Nat):List (Option Addr×Nat×Nat):=oh hs N++yG (K - hs.length) (none,0,0)
theorem Jf (N K:Nat):yG K (none,0,0)=oz [] N K:=by unfold oz oh;simp
theorem Q4 (h:hs.length≤K):(oz hs N K).length=K:=by unfold oz;rw [yW,Z0,yac];omega
theorem zpK {p:Option Addr} {c:Nat} (h:hs.length<K):(oz hs N K).set hs.length (p,N,c)=oz (hs++[(p,c)]) N K:=by
  unfold oz oh
  rw [List.map_append,yW,List.set_append_right _ _ (by simp)]
  rw [yal,Nat.sub_self,show K - hs.length=(K - (hs.length+1))+1 by omega,List.replicate_succ,List.set_cons_zero,yD]
  rfl
theorem Jg {p:Option Addr} {c i:Nat} (hi:hs.length=i) (h:i<K):(oz hs N K).set i (p,N,c)=oz (hs++[(p,c)]) N K:=by subst hi;exact zpK h
theorem Z3 {p:Option Addr} {c i:Nat} (h:hs.length=i):(oz (hs++[(p,c)]) N K)[i]? =some (p,N,c):=by
  subst h
  unfold oz oh
  rw [List.map_append,yD,yae (by simp)]
  simp
theorem WS (h:hs.length=K):oz hs N K=oh hs N:=by unfold oz;rw [h,Nat.sub_self];simp
def eI (LL:List (List Int)) (i j:Nat):Rat:=(((LL.getD i []).getD j 0:Int):Rat)
def eB (A B:Mt) (n i j:Nat):Rat:=if j<n then e A i j else e B i (j - n)
end
end Mx
namespace Rd
open Mx
def T (n:Nat) (p:List Int) (x:Nat→Rat) (v:Int):Rat:=sm n fun j=>if p.getD j 0=v then x j else 0
end Rd
namespace Sp
open Go
abbrev Cm:=Rd.Cm
def okC (k:IntKind) (z:Cm):Prop:=Vb k z.a∧Vb k z.b∧Vb k z.d∧Vb k z.w
def rI4 (k:IntKind):Rp Cm:=fl 4 (fun z=>[.int k z.a,.int k z.b,.int k z.d,.int k z.w]) (okC k) (fun _=>rfl) (fun _=>rfl)
section
variable {P : Program} {n : Sz} {m : Fm} {O : List As} {R : List Fa} {d : Option Tmp} {ty : TypeId} {ps : String} {af : Array Edge} {gd : Option (Nat × Bool)} {T : TypeId} {hs : HP} {M : List (List Int)}
end
theorem zsu {k:IntKind}:∀g y γ,(rP (rI k) (rP (rI k) (rP (rI k) (rI k)))).ok g y γ→∃z δ,(rP (rI k) (rP (rI k) (rP (rI k) (rI k)))).enc y γ=(rI4 k).enc z δ∧(rI4 k).ok g z δ:=fun g y γ h=>⟨⟨y.1,y.2.1,y.2.2.1,y.2.2.2⟩,(),rfl,h.1,h.2.1,h.2.2.1,h.2.2.2⟩
end Sp
namespace Sp
open Go
abbrev St:=Ro.St
def zhW (k:IntKind) (z:St):Prop:=Vb k z.x∧Vb k z.y∧Vb k z.z∧Vb k z.a∧Vb k z.b∧Vb k z.c∧Vb k z.d∧Vb k z.f∧Vb k z.u∧Vb k z.v
def zpL (k:IntKind):Rp St:=fl 10 (fun z=>[.int k z.x,.int k z.y,.int k z.z,.int k z.a,.int k z.b,.int k z.c,.int k z.d,.int k z.f,.int k z.u,.int k z.v]) (zhW k) (fun _=>rfl) (fun _=>rfl)
def rZ:Rp Int:=⟨2,Wd,fun _ w=>[w.b,w.l],fun g z w=>(zF w z).on g,fun _ _ _ _ h k=>(zF _ _).mono _ _ h k,fun _ _=>rfl,fun _ _=>rfl⟩
theorem zeL {A:Fa} {z:Int} {w:Wd} {R:List Fa}:∀g,Holds g (A :: okF rZ z w :: R)→Holds g (A :: zF w z :: R):=fun g h=>h
theorem zmP {z:Int} {w:Wd} {R:List Fa}:∀g,Holds g (okF rZ z w :: R)→Holds g (zF w z :: R):=fun g h=>h
abbrev Pn:=List (List Rat)×List (List Rat)×Rat×Rat
def rPn:Rp Pn:=⟨10,Option Addr×Nat×Option Addr×Nat×Wd×Wd×Wd×Wd,fun x w=>[.slice w.1 x.1.length w.2.1,.slice w.2.2.1 x.2.1.length w.2.2.2.1,w.2.2.2.2.1.b,w.2.2.2.2.1.l,w.2.2.2.2.2.1.b,w.2.2.2.2.2.1.l,w.2.2.2.2.2.2.1.b,w.2.2.2.2.2.2.1.l,w.2.2.2.2.2.2.2.b,w.2.2.2.2.2.2.2.l],
  fun g x w=>(zI (rS rQ) w.1 w.2.1 x.1).on g∧(zI (rS rQ) w.2.2.1 w.2.2.2.1 x.2.1).on g∧(qF true w.2.2.2.2.1 w.2.2.2.2.2.1 x.2.2.1).on g∧(qF true w.2.2.2.2.2.2.1 w.2.2.2.2.2.2.2 x.2.2.2).on g,
  fun _ _ _ _ h k=>⟨(zI (rS rQ) _ _ _).mono _ _ h k.1,(zI (rS rQ) _ _ _).mono _ _ h k.2.1,(qF true _ _ _).mono _ _ h k.2.2.1,(qF true _ _ _).mono _ _ h k.2.2.2⟩,fun _ _=>rfl,fun _ _=>rfl⟩
theorem zmQ {A:Fa} {x:Pn} {p1 p2:Option Addr} {c1 c2:Nat} {w1 w2 w3 w4:Wd} {R:List Fa}:∀g,Holds g (A :: okF rPn x (p1,c1,p2,c2,w1,w2,w3,w4) :: R)→Holds g (A :: zI (rS rQ) p1 c1 x.1 :: zI (rS rQ) p2 c2 x.2.1 :: qF true w1 w2 x.2.2.1 :: qF true w3 w4 x.2.2.2 :: R):=fun g ⟨h,a,r⟩=>⟨h,a.1,a.2.1,a.2.2.1,a.2.2.2,r⟩
def pn0:Pn:=([],[],0,0)
end Sp
namespace Sp
open Go
set_option maxRecDepth 100000
set_option maxHeartbeats 8000000
variable {c1 c2 cap:Nat} {p p1 p2:Option Addr} {w1 w2:Wd} {x1 x2 z:Int}
theorem Zs {s:Bool} {p:Option Addr} {n:Nat} {cap:Nat} {l:List Int} (hn:l.length=n) (ho:yp l) (hln:n≤17592186044416):CB 168 [.bool s,.slice p n cap] [zI (rI .u32) p cap l] (Y:=(Option Addr)×Nat) (fun y=> .agg #[.bool (decide ((yj s (yh l))<0)),.slice (y.1) ((ya ((yj s (yh l)).natAbs)).length) (y.2)]) (fun y=>[zI (rI .u32) (y.1) (y.2) (ya ((yj s (yh l)).natAbs))]):=by
 refine zg Tryz.func168 rfl rfl (fun c=> ?_)
 refine zN 0 rfl (fun hL0=> ?_)
 refine vg<|zB (zo jo rfl) (fun b1=> ?_)
 refine k43 3 rfl<|zk<|z5 (X:=Nat) (fun x=>x≤n∧Big.vP (l.take x)=Big.vP l) (fun x=>[(5,Vi x)]) [4,0,1] (fun x=>[zK b1 30 [wz.b,wz.l]]) (fun x=>[]) [0] (fun x=>x) n (by exact ⟨Oo,by rw [yF om]⟩) (.of rfl) (o0 rfl) sN ?_
 rintro k hI
 obtain ⟨hk,hT⟩:=hI
 refine qe<|ji (X:=Unit) (fun x=>True) (fun x=>[(17,.bool (decide (0<k∧l.getD (k - 1) 0=0))),(5,Vi k),(4,Vp b1),(0,.bool s),(1,.slice p n cap)]) (fun x=>[zK b1 30 [wz.b,wz.l]]) (fun x=>[zI (rI .u32) p cap l]) ?_ ?_
 refine vM 2 rfl<|q8 (qU rfl) (fun h2=> ?_) (fun h2=> ?_)
 refine kS 2 rfl<|zE (qx rfl rfl w6)<|qH 0 ((((k:Nat):Int) - 1).toNat) rfl yc qM rfl J0 rfl om (gD (d:=0) om) (fun b3 o4 a0=> ?_) (x0:=(l.getD ((((k:Nat):Int) - 1).toNat) 0))
 replace a0:=zO.1 a0
 refine zw (zf (j:=0) 0 vJ rfl rfl rfl rfl)<|qY 2 rfl ?_
 exact qL () Qn ((.e rfl (congrArg Value.bool (by have h1:0<k:=om;have h2:((k:Int) - 1).toNat=k - 1:=om;simp [h1,h2])) (.of rfl))) (o0 rfl) ((.c (j:=1) rfl .n))
 refine qY 7 rfl ?_
 exact qL () Qn ((.e rfl (congrArg Value.bool (by have h1:¬0<k:=om;simp [h1])) (.of rfl))) (o0 rfl) (s0 rfl)
 rintro ⟨⟩ -
 refine zx rfl (fun hc=> ?_) (fun hc=> ?_)
 refine kk6<|zk<|vM 1 rfl<|zE (qx rfl rfl w6)<|qY 1 rfl<|zG<|zW (k - 1) (by exact ⟨Oo,by rw [← hT,Big.zev l hc.1 om hc.2]⟩) om ((.e rfl vA (.of rfl))) (o0 rfl) (s0 rfl)
 have htr:l.take k=ya (yj s (yh l)).natAbs:=by rw [Big.KI (Big.qV ho),←Big.QO ho,←hT];exact (Big.Wf l om hc).symm
 have hlt:(l.take k).length=k:=by rw [yas];omega
 have hsg:=Big.zkP (s:=s) ho htr hlt
 refine z7<|ze<|ze<|zn<|zi<|jK 1 rfl<|zhu rfl rfl (qU rfl) (fun hs=> ?_) (fun hs=> ?_)
 refine kS 3 rfl<|qZ (vq (rI .u32) yc vB) (fun b6 _=> ?_)
 refine kS 2 rfl<|zE (ZW (hi:=k) yc qM rfl (.s rfl) (.inr ⟨_,rfl⟩) om)<|Vf (V3 0 rfl k om) (fun _ _=> ?_)
 refine vO 0 rfl (qT 0 rfl yc vB dd rfl rfl J0 rfl J0 om om) (fun _=> .z) ?_
 rintro ⟨p7,c8⟩ -
 refine zE (qr jo rfl yb (.c Jn (.c Zu .n)) (.c rfl (.c rfl .n)) (.c rfl rfl rfl (.take .nil) (.c rfl rfl rfl (.skip (.take .nil)) .n)))<|zh 1 rfl rfl rfl rfl z8 (.t2 .nil) (.s .z)<|Va ?_
 subst hs
 refine vK 0 rfl .z ?_
 exact zq rfl (p7,c8) trivial (zy 1 z4 rfl rfl (.t2 .nil)) (by rw [hsg,←htr,hlt,ybf] <;> simp) oN ((.e (j:=0) rfl (by rw [htr] <;> rfl) .n))
 refine kS 3 rfl<|qZ (vq (rI .u32) yc vB) (fun b9 _=> ?_)
 refine kS 2 rfl<|zE (ZW (hi:=k) yc qM rfl (.s rfl) (.inr ⟨_,rfl⟩) om)<|Vf (V3 0 rfl k om) (fun _ _=> ?_)
 refine vO 0 rfl (qT 0 rfl yc vB dd rfl rfl J0 rfl J0 om om) (fun _=> .z) ?_
 rintro ⟨a1,a2⟩ -
 refine zE (qr jo rfl yb (.c Jn (.c Zu .n)) (.c rfl (.c rfl .n)) (.c rfl rfl rfl (.take .nil) (.c rfl rfl rfl (.skip (.take .nil)) .n)))<|zh 1 rfl rfl rfl rfl z8 (.t2 .nil) (.s .z)<|Va ?_
 subst hs
 refine vK 0 rfl .z ?_
 exact zq rfl (a1,a2) trivial (zy 1 z4 rfl rfl (.t2 .nil)) (by rw [hsg,←htr,hlt,ybf] <;> simp) oN ((.e (j:=0) rfl (by rw [htr] <;> rfl) .n))
theorem Vr {s:Bool} {a:Nat}   (hln:(ya (a)).length≤17592186044416):jI yi 168 [.bool (s),.slice (p) ((ya (a)).length) (cap)] [] [zI (rI .u32) (p) (cap) (ya (a))] (Y:=(Option Addr)×(Nat)) (fun y=>True) (fun y=> .agg #[.bool (decide ((yj s (a:Int))<0)),.slice (y.1) ((ya ((yj s (a:Int)).natAbs)).length) (y.2)]) (fun y=>[]) (fun y=>[zI (rI .u32) (y.1) (y.2) (ya ((yj s (a:Int)).natAbs))]):=by
  have h:= @Zs s p (ya a).length cap (ya a) rfl (yk a) hln
  rw [Big.qE] at h
  exact h
theorem Qd {p:Option Addr} {n:Nat} {cap:Nat} {l:List Int} {i:Nat} (hn:l.length=n) (hi:i≤4611686018427387904):CA 254 [.slice p n cap,Vi i] [zI (rI .u32) p cap l] (.int .u64 (l.getD i 0)):=by
 refine zg Tryz.func254 rfl rfl (fun c=> ?_)
 refine zN 0 rfl (fun hL0=> ?_)
 refine jg 1 rfl<|k12 4 rfl<|zx rfl (fun h1=> ?_) (fun h1=> ?_)
 refine jK 2 rfl<|qH 0 i rfl yc qM rfl J0 rfl rfl (gD (d:=0) om) (fun b2 o3 a0=> ?_) (x0:=(l.getD i 0))
 replace a0:=zO.1 a0
 refine zw (zf (j:=0) 0 vJ rfl rfl rfl rfl)<|zE (zY (z:=(l.getD i 0)) rfl (by rw [yf];rfl) ye (vu om))<|Zp 1 rfl<|zD ?_
 exact zq rfl () trivial (zj rfl) rfl oN sN
 refine k85 1 rfl ?_
 exact zq rfl () trivial (zj rfl) (by rw [show l.getD i 0=0 by simp [List.getD,yC (show l.length≤i by omega)]]) oN sN
theorem WT {s:Bool} {p:Option Addr} {n:Nat} {cap:Nat} {l:List Int} (hn:l.length=n):CA 150 [.agg #[.bool s,.slice p n cap]] [zI (rI .u32) p cap l] (.bool (decide (Big.canon s l))):=by
 refine zg Tryz.func150 rfl rfl (fun c=> ?_)
 refine zN 0 rfl (fun hL0=> ?_)
 refine vg<|zB (zX rfl rfl) (fun b1=> ?_)
 refine jD 1 rfl<|zE (zb yb rfl Zu rfl rfl)<|zw (zc 0 jQ rfl rfl rfl)<|jn 2 rfl<|k12 1 rfl<|zk<|z5 (X:=Nat) (fun x=>x≤n∧∀j,j<x→l.getD j 0<1000000000) (fun x=>[(4,Vi x)]) [3,1] (fun x=>[zK b1 30 [.bool s,.slice p n cap]]) (fun x=>[]) [0] (fun x=>n - x) 0 (by exact ⟨Oo,fun j h=>by omega⟩) (.e rfl vA .n) (o0 rfl) sN ?_
 rintro i hI
 obtain ⟨hi,hall⟩:=hI
 refine qe<|k12 3 rfl<|zx rfl (fun h2=> ?_) (fun h2=> ?_)
 refine vY<|zk<|vg<|zE (zb yb rfl Zu rfl rfl)<|zw (zc 0 jQ rfl rfl rfl)<|qJ rfl<|qH 0 i rfl yc qM rfl J0 rfl rfl (gD (d:=0) om) (fun b3 o4 a0=> ?_) (x0:=(l.getD i 0))
 replace a0:=zO.1 a0
 refine zw (zf (j:=0) 0 vJ rfl rfl rfl rfl)<|vZ 1 rfl<|zx rfl (fun hb=> ?_) (fun hb=> ?_)
 refine Zn 1 rfl<|qz<|zD<|zD<|qz<|zD ?_
 exact zq rfl () trivial (zj rfl) (congrArg Value.bool (decide_eq_false (fun h=>((Big.WO om).1 h).2 ⟨_,Big.getD_mem om,hb⟩))) oN sN
 refine qN<|zG<|zi<|vM 1 rfl<|zE (qj rfl rfl)<|qY 1 rfl<|zW (i+1) (by refine ⟨Oo,fun j hj=> ?_⟩;by_cases e:j=i;subst e;omega;exact hall j om) om (mR rfl) (o0 rfl) ((.c (j:=1) rfl .n))
 refine z7<|ze<|ze<|zn<|zi<|qe<|k12 2 rfl<|zx rfl (fun h0=> ?_) (fun h0=> ?_)
 refine vg<|zE (zb yb rfl Jn rfl rfl)<|zw (zc 0 J5 rfl rfl rfl)<|zE (Zo rfl)<|Zp 1 rfl<|zD ?_
 exact zq rfl () trivial (zj rfl) (congrArg Value.bool (by have:l.length=0:=om;cases s <;> simp [Big.canon,this])) oN sN
 refine kk8<|zE (zb yb rfl Zu rfl rfl)<|zw (zc 0 jQ rfl rfl rfl)<|qJ rfl<|zE (qx rfl rfl w6)<|qH 0 ((((n:Nat):Int) - 1).toNat) rfl yc qM rfl J0 rfl om (gD (d:=0) om) (fun b6 o7 a1=> ?_) (x0:=(l.getD ((((n:Nat):Int) - 1).toNat) 0))
 replace a1:=zO.1 a1
 refine zw (zf (j:=0) 0 vJ rfl rfl rfl rfl)<|Zp 2 rfl ?_
 exact zq rfl () trivial (zj rfl) (congrArg Value.bool (decide_eq_decide.2 (by rw [Big.WO om,hn];have e:((n:Int) - 1).toNat=n - 1:=om;rw [e];exact ⟨fun h=>h.1,fun h=>⟨h,fun ⟨g,hg,hb⟩=>by obtain ⟨j,hj,e⟩:=Big.zfZ hg;have:=hall j om;omega⟩⟩))) oN sN
theorem ZR {s:Bool} {p:Option Addr} {n:Nat} {cap:Nat} {l:List Int} (hn:l.length=n) (hln:n≤4398046511104):CB 149 [.agg #[.bool s,.slice p n cap]] [zI (rI .u32) p cap l] (Y:=(Option Addr)×Nat) (fun y=> .agg #[.bool (decide ((yd s l)<0)),.slice (y.1) ((ya ((yd s l).natAbs)).length) (y.2)]) (fun y=>[zI (rI .u32) (y.1) (y.2) (ya ((yd s l).natAbs))]):=by
 refine zg Tryz.func149 rfl rfl (fun c=> ?_)
 refine zN 0 rfl (fun hL0=> ?_)
 refine jZ 0 rfl (fun a0=> ?_)
 have hnn:yn l:=fun g hg=>(zO.1 (a0 g hg)).1
 refine vg<|zB (zX rfl rfl) (fun b1=> ?_)
 refine zB (zo jo rfl) (fun b2=> ?_)
 refine ZI<|vg<|zw (za 1 z4 rfl rfl (.t2 .nil))<|qg (qS rfl) zP (WT qB) (qX 0 rfl)<|zE (Jr rfl)<|Vc<|zx rfl (fun hc=> ?_) (fun hc=> ?_)
 refine vg<|zE (qr jo rfl yb (.c Jn (.c Zu .n)) .n .n)<|zh 0 rfl rfl rfl rfl z8 (.t2 .nil) .z<|Va<|zD ?_
 have hz:yd s l=0:=by unfold yd;rw [if_neg hc]
 refine QR (rI .u32) ?_
 exact zq rfl (none,0) trivial (zy 0 z4 rfl rfl (.t2 .nil)) (by rw [hz];rfl) oN ((.e (j:=0) rfl (by rw [hz];rfl) .n))
 refine vY<|Vk 5<|zC 0 rfl (zb yb rfl Jn rfl rfl)<|vE 1 rfl (zc 0 J5 rfl rfl rfl)<|zC 3 rfl (zb yb rfl Zu rfl rfl)<|qy 4 rfl (zc 1 jQ rfl rfl rfl)<|zt 2 (jr rfl (vq (rI .u32) yc vB) (fun b3 _=> ?_))
 refine zt 5 (VH (A':=fun v:Option Addr×Nat=>rowA 133 (rI .u32) v.1 v.2 (([])++l)) kr rfl (qT 0 rfl yc vB dd rfl rfl J0 rfl J0 om om) (hw':=rfl) (hd:=rfl) ?_)
 rintro ⟨p4,c5⟩ -
 refine zC 6 rfl (qr jo rfl yb (.c Jn (.c Zu .n)) (.c rfl (.c rfl .n)) (.c rfl rfl rfl (.take .nil) (.c rfl rfl rfl (.skip (.take .nil)) .n)))<|Zc (qP (i:=1) rfl)<|zt 7 (zH rfl rfl rfl rfl z8 (.t2 .nil) ?_)
 refine zU kr<|zi<|vv ?_
 have hcc:Big.canon s l:=ybl.1 hc
 have hd:ya (yd s l).natAbs=l:=by rw [Big.QB hnn,if_pos hcc]
 have hs:=Big.zai hnn hcc
 refine vK 1 rfl (.s .z) ?_
 exact zq rfl (p4,c5) trivial (zy 0 z4 rfl rfl (.t2 .nil)) (by rw [hs,hd,hn,ybf]) oN ((.e (j:=0) rfl (by rw [hd] <;> rfl) .n))
theorem KV (hln:yg z≤4398046511104):jI yi 149 [.agg #[.bool (decide ((z)<0)),.slice (p) ((ya ((z).natAbs)).length) (cap)]] [] [zI (rI .u32) (p) (cap) (ya ((z).natAbs))] (Y:=(Option Addr)×(Nat)) (fun y=>True) (fun y=> .agg #[.bool (decide ((z)<0)),.slice (y.1) ((ya ((z).natAbs)).length) (y.2)]) (fun y=>[]) (fun y=>[zI (rI .u32) (y.1) (y.2) (ya ((z).natAbs))]):=by
  have h:= @ZR (decide ((z)<0)) p (ya (z).natAbs).length cap (ya (z).natAbs) rfl hln
  rw [yo] at h
  exact h
theorem zaq {z:Int} (hz: -9223372036854775808≤z∧z≤9223372036854775807):CB 148 [.int .i64 z] [] (Y:=(Option Addr)×Nat) (fun y=> .agg #[.bool (decide (z<0)),.slice (y.1) ((ya ((z).natAbs)).length) (y.2)]) (fun y=>[zI (rI .u32) (y.1) (y.2) (ya ((z).natAbs))]):=by
 refine zg Tryz.func148 rfl rfl (fun c=> ?_)
 refine vg<|zB (zo jo rfl) (fun b1=> ?_)
 refine k40 1 rfl<|zE (zY (z:=(z%18446744073709551616)) rfl (by rw [Tryz.underlying3];rfl) ye (zlV om))<|vZ 1 rfl<|ji (X:=Unit) (fun x=>True) (fun x=>[(3,.int .u64 ((z.natAbs:Nat):Int)),(2,Vp b1),(0,.int .i64 z)]) (fun x=>[zK b1 30 [wz.b,wz.l]]) (fun x=>[]) ?_ ?_
 refine k12 2 rfl<|zx rfl (fun hs=> ?_) (fun hs=> ?_)
 refine vM 1 rfl<|zE (qm rfl rfl w6)<|zE (JD (z:=(-(z+1))) rfl (Q9 om))<|zE (zY (z:=(-(z+1))) rfl (by rw [Tryz.underlying3];rfl) ye (vu om))<|zE (qm (z:=((z.natAbs:Nat):Int)) rfl rfl (vu om))<|qY 1 rfl ?_
 exact qL () Qn (mR rfl) (o0 rfl) sN
 have e2:((z%18446744073709551616):Int)=((z.natAbs:Nat):Int):=Oo
 rw [e2]
 refine qN ?_
 exact qL () Qn (mR rfl) (o0 rfl) sN
 rintro ⟨⟩ -
 refine vg<|qZ (vq (rI .u32) yc vB) (fun b3 _=> ?_)
 refine jn 1 rfl<|zk<|z5 (X:=Nat×(Option Addr)×Nat×(List Int)) (fun x=>x.1≤z.natAbs∧x.2.2.2++ya x.1=ya z.natAbs) (fun x=>[(4,.slice (x.2.1) (x.2.2.2.length) (x.2.2.1)),(3,.int .u64 ((x.1:Nat):Int))]) [2,0] (fun x=>[rowA 133 (rI .u32) (x.2.1) (x.2.2.1) (x.2.2.2),zK b1 30 [wz.b,wz.l]]) (fun x=>[]) [] (fun x=>x.1) (z.natAbs,Sb b3,0,[]) (by exact ⟨yJ _,rfl⟩) (.e rfl vA (.of rfl)) ((.of [0,0] rfl):zJ _ _ _) sN ?_
 rintro ⟨m,p,c,os⟩ hI
 dsimp only at hI
 try dsimp only
 obtain ⟨hnn,hos⟩:=hI
 have hlen0:os.length+(ya m).length≤3:=by have:=congrArg List.length hos;rw [yW] at this;have:=Big.zhI (show z.natAbs<18446744073709551616 by omega);omega
 refine qe<|k12 2 rfl<|zx rfl (fun h4=> ?_) (fun h4=> ?_)
 refine qN<|zi<|zk<|jK 2 rfl<|zE (jk (z:=(((m%1000000000):Nat):Int)) rfl rfl om (KG om om))<|zE (zY (z:=(((m%1000000000):Nat):Int)) rfl (by rw [ye];rfl) yf (ZU om))<|Zy rfl rfl (z6 (enc:=fun z:Int=>[.int .u32 z]) (ok:=Vb .u32) (h1:=fun _=>rfl) (h2:=fun _=>rfl) (k:=1) yc vB rfl dd dd dd (.c (x:=(((m%1000000000):Nat):Int)) rfl rfl (fun _ _=>by exact zO.2 om) .n)) (fun b5 _=> ?_)
 refine qt 0 rfl .z<|Zz 1 rfl rfl rfl (qT 0 rfl yc vB dd rfl rfl J0 rfl J0 om om) (fun _=>(.s .z)) ?_
 rintro ⟨p6,c7⟩ -
 refine vZ 1 rfl<|vM 1 rfl<|zE (Z6 (z:=(((m / 1000000000):Nat):Int)) rfl rfl om (by rw [KF (z:=(((m / 1000000000):Nat):Int)) om om];exact vu om))<|qY 1 rfl<|zG<|zW ((m / 1000000000),p6,c7,os++[((m%1000000000:Nat):Int)]) (by exact ⟨Oo,Big.zcw om hos⟩) om ((.e rfl (by simp) (.of rfl))) ((.e (i:=1) rfl vA (.c (i:=1) rfl .n)):zJ _ _ _) sN
 have a0:m=0:=Oo
 subst a0
 have hd:os=ya z.natAbs:=by simpa [Big.jE] using hos
 have hok:yp os:=by rw [hd];exact yk _
 have hlen:os.length≤3:=by rw [hd];exact Big.zhI om
 have hsg:yj (decide (z<0)) (yh os)=z:=by rw [hd,Big.qE];exact Big.za1 z
 refine z7<|ze<|ze<|zn<|zi<|jK 3 rfl<|qt 0 rfl .z<|zm (q7 rfl rfl) zP (Zs zL (by exact hok) zL) (qX 0 rfl) ?_
 rintro ⟨a1,a2⟩ -
 refine zh 1 rfl rfl rfl rfl z8 (.t2 .nil) (.s .z)<|Va ?_
 exact zq rfl (a1,a2) trivial (zy 1 z4 rfl rfl (.t2 .nil)) (by rw [hsg]) oN ((.e (j:=0) rfl (by rw [hsg]) .n))
theorem zmR (hz: -9223372036854775808≤z∧z≤9223372036854775807):jI yi 148 [.int .i64 (z)] [] [] (Y:=(Wd)) (fun y=>True) (fun y=> .agg #[y.b,y.l]) (fun y=>[]) (fun y=>[zF y (z)]):=by
  exact Vn (zaq hz)
theorem zk0 {a:Nat} {b:Nat} {p1:Option Addr} {c1:Nat} {p2:Option Addr} {c2:Nat} (hb1:(ya a).length≤4398046511104) (hb2:(ya b).length≤4398046511104):CB 224 [.slice p1 ((ya a).length) c1,.slice p2 ((ya b).length) c2] [zI (rI .u32) p1 c1 (ya a),zI (rI .u32) p2 c2 (ya b)] (Y:=(Option Addr)×Nat) (fun y=> .slice (y.1) ((ya (a+b)).length) (y.2)) (fun y=>[zI (rI .u32) (y.1) (y.2) (ya (a+b))]):=by
 refine zg Tryz.func224 rfl rfl (fun c=> ?_)
 refine zN 0 rfl (fun hL0=> ?_)
 refine zN 1 rfl (fun hL1=> ?_)
 refine jS 1 rfl<|qZ (vq (rI .u32) yc vB) (fun b1 _=> ?_)
 refine jD 1 rfl<|jn 1 rfl<|k12 1 rfl<|zk<|Qr (X:=Nat×(Option Addr)×Nat×(List Int)×Int) (fun x:Nat×(Option Addr)×Nat×(List Int)×Int=>x.1≤max (ya a).length (ya b).length∧x.2.2.2.1.length=x.1∧0≤x.2.2.2.2∧x.2.2.2.2≤1∧yp x.2.2.2.1∧yh x.2.2.2.1+Big.pw x.1*x.2.2.2.2=yh ((ya a).take x.1)+yh ((ya b).take x.1)) (fun x=>[(6,.int .u64 (x.2.2.2.2)),(5,.slice (x.2.1) (x.2.2.2.1.length) (x.2.2.1)),(7,Vi x.1),(4,.slice none 0 0),(0,.slice p1 ((ya a).length) c1),(1,.slice p2 ((ya b).length) c2)]) (fun x=>[rowA 133 (rI .u32) (x.2.1) (x.2.2.1) (x.2.2.2.1)]) (fun x=>[zI (rI .u32) p1 c1 (ya a),zI (rI .u32) p2 c2 (ya b)]) (fun x:Nat×(Option Addr)×Nat×(List Int)×Int=>max (ya a).length (ya b).length - x.1) (0,Sb b1,0,[],0) (by dsimp only;exact ⟨Oo,rfl,Od,Od,Big.QU,by simp [yh]⟩) ((.c rfl (.e rfl vA (.e rfl vA (.of rfl)))):vQ _ _) (ho:=(o0 rfl)) ((.of [0,1] rfl):q9 _ _ _) ?_
 rintro ⟨i,p,c,os,cy⟩ hI
 dsimp only at hI
 obtain ⟨hi,hol,a0,hc1,hok,hv⟩:=hI
 have hg1:=ym (yk a) i
 have hg2:=ym (yk b) i
 refine qe<|ji (X:=Unit) (fun x=>True) (fun x=>[(19,.bool (decide (i<(ya a).length∨i<(ya b).length))),(6,.int .u64 cy),(5,.slice p (os.length) c),(7,Vi i),(4,.slice none 0 0),(0,.slice p1 ((ya a).length) c1),(1,.slice p2 ((ya b).length) c2)]) (fun x=>[rowA 133 (rI .u32) p c os]) (fun x=>[zI (rI .u32) p1 c1 (ya a),zI (rI .u32) p2 c2 (ya b)]) ?_ ?_
 refine vM 4 rfl<|q8 (qU rfl) (fun h2=> ?_) (fun h2=> ?_)
 refine qY 5 rfl ?_
 exact qL () Qn ((.e rfl (congrArg Value.bool (by simp;omega)) (.of rfl))) (o0 rfl) ((.of [0,1] rfl))
 refine qY 5 rfl ?_
 exact qL () Qn ((.e rfl (congrArg Value.bool (by simp;omega)) (.of rfl))) (o0 rfl) ((.of [0,1] rfl))
 rintro ⟨⟩ -
 refine zx rfl (fun hc=> ?_) (fun hc=> ?_)
 refine vY<|zk<|jK 2 rfl<|qg (q7 rfl rfl) zP (Qd Kw Kw) (qX 0 rfl)<|kS 2 rfl<|qg (q7 rfl rfl) zP (Qd Kw Kw) (qX 1 rfl)<|zE (qm (z:=((ya a).getD i 0+(ya b).getD i 0)) rfl rfl (vu om))<|qJ rfl<|zE (qm (z:=(((ya a).getD i 0+(ya b).getD i 0)+cy)) rfl rfl (vu om))<|jD 1 rfl<|kS 2 rfl<|zE (jk (z:=((((ya a).getD i 0+(ya b).getD i 0)+cy)%1000000000)) rfl rfl om (KG om om))<|zE (zY (z:=((((ya a).getD i 0+(ya b).getD i 0)+cy)%1000000000)) rfl (by rw [ye];rfl) yf (ZU om))<|qZ (z6 (enc:=fun z:Int=>[.int .u32 z]) (ok:=Vb .u32) (h1:=fun _=>rfl) (h2:=fun _=>rfl) (k:=1) yc vB rfl dd dd dd (.c (x:=((((ya a).getD i 0+(ya b).getD i 0)+cy)%1000000000)) rfl rfl (fun _ _=>by exact zO.2 om) .n)) (fun b3 _=> ?_)
 refine qt 0 rfl .z<|vO 1 rfl (qT 0 rfl yc vB dd rfl rfl J0 rfl J0 om om) (fun _=>(.s .z)) ?_
 rintro ⟨p4,c5⟩ -
 dsimp only [aq,nq,cq]
 refine vZ 1 rfl<|vM 1 rfl<|zE (Z6 (z:=((((ya a).getD i 0+(ya b).getD i 0)+cy) / 1000000000)) rfl rfl om (by rw [KF (z:=((((ya a).getD i 0+(ya b).getD i 0)+cy) / 1000000000)) om om];exact vu om))<|qY 1 rfl<|zG<|zi<|vM 1 rfl<|zE (qj rfl rfl)<|qY 1 rfl<|zW ((i+1),p4,c5,os++[((ya a).getD i 0+(ya b).getD i 0+cy)%1000000000],((ya a).getD i 0+(ya b).getD i 0+cy) / 1000000000) (by dsimp only;exact ⟨Oo,by simp [hol],Oo,Oo,Big.Qz hok om om,Big.zaZ hol hv om⟩) (by dsimp only;omega) ((.e rfl vA (.e rfl (by simp) (.of rfl))):vQ _ _) (ho:=((.e (i:=1) rfl vA .n):zJ _ _ _)) ((.of [1,2] rfl):q9 _ _ _)
 have a1:=Big.Qz hok a0 (show cy<1000000000 by omega)
 have hfin:=Big.zml (a:=a) (b:=b) hol om om hv
 refine z7<|ze<|ze<|zn<|zi<|jK 2 rfl<|zE (zY (z:=cy) rfl (by rw [ye];rfl) yf (ZU om))<|qZ (z6 (enc:=fun z:Int=>[.int .u32 z]) (ok:=Vb .u32) (h1:=fun _=>rfl) (h2:=fun _=>rfl) (k:=1) yc vB rfl dd dd dd (.c (x:=cy) rfl rfl (fun _ _=>by exact zO.2 om) .n)) (fun b6 _=> ?_)
 refine qt 0 rfl .z<|vO 1 rfl (qT 0 rfl yc vB dd rfl rfl J0 rfl J0 om om) (fun _=>(.s .z)) ?_
 rintro ⟨p7,c8⟩ -
 dsimp only [aq,nq,cq]
 refine qt 1 rfl (.s .z)<|zm (.c rfl (.c rfl .n)) zP (Zs (by first|rfl|omega|(simp;done)|(simp;omega)) (by exact a1) (by first|rfl|omega|(simp;done)|(simp;omega))) (qX 0 rfl) ?_
 rintro ⟨a2,a3⟩ -
 refine zE (jT yb rfl jQ rfl rfl)<|Zp 1 rfl ?_
 exact zq rfl (a2,a3) trivial (zj rfl) (by rw [hfin]) (ho:=oN) ((.e (j:=0) rfl (by rw [hfin]) .n))
theorem Kb {a:Nat} {b:Nat} {p1:Option Addr} {c1:Nat} {p2:Option Addr} {c2:Nat} (hb1:(ya a).length≤4398046511104) (hb2:(ya b).length≤4398046511104) (hab:b≤a):CB 226 [.slice p1 ((ya a).length) c1,.slice p2 ((ya b).length) c2] [zI (rI .u32) p1 c1 (ya a),zI (rI .u32) p2 c2 (ya b)] (Y:=(Option Addr)×Nat) (fun y=> .slice (y.1) ((ya (a - b)).length) (y.2)) (fun y=>[zI (rI .u32) (y.1) (y.2) (ya (a - b))]):=by
 refine zg Tryz.func226 rfl rfl (fun c=> ?_)
 refine zN 0 rfl (fun hL0=> ?_)
 refine zN 1 rfl (fun hL1=> ?_)
 refine jS 1 rfl<|qZ (vq (rI .u32) yc vB) (fun b1 _=> ?_)
 refine jD 1 rfl<|jn 1 rfl<|k12 1 rfl<|zk<|Qr (X:=Nat×(Option Addr)×Nat×(List Int)×Int) (fun x:Nat×(Option Addr)×Nat×(List Int)×Int=>x.1≤(ya a).length∧x.2.2.2.1.length=x.1∧0≤x.2.2.2.2∧x.2.2.2.2≤1∧yp x.2.2.2.1∧yh x.2.2.2.1+yh ((ya b).take x.1)=yh ((ya a).take x.1)+Big.pw x.1*x.2.2.2.2) (fun x=>[(6,.int .u64 (x.2.2.2.2)),(5,.slice (x.2.1) (x.2.2.2.1.length) (x.2.2.1)),(7,Vi x.1),(4,.slice none 0 0),(0,.slice p1 ((ya a).length) c1),(1,.slice p2 ((ya b).length) c2)]) (fun x=>[rowA 133 (rI .u32) (x.2.1) (x.2.2.1) (x.2.2.2.1)]) (fun x=>[zI (rI .u32) p1 c1 (ya a),zI (rI .u32) p2 c2 (ya b)]) (fun x:Nat×(Option Addr)×Nat×(List Int)×Int=>(ya a).length - x.1) (0,Sb b1,0,[],0) (by dsimp only;exact ⟨Oo,rfl,Od,Od,Big.QU,by simp [yh]⟩) ((.c rfl (.e rfl vA (.e rfl vA (.of rfl)))):vQ _ _) (ho:=(o0 rfl)) ((.of [0,1] rfl):q9 _ _ _) ?_
 rintro ⟨i,p,c,os,bo⟩ hI
 dsimp only at hI
 try dsimp only
 obtain ⟨hi,hol,a0,hc1,hok,hv⟩:=hI
 have hg1:=ym (yk a) i
 have hg2:=ym (yk b) i
 refine qe<|k12 4 rfl<|zx rfl (fun h2=> ?_) (fun h2=> ?_)
 refine qN<|zi<|qe<|zk<|jK 2 rfl<|VG rfl rfl (.c rfl (.c rfl .n)) zP (Qd Kw Kw) (.c (j:=0) rfl .n) ?_
 refine zE (qm (z:=(1000000000+(ya a).getD i 0)) rfl rfl (vu om))<|kS 2 rfl<|VG rfl rfl (.c rfl (.c rfl .n)) zP (Qd Kw Kw) (.c (j:=1) rfl .n) ?_
 refine zE (qx (z:=((1000000000+(ya a).getD i 0) - (ya b).getD i 0)) rfl rfl (vu om))<|qJ rfl<|zE (qx (z:=(((1000000000+(ya a).getD i 0) - (ya b).getD i 0) - bo)) rfl rfl (vu om))<|jD 1 rfl<|kS 2 rfl<|zE (jk (z:=((((1000000000+(ya a).getD i 0) - (ya b).getD i 0) - bo)%1000000000)) rfl rfl om (KG om om))<|zE (zY (z:=((((1000000000+(ya a).getD i 0) - (ya b).getD i 0) - bo)%1000000000)) rfl (by rw [ye];rfl) yf (ZU om))<|Zy rfl rfl (z6 (enc:=fun z:Int=>[.int .u32 z]) (ok:=Vb .u32) (h1:=fun _=>rfl) (h2:=fun _=>rfl) (k:=1) yc vB rfl dd dd dd (.c (x:=((((1000000000+(ya a).getD i 0) - (ya b).getD i 0) - bo)%1000000000)) rfl rfl (fun _ _=>by exact zO.2 om) .n)) (fun b3 _=> ?_)
 refine qt 0 rfl .z<|vO 1 rfl (qT 0 rfl yc vB dd rfl rfl J0 rfl J0 om om) (fun _=>(.s .z)) ?_
 rintro ⟨p4,c5⟩ -
 dsimp only [aq,nq,cq]
 refine vZ 1 rfl<|vM 1 rfl<|zE (Z6 (z:=((((1000000000+(ya a).getD i 0) - (ya b).getD i 0) - bo) / 1000000000)) rfl rfl om (by rw [KF (z:=((((1000000000+(ya a).getD i 0) - (ya b).getD i 0) - bo) / 1000000000)) om om];exact vu om))<|zE (qx (z:=(1 - ((((1000000000+(ya a).getD i 0) - (ya b).getD i 0) - bo) / 1000000000))) rfl rfl (vu om))<|qY 1 rfl<|zG<|zi<|vM 1 rfl<|zE (qj rfl rfl)<|qY 1 rfl<|zW ((i+1),p4,c5,os++[(1000000000+(ya a).getD i 0 - (ya b).getD i 0 - bo)%1000000000],1 - (1000000000+(ya a).getD i 0 - (ya b).getD i 0 - bo) / 1000000000) (by dsimp only;exact ⟨Oo,by simp [hol],Oo,Oo,Big.Qz hok om om,Big.WN hol hv om⟩) (by dsimp only;omega) ((.e rfl vA (.e rfl (by simp) (.of rfl))):vQ _ _) (ho:=((.e (i:=1) rfl vA .n):zJ _ _ _)) ((.of [1,2] rfl):q9 _ _ _)
 have htr:Big.vP os=ya (a - b):=Big.zdF hab hok a0 hol om hv
 have hfin:(yj false (yh os)).natAbs=a - b:=by rw [Big.KI (Big.qV hok)];have:=congrArg yh htr;rw [Big.Wg,Big.qE] at this;omega
 refine z7<|ze<|ze<|zn<|zi<|jK 1 rfl<|qt 0 rfl .z<|zm (q7 rfl rfl) zP (Zs zL (by exact hok) zL) (qX 0 rfl) ?_
 rintro ⟨a1,a2⟩ -
 refine zE (jT yb rfl jQ rfl rfl)<|Zp 1 rfl ?_
 exact zq rfl (a1,a2) trivial (zj rfl) (by rw [hfin]) oN ((.e (j:=0) rfl (by rw [hfin]) .n))
theorem za8 {a:Nat} {b:Nat} {p1:Option Addr} {c1:Nat} {p2:Option Addr} {c2:Nat}:CA 225 [.slice p1 ((ya a).length) c1,.slice p2 ((ya b).length) c2] [zI (rI .u32) p1 c1 (ya a),zI (rI .u32) p2 c2 (ya b)] (.int .i64 (Big.cmp (a:Int) (b:Int))):=by
 refine zg Tryz.func225 rfl rfl (fun c=> ?_)
 refine zN 0 rfl (fun hL0=> ?_)
 refine zN 1 rfl (fun hL1=> ?_)
 refine jg 1 rfl<|k12 5 rfl<|zx rfl (fun hlen=> ?_) (fun hlen=> ?_)
 refine qe<|k12 5 rfl<|zx rfl (fun hll=> ?_) (fun hll=> ?_)
 refine Zn 1 rfl<|zD<|zD ?_
 exact zq rfl () trivial (zj rfl) (by rw [← Big.zew om,Big.KJ om]) oN sN
 refine k85 1 rfl<|zD ?_
 exact zq rfl () trivial (zj rfl) (by rw [← Big.zew om,Big.KK om]) oN sN
 replace hlen:(ya a).length=(ya b).length:=Oo
 refine vY<|jK 2 rfl<|zE (qx rfl rfl w6)<|vZ 1 rfl<|zk<|z5 (X:=Nat) (fun x=>x≤(ya a).length∧(ya a).drop x=(ya b).drop x) (fun x=>[(5,.int .i64 (((x:Nat):Int) - 1))]) [0,1] (fun x=>[]) (fun x=>[]) [0,1] (fun x=>x) ((ya a).length) (by exact ⟨yJ _,by rw [List.drop_length,hlen,List.drop_length]⟩) (.e rfl vA .n) oN sN ?_
 rintro j hI
 obtain ⟨hj,hd⟩:=hI
 refine qe<|k12 2 rfl<|zx rfl (fun h1=> ?_) (fun h1=> ?_)
 obtain ⟨k,rfl⟩:∃k,j=k+1:=⟨j - 1,Oo⟩
 have e2:(((((k+1):Nat):Int) - 1):Int)=((k:Nat):Int):=Oo
 rw [e2]
 refine vY<|zk<|qe<|qe<|Jo 100000<|zQ 0 rfl rfl<|zQ 1 rfl rfl<|jO 2 rfl 0 k rfl yc qM rfl J0 rfl rfl (gD (d:=0) om) (fun b3 o4 a0=> ?_) (x0:=((ya a).getD k 0))
 replace a0:=zO.1 a0
 refine vE 3 rfl (zf (j:=0) 0 vJ rfl rfl rfl rfl)<|zQ 4 rfl rfl<|zQ 5 rfl rfl<|jO 6 rfl 2 k rfl yc qM rfl J0 rfl rfl (gD (d:=0) om) (fun b6 o7 a1=> ?_) (x0:=((ya b).getD k 0))
 replace a1:=zO.1 a1
 refine vE 7 rfl (zf (j:=0) 0 vJ rfl rfl rfl rfl)<|zC 8 rfl (zhq rfl rfl)<|zU kr<|zi<|zx rfl (fun hlt=> ?_) (fun hlt=> ?_)
 refine Zn 1 rfl<|zD<|qz<|zD<|zD<|qz<|zD ?_
 exact zq rfl () trivial (zj rfl) (by rw [← Big.zhH hlen om hd om,Big.KJ om]) oN sN
 refine vY<|Jo 100000<|zQ 0 rfl rfl<|zQ 1 rfl rfl<|jO 2 rfl 2 k rfl yc qM rfl J0 rfl rfl (gD (d:=0) om) (fun b9 o10 a2=> ?_) (x0:=((ya a).getD k 0))
 replace a2:=zO.1 a2
 refine vE 3 rfl (zf (j:=0) 0 vJ rfl rfl rfl rfl)<|zQ 4 rfl rfl<|zQ 5 rfl rfl<|jO 6 rfl 4 k rfl yc qM rfl J0 rfl rfl (gD (d:=0) om) (fun b12 o13 a3=> ?_) (x0:=((ya b).getD k 0))
 replace a3:=zO.1 a3
 refine vE 7 rfl (zf (j:=0) 0 vJ rfl rfl rfl rfl)<|zC 8 rfl (zhr rfl rfl)<|zU kr<|zi<|zx rfl (fun hgt=> ?_) (fun hgt=> ?_)
 refine Zn 1 rfl<|qz<|zD<|zD<|qz<|zD ?_
 exact zq rfl () trivial (zj rfl) (by rw [← Big.zhH hlen om hd om,Big.KK om]) oN sN
 refine qN<|zG<|zi<|vM 1 rfl<|zE (qx rfl rfl w6)<|qY 1 rfl<|zW k (by exact ⟨Oo,Big.zdG om om hd om⟩) om (mR rfl) oN ((.of [4,5] rfl))
 refine z7<|ze<|ze<|zn<|zi<|Zn 1 rfl ?_
 have a4:j=0:=Oo
 subst a4
 have heq:=Big.cmp_eq (show ya a=ya b by simpa using hd)
 exact zq rfl () trivial (zj rfl) (by rw [heq] <;> simp [Big.cmp]) oN sN
theorem zgb {s:Bool} {p:Option Addr} {n:Nat} {cap:Nat} {l:List Int} (hn:l.length=n) (hln:n≤4398046511104):CB 83 [.agg #[.bool s,.slice p n cap]] [zI (rI .u32) p cap l] (Y:=(Option Addr)×Nat) (fun y=> .agg #[.bool (decide ((- yd s l)<0)),.slice (y.1) ((ya ((- yd s l).natAbs)).length) (y.2)]) (fun y=>[zI (rI .u32) (y.1) (y.2) (ya ((- yd s l).natAbs))]):=by
 refine zg Tryz.func83 rfl rfl (fun c=> ?_)
 refine zN 0 rfl (fun hL0=> ?_)
 refine jZ 0 rfl (fun a0=> ?_)
 have hnn:yn l:=fun g hg=>(zO.1 (a0 g hg)).1
 have hb:yg (yd s l)≤n:=by have:=Big.ZC (s:=s) hnn;omega
 unfold yg at hb
 refine vg<|zB (zX rfl rfl) (fun b1=> ?_)
 refine zB (zo jo rfl) (fun b2=> ?_)
 refine Vj<|zw (za 1 z4 rfl rfl (.t2 .nil))<|zm (qS rfl) zP (ZR qB qB) (qX 0 rfl) ?_
 rintro ⟨p23,c24⟩ -
 refine zh 1 rfl rfl rfl rfl z8 (.t2 .nil) (.s .z)<|Vj<|zE (zb yb rfl Jn rfl rfl)<|zw (zc 1 J5 rfl rfl rfl)<|zE (Zo rfl)<|zE (zb yb rfl Zu rfl rfl)<|zw (zc 1 jQ rfl rfl rfl)<|zm (q7 rfl rfl) zP (Vr Kw) (qX 0) ?_
 rintro ⟨a1,a2⟩ -
 refine zh 0 rfl rfl rfl rfl z8 (.t2 .nil) .z<|Va ?_
 have hz:yj (!decide (yd s l<0)) ((yd s l).natAbs:Int)= - yd s l:=by rw [Big.zhG,Big.za1]
 exact zq rfl (a1,a2) trivial (zy 0 z4 rfl rfl (.t2 .nil)) (by rw [hz]) oN ((.e (j:=0) rfl (by rw [hz]) .n))
theorem zk1 (hln:yg z≤4398046511104):jI yi 83 [.agg #[.bool (decide ((z)<0)),.slice (p) ((ya ((z).natAbs)).length) (cap)]] [] [zI (rI .u32) (p) (cap) (ya ((z).natAbs))] (Y:=(Option Addr)×(Nat)) (fun y=>True) (fun y=> .agg #[.bool (decide ((- z)<0)),.slice (y.1) ((ya ((- z).natAbs)).length) (y.2)]) (fun y=>[]) (fun y=>[zI (rI .u32) (y.1) (y.2) (ya ((- z).natAbs))]):=by
  have h:= @zgb (decide ((z)<0)) p (ya (z).natAbs).length cap (ya (z).natAbs) rfl hln
  rw [yo] at h
  exact h
theorem zdT (hln:yg x1≤4398046511104):jI yi 83 [.agg #[w1.b,w1.l]] [] [zF w1 (x1)] (Y:=(Wd)) (fun y=>True) (fun y=> .agg #[y.b,y.l]) (fun y=>[]) (fun y=>[zF y (- x1)]):=by
  exact Vn (WP (fun p c=>zk1 hln))
theorem zdU {s:Bool} {p:Option Addr} {n:Nat} {cap:Nat} {l:List Int} (hn:l.length=n) (hln:n≤4398046511104):CA 62 [.agg #[.bool s,.slice p n cap]] [zI (rI .u32) p cap l] (.int .i64 ((yd s l).sign)):=by
 refine zg Tryz.func62 rfl rfl (fun c=> ?_)
 refine zN 0 rfl (fun hL0=> ?_)
 refine jZ 0 rfl (fun a0=> ?_)
 have hnn:yn l:=fun g hg=>(zO.1 (a0 g hg)).1
 refine vg<|zB (zX rfl rfl) (fun b1=> ?_)
 refine jD 1 rfl<|zw (za 0 z4 rfl rfl (.t2 .nil))<|zm (qS rfl) zP (ZR qB qB) (qX 0 rfl) ?_
 rintro ⟨p22,c23⟩ -
 refine zh 0 rfl rfl rfl rfl z8 (.t2 .nil) .z<|ZI<|vg<|zE (zb yb rfl Zu rfl rfl)<|zw (zc 0 jQ rfl rfl rfl)<|vZ 2 rfl<|zx rfl (fun h0=> ?_) (fun h0=> ?_)
 refine Zn 1 rfl<|zD ?_
 exact zq rfl () trivial (zj rfl) (by rw [show yd s l=0 by have:=Big.Ze.1 (show (ya (yd s l).natAbs).length=0 by omega);omega];rfl) oN sN
 refine vY<|vg<|zE (zb yb rfl Jn rfl rfl)<|zw (zc 0 J5 rfl rfl rfl)<|Vc<|ZN rfl (fun hs=> ?_) (fun hs=> ?_)
 refine Zn 1 rfl<|zD ?_
 exact zq rfl () trivial (zj rfl) (by rw [yS (by simpa using hs)]) oN sN
 refine k85 1 rfl ?_
 exact zq rfl () trivial (zj rfl) (by rw [yw (by have h2:¬yd s l<0:=(by simpa using hs);have:(yd s l).natAbs≠0:=(fun e=>h0 (by rw [e];rfl));omega)]) oN sN
theorem zcK (hln:yg z≤4398046511104):jI yi 62 [.agg #[.bool (decide ((z)<0)),.slice (p) ((ya ((z).natAbs)).length) (cap)]] [] [zI (rI .u32) (p) (cap) (ya ((z).natAbs))] (Y:=Unit) (fun y=>True) (fun y=> .int .i64 ((z).sign)) (fun y=>[]) (fun y=>[]):=by
  have h:= @zdU (decide ((z)<0)) p (ya (z).natAbs).length cap (ya (z).natAbs) rfl hln
  rw [yo] at h
  exact h
theorem WU (hln:yg x1≤4398046511104):jI yi 62 [.agg #[w1.b,w1.l]] [] [zF w1 (x1)] (Y:=Unit) (fun y=>True) (fun y=> .int .i64 ((x1).sign)) (fun y=>[]) (fun y=>[]):=by
  exact WP (fun p c=>zcK hln)
theorem zgc {s:Bool} {p1:Option Addr} {n1:Nat} {c1:Nat} {l1:List Int} {t:Bool} {p2:Option Addr} {n2:Nat} {c2:Nat} {l2:List Int} (hn1:l1.length=n1) (hn2:l2.length=n2) (hm1:n1≤4398046511104) (hm2:n2≤4398046511104):CB 158 [.agg #[.bool s,.slice p1 n1 c1],.agg #[.bool t,.slice p2 n2 c2]] [zI (rI .u32) p1 c1 l1,zI (rI .u32) p2 c2 l2] (Y:=(Option Addr)×Nat) (fun y=> .agg #[.bool (decide ((yd s l1+yd t l2)<0)),.slice (y.1) ((ya ((yd s l1+yd t l2).natAbs)).length) (y.2)]) (fun y=>[zI (rI .u32) (y.1) (y.2) (ya ((yd s l1+yd t l2).natAbs))]):=by
 refine zg Tryz.func158 rfl rfl (fun c=> ?_)
 refine zN 0 rfl (fun hL0=> ?_)
 refine jZ 0 rfl (fun a0=> ?_)
 refine zN 1 rfl (fun hL1=> ?_)
 refine jZ 1 rfl (fun a1=> ?_)
 have a2:yn l1:=fun g hg=>(zO.1 (a0 g hg)).1
 have a3:yn l2:=fun g hg=>(zO.1 (a1 g hg)).1
 have a4:yg (yd s l1)≤n1:=by have:=Big.ZC (s:=s) a2;omega
 have a5:yg (yd t l2)≤n2:=by have:=Big.ZC (s:=t) a3;omega
 unfold yg at a4 a5
 refine vg<|zB (zX rfl rfl) (fun b1=> ?_)
 refine zB (zX rfl rfl) (fun b2=> ?_)
 refine zB (zo jo rfl) (fun b3=> ?_)
 refine ZI<|vk (.c (i:=2) rfl (.c (i:=1) rfl (.c (i:=0) rfl .n)))<|rd2 4<|qy 0 rfl (za 0 z4 rfl rfl (.t2 .nil))<|qy 2 rfl (za 1 z4 rfl rfl (.t2 .nil))<|zt 1 (zp rfl (qS rfl) zP (ZR qB qB) (qX 0 rfl) ?_)
 rintro ⟨p24,c25⟩ -
 refine zt 3 (zp rfl (qS rfl) zP (ZR qB qB) (qX 2 rfl) ?_)
 rintro ⟨p26,c27⟩ -
 refine zt 4 (zH rfl rfl rfl rfl z8 (.t2 .nil) ?_)
 refine Zc (qP (i:=1) rfl)<|zt 5 (zH rfl rfl rfl rfl z8 (.t2 .nil) ?_)
 refine zU kr<|zi<|qe<|vg<|zE (zb yb rfl Jn rfl rfl)<|zw (zc 1 J5 rfl rfl rfl)<|zE (zb yb rfl Jn rfl rfl)<|zw (zc 0 J5 rfl rfl rfl)<|zE (zbp yl rfl rfl)<|Vc<|zx rfl (fun hst=> ?_) (fun hst=> ?_)
 refine qe<|vk (.c (i:=2) rfl (.c (i:=0) rfl (.c (i:=0) rfl .n)))<|Vk 8<|zC 0 rfl (zb yb rfl Jn rfl rfl)<|qy 1 rfl (zc 2 J5 rfl rfl rfl)<|zC 2 rfl (zb yb rfl Zu rfl rfl)<|qy 3 rfl (zc 2 jQ rfl rfl rfl)<|zC 4 rfl (zb yb rfl Zu rfl rfl)<|qy 5 rfl (zc 1 jQ rfl rfl rfl)<|zt 6 (zp rfl (q7 rfl rfl) zP (zk0 zL zL) (vj 1 0) ?_)
 rintro ⟨p38,c39⟩ -
 refine zt 7 (zp rfl (q7 rfl rfl) zP (Vr (by have:=Big.zjw (yd s l1).natAbs (yd t l2).natAbs;omega)) (qX 0) ?_)
 rintro ⟨a6,a7⟩ -
 refine zt 8 (zH rfl rfl rfl rfl z8 (.t2 .nil) ?_)
 refine zU kr<|zi<|vv<|zD ?_
 have hz:=Big.zmm hst
 exact zq rfl (a6,a7) trivial (zy 0 z4 rfl rfl (.t2 .nil)) (by rw [hz]) oN ((.e (j:=0) rfl (by rw [hz]) .n))
 refine vY<|vg<|zE (zb yb rfl Zu rfl rfl)<|zw (zc 1 jQ rfl rfl rfl)<|zE (zb yb rfl Zu rfl rfl)<|zw (zc 0 jQ rfl rfl rfl)<|qg (q7 rfl rfl) zP za8 (vj 1 0)<|vZ 1 rfl<|zx rfl (fun hcmp=> ?_) (fun hcmp=> ?_)
 have hab:(yd t l2).natAbs≤(yd s l1).natAbs:=by have:=Big.JH.1 hcmp;omega
 refine qe<|vk (.c (i:=2) rfl (.c (i:=0) rfl (.c (i:=0) rfl .n)))<|Vk 8<|zC 0 rfl (zb yb rfl Jn rfl rfl)<|qy 1 rfl (zc 2 J5 rfl rfl rfl)<|zC 2 rfl (zb yb rfl Zu rfl rfl)<|qy 3 rfl (zc 2 jQ rfl rfl rfl)<|zC 4 rfl (zb yb rfl Zu rfl rfl)<|qy 5 rfl (zc 1 jQ rfl rfl rfl)<|zt 6 (zp rfl (q7 rfl rfl) zP (Kb zL zL zL) (vj 1 0) ?_)
 rintro ⟨b6,b7⟩ -
 refine zt 7 (zp rfl (q7 rfl rfl) zP (Vr (by have:=Big.zjx (yd s l1).natAbs (yd t l2).natAbs;omega)) (qX 0) ?_)
 rintro ⟨a8,a9⟩ -
 refine zt 8 (zH rfl rfl rfl rfl z8 (.t2 .nil) ?_)
 refine zU kr<|zi<|vv<|zD ?_
 have hz:=Big.zmn hst hab
 exact zq rfl (a8,a9) trivial (zy 0 z4 rfl rfl (.t2 .nil)) (by rw [hz]) oN ((.e (j:=0) rfl (by rw [hz]) .n))
 have hab:(yd s l1).natAbs≤(yd t l2).natAbs:=by have:¬((yd t l2).natAbs:Int)≤(yd s l1).natAbs:=fun h=>hcmp (Big.JH.2 h);omega
 refine vY<|vk (.c (i:=2) rfl (.c (i:=0) rfl (.c (i:=0) rfl .n)))<|Vk 8<|zC 0 rfl (zb yb rfl Jn rfl rfl)<|qy 1 rfl (zc 1 J5 rfl rfl rfl)<|zC 2 rfl (zb yb rfl Zu rfl rfl)<|qy 3 rfl (zc 1 jQ rfl rfl rfl)<|zC 4 rfl (zb yb rfl Zu rfl rfl)<|qy 5 rfl (zc 2 jQ rfl rfl rfl)<|zt 6 (zp rfl (q7 rfl rfl) zP (Kb zL zL zL) (vj 0 1) ?_)
 rintro ⟨b8,b9⟩ -
 refine zt 7 (zp rfl (q7 rfl rfl) zP (Vr (by have:=Big.zjx (yd t l2).natAbs (yd s l1).natAbs;omega)) (qX 0) ?_)
 rintro ⟨b4,b5⟩ -
 refine zt 8 (zH rfl rfl rfl rfl z8 (.t2 .nil) ?_)
 refine zU kr<|zi<|vv ?_
 have hz:=Big.add_lt hst hab
 exact zq rfl (b4,b5) trivial (zy 0 z4 rfl rfl (.t2 .nil)) (by rw [hz]) oN ((.e (j:=0) rfl (by rw [hz]) .n))
theorem zk2 (hb1:yg x1≤4398046511104) (hb2:yg x2≤4398046511104):jI yi 158 [.agg #[.bool (decide ((x1)<0)),.slice (p1) ((ya ((x1).natAbs)).length) (c1)],.agg #[.bool (decide ((x2)<0)),.slice (p2) ((ya ((x2).natAbs)).length) (c2)]] [] [zI (rI .u32) (p1) (c1) (ya ((x1).natAbs)),zI (rI .u32) (p2) (c2) (ya ((x2).natAbs))] (Y:=(Option Addr)×(Nat)) (fun y=>True) (fun y=> .agg #[.bool (decide ((x1+x2)<0)),.slice (y.1) ((ya ((x1+x2).natAbs)).length) (y.2)]) (fun y=>[]) (fun y=>[zI (rI .u32) (y.1) (y.2) (ya ((x1+x2).natAbs))]):=by
  have h:= @zgc (decide ((x1)<0)) p1 (ya (x1).natAbs).length c1 (ya (x1).natAbs) (decide ((x2)<0)) p2 (ya (x2).natAbs).length c2 (ya (x2).natAbs) rfl rfl hb1 hb2
  rw [yo,yo] at h
  exact h
theorem zk3 (hb1:yg x1≤4398046511104) (hb2:yg x2≤4398046511104):jI yi 158 [.agg #[w1.b,w1.l],.agg #[w2.b,w2.l]] [] [zF w1 (x1),zF w2 (x2)] (Y:=(Wd)) (fun y=>True) (fun y=> .agg #[y.b,y.l]) (fun y=>[]) (fun y=>[zF y (x1+x2)]):=by
  exact Vn (Jb (fun p1 c1 p2 c2=>zk2 hb1 hb2))
theorem zk4 {s:Bool} {p1:Option Addr} {n1:Nat} {c1:Nat} {l1:List Int} {t:Bool} {p2:Option Addr} {n2:Nat} {c2:Nat} {l2:List Int} (hn1:l1.length=n1) (hn2:l2.length=n2):CA 189 [.agg #[.bool s,.slice p1 n1 c1],.agg #[.bool t,.slice p2 n2 c2]] [zI (rI .u32) p1 c1 l1,zI (rI .u32) p2 c2 l2] (.bool (decide (s=t∧l1=l2))):=by
 refine zg Tryz.func189 rfl rfl (fun c=> ?_)
 refine zN 0 rfl (fun hL0=> ?_)
 refine zN 1 rfl (fun hL1=> ?_)
 refine vg<|zB (zX rfl rfl) (fun b1=> ?_)
 refine zB (zX rfl rfl) (fun b2=> ?_)
 refine jn 1 rfl<|ji (X:=Unit) (fun x=>True) (fun x=>[(19,.bool (decide (¬(s=t∧n1=n2)))),(4,.bool false),(3,Vp b2),(2,Vp b1)]) (fun x=>[zK b2 30 [.bool t,.slice p2 n2 c2],zK b1 30 [.bool s,.slice p1 n1 c1]]) (fun x=>[zI (rI .u32) p1 c1 l1,zI (rI .u32) p2 c2 l2]) ?_ ?_
 refine zv<|zE (zb yb rfl Jn rfl rfl)<|zw (zc 1 J5 rfl rfl rfl)<|zE (zb yb rfl Jn rfl rfl)<|zw (zc 0 J5 rfl rfl rfl)<|zE (Zt yl rfl rfl)<|q8 (qU rfl) (fun h3=> ?_) (fun h3=> ?_)
 refine qY 8 rfl ?_
 exact qL () Qn ((.e rfl (congrArg Value.bool (by simp_all)) (.of rfl))) ((.of [0,0] rfl):zJ _ _ _) ((.of [0,1] rfl))
 refine zE (zb yb rfl Zu rfl rfl)<|zw (zc 1 jQ rfl rfl rfl)<|kS 1 rfl<|zE (zb yb rfl Zu rfl rfl)<|zw (zc 0 jQ rfl rfl rfl)<|qY 3 rfl ?_
 exact qL () Qn ((.e rfl (congrArg Value.bool (by simp_all;try omega)) (.of rfl))) ((.of [0,0] rfl):zJ _ _ _) ((.of [0,1] rfl))
 rintro ⟨⟩ -
 refine zx rfl (fun hne=> ?_) (fun hne=> ?_)
 refine Zn 1 rfl<|zD ?_
 exact zq rfl () trivial (zj rfl) (congrArg Value.bool (decide_eq_false (fun h=>hne ⟨h.1,by rw [← hn1,←hn2,h.2]⟩))) oN sN
 replace hne:s=t∧n1=n2:=ybl.1 hne
 refine vY<|k12 1 rfl<|zk<|z5 (X:=Nat) (fun x=>x≤n1∧∀j,j<x→l1.getD j 0=l2.getD j 0) (fun x=>[(5,Vi x)]) [3,2] (fun x=>[zK b2 30 [.bool t,.slice p2 n2 c2],zK b1 30 [.bool s,.slice p1 n1 c1]]) (fun x=>[]) [0,1] (fun x=>n1 - x) 0 (by exact ⟨Oo,fun j h=>by omega⟩) (.e rfl vA .n) ((.of [0,0] rfl):zJ _ _ _) sN ?_
 rintro i hI
 obtain ⟨hi,hall⟩:=hI
 refine qe<|jK 1 rfl<|zE (zb yb rfl Zu rfl rfl)<|zw (zc 1 jQ rfl rfl rfl)<|vZ 2 rfl<|zx rfl (fun h4=> ?_) (fun h4=> ?_)
 refine vY<|zk<|qe<|Jo 100000<|zC 0 rfl (zb yb rfl Zu rfl rfl)<|vE 1 rfl (zc 1 jQ rfl rfl rfl)<|zQ 2 rfl rfl<|jO 3 rfl 0 i rfl yc qM rfl J0 rfl rfl (gD (d:=0) om) (fun b5 o6 a0=> ?_) (x0:=(l1.getD i 0))
 replace a0:=zO.1 a0
 refine vE 4 rfl (zf (j:=0) 0 vJ rfl rfl rfl rfl)<|zC 5 rfl (zb yb rfl Zu rfl rfl)<|vE 6 rfl (zc 0 jQ rfl rfl rfl)<|zQ 7 rfl rfl<|jO 8 rfl 2 i rfl yc qM rfl J0 rfl rfl (gD (d:=0) om) (fun b8 o9 a1=> ?_) (x0:=(l2.getD i 0))
 replace a1:=zO.1 a1
 refine vE 9 rfl (zf (j:=0) 0 vJ rfl rfl rfl rfl)<|zC 10 rfl (zhs rfl rfl)<|zU kr<|zi<|zx rfl (fun hd=> ?_) (fun hd=> ?_)
 refine Zn 1 rfl<|qz<|zD<|zD<|qz<|zD ?_
 exact zq rfl () trivial (zj rfl) (congrArg Value.bool (decide_eq_false (fun h=>hd (by rw [h.2])))) oN sN
 refine qN<|zG<|zi<|vM 1 rfl<|zE (qj rfl rfl)<|qY 1 rfl<|zW (i+1) (by refine ⟨Oo,fun j hj=> ?_⟩;by_cases e:j=i;subst e;omega;exact hall j om) om (mR rfl) ((.of [0,0] rfl):zJ _ _ _) ((.of [2,3] rfl))
 refine z7<|ze<|ze<|zn<|zi<|Zn 1 rfl ?_
 exact zq rfl () trivial (zj rfl) (congrArg Value.bool (decide_eq_true ⟨hne.1,Big.j9 om (fun j hj=>hall j om)⟩)) oN sN
theorem zhX :jI yi 189 [.agg #[.bool (decide ((x1)<0)),.slice (p1) ((ya ((x1).natAbs)).length) (c1)],.agg #[.bool (decide ((x2)<0)),.slice (p2) ((ya ((x2).natAbs)).length) (c2)]] [] [zI (rI .u32) (p1) (c1) (ya ((x1).natAbs)),zI (rI .u32) (p2) (c2) (ya ((x2).natAbs))] (Y:=Unit) (fun y=>True) (fun y=> .bool (decide (x1=x2))) (fun y=>[]) (fun y=>[]):=by
  have h:= @zk4 (decide ((x1)<0)) p1 (ya (x1).natAbs).length c1 (ya (x1).natAbs) (decide ((x2)<0)) p2 (ya (x2).natAbs).length c2 (ya (x2).natAbs) rfl rfl
  rw [show decide (decide ((x1)<0)=decide ((x2)<0)∧ya (x1).natAbs=ya (x2).natAbs)=decide (x1=x2) from decide_eq_decide.2 Big.same_iff] at h
  exact h
theorem zcL :jI yi 189 [.agg #[w1.b,w1.l],.agg #[w2.b,w2.l]] [] [zF w1 (x1),zF w2 (x2)] (Y:=Unit) (fun y=>True) (fun y=> .bool (decide (x1=x2))) (fun y=>[]) (fun y=>[]):=by
  exact Jb (fun p1 c1 p2 c2=>zhX)
theorem zgd {s:Bool} {p1:Option Addr} {n1:Nat} {c1:Nat} {l1:List Int} {t:Bool} {p2:Option Addr} {n2:Nat} {c2:Nat} {l2:List Int} (hn1:l1.length=n1) (hn2:l2.length=n2) (hm1:n1≤4398046511104) (hm2:n2≤4398046511104):CB 217 [.agg #[.bool s,.slice p1 n1 c1],.agg #[.bool t,.slice p2 n2 c2]] [zI (rI .u32) p1 c1 l1,zI (rI .u32) p2 c2 l2] (Y:=(Option Addr)×Nat) (fun y=> .agg #[.bool (decide ((yd s l1 - yd t l2)<0)),.slice (y.1) ((ya ((yd s l1 - yd t l2).natAbs)).length) (y.2)]) (fun y=>[zI (rI .u32) (y.1) (y.2) (ya ((yd s l1 - yd t l2).natAbs))]):=by
 refine zg Tryz.func217 rfl rfl (fun c=> ?_)
 refine zN 0 rfl (fun hL0=> ?_)
 refine jZ 0 rfl (fun a0=> ?_)
 refine zN 1 rfl (fun hL1=> ?_)
 refine jZ 1 rfl (fun a1=> ?_)
 have a2:yn l1:=fun g hg=>(zO.1 (a0 g hg)).1
 have a3:yn l2:=fun g hg=>(zO.1 (a1 g hg)).1
 have a4:yg (yd s l1)≤n1:=by have:=Big.ZC (s:=s) a2;omega
 have a5:yg (yd t l2)≤n2:=by have:=Big.ZC (s:=t) a3;omega
 unfold yg at a4 a5
 refine vg<|zB (zX rfl rfl) (fun b1=> ?_)
 refine zB (zX rfl rfl) (fun b2=> ?_)
 refine zB (zo jo rfl) (fun b3=> ?_)
 refine ZI<|Vk 4<|qy 0 rfl (za 2 z4 rfl rfl (.t2 .nil))<|qy 1 rfl (za 1 z4 rfl rfl (.t2 .nil))<|zt 2 (zp rfl (qS rfl) zP (zgb qB qB) (qX 1 rfl) ?_)
 rintro ⟨p24,c25⟩ -
 dsimp only [aq,nq,cq]
 refine zt 3 (zp rfl (.c rfl (.c rfl .n)) zP (zgc qB (by first|rfl|assumption|omega|(rw [yag];omega)) qB (by first|rfl|assumption|omega|(rw [yag];omega))) (vj 1 0 rfl rfl) ?_)
 rintro ⟨a6,a7⟩ -
 refine zt 4 (zH rfl rfl rfl rfl z8 (.t2 .nil) ?_)
 refine zU kr<|zi<|vv ?_
 have hz:yd s l1+yd (decide ((- yd t l2)<0)) (ya (- yd t l2).natAbs)=yd s l1 - yd t l2:=by rw [yo];omega
 exact zq rfl (a6,a7) trivial (zy 0 z4 rfl rfl (.t2 .nil)) (by rw [hz]) oN ((.e (j:=0) rfl (by rw [hz]) .n))
theorem Wi (hb1:yg x1≤4398046511104) (hb2:yg x2≤4398046511104):jI yi 217 [.agg #[.bool (decide ((x1)<0)),.slice (p1) ((ya ((x1).natAbs)).length) (c1)],.agg #[.bool (decide ((x2)<0)),.slice (p2) ((ya ((x2).natAbs)).length) (c2)]] [] [zI (rI .u32) (p1) (c1) (ya ((x1).natAbs)),zI (rI .u32) (p2) (c2) (ya ((x2).natAbs))] (Y:=(Option Addr)×(Nat)) (fun y=>True) (fun y=> .agg #[.bool (decide ((x1 - x2)<0)),.slice (y.1) ((ya ((x1 - x2).natAbs)).length) (y.2)]) (fun y=>[]) (fun y=>[zI (rI .u32) (y.1) (y.2) (ya ((x1 - x2).natAbs))]):=by
  have h:= @zgd (decide ((x1)<0)) p1 (ya (x1).natAbs).length c1 (ya (x1).natAbs) (decide ((x2)<0)) p2 (ya (x2).natAbs).length c2 (ya (x2).natAbs) rfl rfl hb1 hb2
  rw [yo,yo] at h
  exact h
theorem zmS {s:Bool} {p1:Option Addr} {n1:Nat} {c1:Nat} {l1:List Int} {t:Bool} {p2:Option Addr} {n2:Nat} {c2:Nat} {l2:List Int} (hn1:l1.length=n1) (hn2:l2.length=n2) (hm1:n1≤4398046511104) (hm2:n2≤4398046511104):CB 127 [.agg #[.bool s,.slice p1 n1 c1],.agg #[.bool t,.slice p2 n2 c2]] [zI (rI .u32) p1 c1 l1,zI (rI .u32) p2 c2 l2] (Y:=(Option Addr)×Nat) (fun y=> .agg #[.bool (decide ((yd s l1*yd t l2)<0)),.slice (y.1) ((ya ((yd s l1*yd t l2).natAbs)).length) (y.2)]) (fun y=>[zI (rI .u32) (y.1) (y.2) (ya ((yd s l1*yd t l2).natAbs))]):=by
 refine zg Tryz.func127 rfl rfl (fun c=> ?_)
 refine zN 0 rfl (fun hL0=> ?_)
 refine jZ 0 rfl (fun b6=> ?_)
 refine zN 1 rfl (fun hL1=> ?_)
 refine jZ 1 rfl (fun b7=> ?_)
 have b9:yn l1:=fun g hg=>(zO.1 (b6 g hg)).1
 have c3:yn l2:=fun g hg=>(zO.1 (b7 g hg)).1
 have c4:yg (yd s l1)≤n1:=by have:=Big.ZC (s:=s) b9;omega
 have c5:yg (yd t l2)≤n2:=by have:=Big.ZC (s:=t) c3;omega
 unfold yg at c4 c5
 have hoa:=yk (yd s l1).natAbs
 have hob:=yk (yd t l2).natAbs
 refine vg<|zB (zX rfl rfl) (fun b1=> ?_)
 refine zB (zX rfl rfl) (fun b2=> ?_)
 refine zB (zo jo rfl) (fun b3=> ?_)
 refine ZI<|vk (.c (i:=2) rfl (.c (i:=1) rfl (.c (i:=0) rfl .n)))<|rd2 4<|qy 0 rfl (za 0 z4 rfl rfl (.t2 .nil))<|qy 2 rfl (za 1 z4 rfl rfl (.t2 .nil))<|zt 1 (zp rfl (qS rfl) zP (ZR qB qB) (qX 0 rfl) ?_)
 rintro ⟨a1,a2⟩ -
 refine zt 3 (zp rfl (qS rfl) zP (ZR qB qB) (qX 2 rfl) ?_)
 rintro ⟨a3,a4⟩ -
 refine zt 4 (zH rfl rfl rfl rfl z8 (.t2 .nil) ?_)
 refine Zc (qP (i:=1) rfl)<|zt 5 (zH rfl rfl rfl rfl z8 (.t2 .nil) ?_)
 refine zU kr<|zi<|vg<|zE (zb yb rfl Zu rfl rfl)<|zw (zc 1 jQ rfl rfl rfl)<|kS 1 rfl<|zE (zb yb rfl Zu rfl rfl)<|zw (zc 0 jQ rfl rfl rfl)<|kS 1 rfl<|zE (qm rfl rfl w6)<|qZ (vS (r:=rI .u32) (k:=(((ya ((yd s l1).natAbs)).length)+((ya ((yd t l2).natAbs)).length))) (x0:=0) (γ0:=()) yc vB rfl rfl rfl rfl om om rfl (fun g _=>by exact zO.2 dd) dd) (fun b8 _=> ?_)
 refine jn 1 rfl<|k12 1 rfl<|zk<|z5 (X:=Nat×(List Int)) (fun x=>x.1≤(ya (yd s l1).natAbs).length∧x.2.length=(ya (yd s l1).natAbs).length+(ya (yd t l2).natAbs).length∧yp x.2∧(∀k,x.1+(ya (yd t l2).natAbs).length≤k→x.2.getD k 0=0)∧yh x.2=yh ((ya (yd s l1).natAbs).take x.1)*yh (ya (yd t l2).natAbs)) (fun x=>[(6,Vi x.1)]) [5,4,3,2] (fun x=>[rowA 133 (rI .u32) (Sb b8) (((ya ((yd s l1).natAbs)).length)+((ya ((yd t l2).natAbs)).length)) (x.2),zK b2 30 [.bool (decide ((yd t l2)<0)),.slice a3 ((ya ((yd t l2).natAbs)).length) a4],zK b1 30 [.bool (decide ((yd s l1)<0)),.slice a1 ((ya ((yd s l1).natAbs)).length) a2],zK b3 30 [wz.b,wz.l]]) (fun x=>[]) [0,1] (fun x=>(ya (yd s l1).natAbs).length - x.1) (0,yG ((ya (yd s l1).natAbs).length+(ya (yd t l2).natAbs).length) 0) (by exact ⟨Oo,by simp,Big.za0 _,fun k _=>Big.WK _ k,by simp [Big.J6,yh]⟩) (.e rfl vA .n) ((.e (i:=0) rfl vA (.of [0,0,0] rfl)):zJ _ _ _) sN ?_
 rintro ⟨i,os⟩ hI
 replace hI:i≤(ya (yd s l1).natAbs).length∧os.length=(ya (yd s l1).natAbs).length+(ya (yd t l2).natAbs).length∧yp os∧(∀k,i+(ya (yd t l2).natAbs).length≤k→os.getD k 0=0)∧yh os=yh ((ya (yd s l1).natAbs).take i)*yh (ya (yd t l2).natAbs):=hI
 obtain ⟨hi,hol,hok,hz,hv⟩:=hI
 have c6:=ym hoa i
 refine qe<|jK 1 rfl<|zE (zb yb rfl Zu rfl rfl)<|zw (zc 2 jQ rfl rfl rfl)<|vZ 2 rfl<|zx rfl (fun h9=> ?_) (fun h9=> ?_)
 refine qN<|zi<|qe<|zk<|qe<|zv<|kS 1 rfl<|jq<|zi<|qe<|qe<|zv<|kS 1 rfl<|jq<|zi<|zk<|Qr (X:=Nat×(List Int)×Int) (fun x:Nat×(List Int)×Int=>x.1≤(ya (yd t l2).natAbs).length∧x.2.1.length=(ya (yd s l1).natAbs).length+(ya (yd t l2).natAbs).length∧yp x.2.1∧0≤x.2.2∧x.2.2<1000000000∧(∀k,i+(ya (yd t l2).natAbs).length≤k→x.2.1.getD k 0=0)∧yh x.2.1+Big.pw (i+x.1)*x.2.2=yh ((ya (yd s l1).natAbs).take i)*yh (ya (yd t l2).natAbs)+Big.pw i*(ya (yd s l1).natAbs).getD i 0*yh ((ya (yd t l2).natAbs).take x.1)) (fun x=>[(7,.int .u64 (x.2.2)),(8,Vi x.1),(6,Vi i),(5,.slice (Sb b8) (((ya ((yd s l1).natAbs)).length)+((ya ((yd t l2).natAbs)).length)) (((ya ((yd s l1).natAbs)).length)+((ya ((yd t l2).natAbs)).length))),(4,Vp b3),(3,Vp b2),(2,Vp b1)]) (fun x=>[rowA 133 (rI .u32) (Sb b8) (((ya ((yd s l1).natAbs)).length)+((ya ((yd t l2).natAbs)).length)) (x.2.1),zK b2 30 [.bool (decide ((yd t l2)<0)),.slice a3 ((ya ((yd t l2).natAbs)).length) a4],zK b1 30 [.bool (decide ((yd s l1)<0)),.slice a1 ((ya ((yd s l1).natAbs)).length) a2],zK b3 30 [wz.b,wz.l]]) (fun x=>[zI (rI .u32) a3 a4 (ya ((yd t l2).natAbs)),zI (rI .u32) a1 a2 (ya ((yd s l1).natAbs))]) (fun x:Nat×(List Int)×Int=>(ya (yd t l2).natAbs).length - x.1) (0,os,0) (by dsimp only;exact ⟨Oo,hol,hok,Od,Od,hz,by rw [hv];simp [yh]⟩) ((.c rfl (.e rfl vA (.of rfl))):vQ _ _) (ho:=((.of [0,0,0,0] rfl):zJ _ _ _)) ((.of [0,1] rfl):q9 _ _ _) ?_
 rintro ⟨j,a0,cy⟩ hJ
 replace hJ:j≤(ya (yd t l2).natAbs).length∧a0.length=(ya (yd s l1).natAbs).length+(ya (yd t l2).natAbs).length∧yp a0∧0≤cy∧cy<1000000000∧(∀k,i+(ya (yd t l2).natAbs).length≤k→a0.getD k 0=0)∧yh a0+Big.pw (i+j)*cy=yh ((ya (yd s l1).natAbs).take i)*yh (ya (yd t l2).natAbs)+Big.pw i*(ya (yd s l1).natAbs).getD i 0*yh ((ya (yd t l2).natAbs).take j):=hJ
 try dsimp only
 obtain ⟨hj,a7,a5,d4,d5,a6,a8⟩:=hJ
 have c7:=ym hob j
 have hg3:=ym a5 (i+j)
 have hpq:=Big.zbT c6 c7
 refine qe<|qe<|zv<|qJ rfl<|zE (zb yb rfl Zu rfl rfl)<|zw (zc 1 jQ rfl rfl rfl)<|zE (vL yc rfl)<|zE (zhq rfl rfl)<|jq<|zi<|zx rfl (fun c8=> ?_) (fun c8=> ?_)
 refine qN<|zi<|qe<|zk<|qe<|We (OW:=[]) (O:=[rowA 133 (rI .u32) (some ⟨b8,0,none⟩) (((ya ((yd s l1).natAbs)).length)+((ya ((yd t l2).natAbs)).length)) a0,zK b2 30 [.bool (decide ((yd t l2)<0)),.slice a3 ((ya ((yd t l2).natAbs)).length) a4],zK b1 30 [.bool (decide ((yd s l1)<0)),.slice a1 ((ya ((yd s l1).natAbs)).length) a2],zK b3 30 [wz.b,wz.l]]) 100000 mixed (.then (.block (.then (.then (.block (.then (.block (.then (.then (.block (.then .ret))))))))))) kr ?_
 refine zcF 0 rfl rfl rfl ?_
 refine zcF 1 rfl rfl rfl ?_
 refine zcF 2 rfl rfl rfl ?_
 refine KR 3 rfl rfl (qm (z:=(((i+j):Nat):Int)) rfl rfl (Q9 om)) ?_
 refine KR 4 rfl rfl (zZ (j:=(i+j)) yc qM rfl rfl rfl om) ?_
 refine zlY 5 rfl rfl kr kr rfl rfl (qi 0 (i+j) rfl vJ rfl rfl (gD (d:=0) om) rfl) (fun _ a9=> ?_)
 replace a9:=zO.1 a9
 refine KR 6 rfl rfl (zY (z:=(a0.getD (i+j) 0)) rfl (by rw [yf];rfl) ye (vu om)) ?_
 refine KR 7 rfl rfl (zb yb rfl Zu rfl rfl) ?_
 refine zpB 8 rfl rfl (zc 2 jQ rfl rfl rfl) ?_
 refine zcF 9 rfl rfl rfl ?_
 refine zbq (x0:=((ya ((yd s l1).natAbs)).getD i 0)) 10 rfl rfl kr kr 1 i rfl yc qM rfl rfl rfl (by first|rfl|assumption|(simp;omega)|omega) rfl rfl (gD (d:=0) om) (fun b12 o13 b4=> ?_)
 replace b4:=zO.1 b4
 refine zpB 11 rfl rfl (zf (j:=0) 0 vJ rfl rfl rfl rfl) ?_
 refine KR 12 rfl rfl (zY (z:=((ya ((yd s l1).natAbs)).getD i 0)) rfl (by rw [yf];rfl) ye (vu om)) ?_
 refine KR 13 rfl rfl (zb yb rfl Zu rfl rfl) ?_
 refine zpB 14 rfl rfl (zc 1 jQ rfl rfl rfl) ?_
 refine zcF 15 rfl rfl rfl ?_
 refine zbq (x0:=((ya ((yd t l2).natAbs)).getD j 0)) 16 rfl rfl kr kr 1 j rfl yc qM rfl rfl rfl (by first|rfl|assumption|(simp;omega)|omega) rfl rfl (gD (d:=0) om) (fun b15 o16 b5=> ?_)
 replace b5:=zO.1 b5
 refine zpB 17 rfl rfl (zf (j:=0) 0 vJ rfl rfl rfl rfl) ?_
 refine KR 18 rfl rfl (zY (z:=((ya ((yd t l2).natAbs)).getD j 0)) rfl (by rw [yf];rfl) ye (vu om)) ?_
 refine KR 19 rfl rfl (qw (z:=(((ya ((yd s l1).natAbs)).getD i 0)*((ya ((yd t l2).natAbs)).getD j 0))) rfl rfl (vu om)) ?_
 refine KR 20 rfl rfl (qm (z:=((a0.getD (i+j) 0)+(((ya ((yd s l1).natAbs)).getD i 0)*((ya ((yd t l2).natAbs)).getD j 0)))) rfl rfl (vu om)) ?_
 refine zcF 21 rfl rfl rfl ?_
 refine KR 22 rfl rfl (qm (z:=(((a0.getD (i+j) 0)+(((ya ((yd s l1).natAbs)).getD i 0)*((ya ((yd t l2).natAbs)).getD j 0)))+cy)) rfl rfl (vu om)) ?_
 refine KR 23 rfl rfl (zT rfl) ?_
 refine zU kr<|zi<|qe<|zv<|qJ rfl<|qJ rfl<|qJ rfl<|zE (qm (z:=(((i+j):Nat):Int)) rfl rfl (Q9 om))<|qJ rfl<|zE (jk (z:=((((a0.getD (i+j) 0)+(((ya ((yd s l1).natAbs)).getD i 0)*((ya ((yd t l2).natAbs)).getD j 0)))+cy)%1000000000)) rfl rfl om (KG om om))<|zE (zY (z:=((((a0.getD (i+j) 0)+(((ya ((yd s l1).natAbs)).getD i 0)*((ya ((yd t l2).natAbs)).getD j 0)))+cy)%1000000000)) rfl (by rw [ye];rfl) yf (ZU om))<|zE (zZ (j:=(i+j)) yc qM rfl rfl rfl om)<|Zz 0 rfl rfl rfl (qh (j:=(i+j)) (x0:=((((a0.getD (i+j) 0)+(((ya ((yd s l1).natAbs)).getD i 0)*((ya ((yd t l2).natAbs)).getD j 0)))+cy)%1000000000)) (γ0:=()) rfl rfl (by first|omega|(rw [yal];omega)|(simp only [yr];omega)|(simp;done)|(simp;omega)) rfl rfl qM (fun _ _=>by exact zO.2 om)) (fun _=> .z) (fun _ _=> ?_)
 refine jq<|zi<|zv<|qJ rfl<|zE (Z6 (z:=((((a0.getD (i+j) 0)+(((ya ((yd s l1).natAbs)).getD i 0)*((ya ((yd t l2).natAbs)).getD j 0)))+cy) / 1000000000)) rfl rfl om (by rw [KF (z:=((((a0.getD (i+j) 0)+(((ya ((yd s l1).natAbs)).getD i 0)*((ya ((yd t l2).natAbs)).getD j 0)))+cy) / 1000000000)) om om];exact vu om))<|zE (zT rfl)<|jq<|zG<|zi<|zv<|qJ rfl<|zE (qm (z:=(((j+1):Nat):Int)) rfl rfl (Q9 om))<|zE (zT rfl)<|jq<|zW ((j+1),a0.set (i+j) ((a0.getD (i+j) 0+(ya (yd s l1).natAbs).getD i 0*(ya (yd t l2).natAbs).getD j 0+cy)%1000000000),(a0.getD (i+j) 0+(ya (yd s l1).natAbs).getD i 0*(ya (yd t l2).natAbs).getD j 0+cy) / 1000000000) (show (j+1)≤(ya (yd t l2).natAbs).length∧(a0.set (i+j) ((a0.getD (i+j) 0+(ya (yd s l1).natAbs).getD i 0*(ya (yd t l2).natAbs).getD j 0+cy)%1000000000)).length=(ya (yd s l1).natAbs).length+(ya (yd t l2).natAbs).length∧yp (a0.set (i+j) ((a0.getD (i+j) 0+(ya (yd s l1).natAbs).getD i 0*(ya (yd t l2).natAbs).getD j 0+cy)%1000000000))∧0≤((a0.getD (i+j) 0+(ya (yd s l1).natAbs).getD i 0*(ya (yd t l2).natAbs).getD j 0+cy) / 1000000000)∧((a0.getD (i+j) 0+(ya (yd s l1).natAbs).getD i 0*(ya (yd t l2).natAbs).getD j 0+cy) / 1000000000)<1000000000∧(∀k,i+(ya (yd t l2).natAbs).length≤k→(a0.set (i+j) ((a0.getD (i+j) 0+(ya (yd s l1).natAbs).getD i 0*(ya (yd t l2).natAbs).getD j 0+cy)%1000000000)).getD k 0=0)∧yh (a0.set (i+j) ((a0.getD (i+j) 0+(ya (yd s l1).natAbs).getD i 0*(ya (yd t l2).natAbs).getD j 0+cy)%1000000000))+Big.pw (i+(j+1))*((a0.getD (i+j) 0+(ya (yd s l1).natAbs).getD i 0*(ya (yd t l2).natAbs).getD j 0+cy) / 1000000000)=yh ((ya (yd s l1).natAbs).take i)*yh (ya (yd t l2).natAbs)+Big.pw i*(ya (yd s l1).natAbs).getD i 0*yh ((ya (yd t l2).natAbs).take (j+1)) from by exact ⟨Oo,by simpa using a7,Big.QW a5 om om,Oo,Oo,fun k hk=>by rw [Big.getD_set_ne om];exact a6 k om,Big.zcu a8 om om⟩) (by show (ya (yd t l2).natAbs).length - (j+1)<(ya (yd t l2).natAbs).length - j;omega) ((.e rfl vA (.of rfl)):vQ _ _) (ho:=((.e (i:=0) rfl vA (.of [0,0,0] rfl)):zJ _ _ _)) ((.of [2,3] rfl):q9 _ _ _)
 have hjb:j=(ya (yd t l2).natAbs).length:=Oo
 subst hjb
 have c9:=a8
 refine z7<|ze<|ze<|zn<|zi<|zv<|qJ rfl<|qJ rfl<|zE (zb yb rfl Zu rfl rfl)<|zw (zc 1 jQ rfl rfl rfl)<|zE (vL yc rfl)<|zE (qm (z:=(((i+((ya ((yd t l2).natAbs)).length)):Nat):Int)) rfl rfl (Q9 om))<|qJ rfl<|zE (zY (z:=cy) rfl (by rw [ye];rfl) yf (ZU om))<|zE (zZ (j:=(i+((ya ((yd t l2).natAbs)).length))) yc qM rfl rfl rfl om)<|Zz 0 rfl rfl rfl (qh (j:=(i+((ya ((yd t l2).natAbs)).length))) (x0:=cy) (γ0:=()) rfl rfl (by first|omega|(rw [yal];omega)|(simp only [yr];omega)|(simp;done)|(simp;omega)) rfl rfl qM (fun _ _=>by exact zO.2 om)) (fun _=> .z) (fun _ _=> ?_)
 refine jq<|zG<|zi<|vM 1 rfl<|zE (qj rfl rfl)<|qY 1 rfl<|zW ((i+1),a0.set (i+(ya (yd t l2).natAbs).length) cy) (by exact ⟨Oo,by simpa using a7,Big.QW a5 om om,fun k hk=>by rw [Big.getD_set_ne om];exact a6 k om,Big.za2 c9 om (a6 _ (yJ _))⟩) om (mR rfl) ((.e (i:=0) rfl vA (.of [0,0,0] rfl)):zJ _ _ _) ((.of [0,1] rfl))
 have hia:i=(ya (yd s l1).natAbs).length:=Oo
 have hfin:yj (decide (decide (yd s l1<0)≠decide (yd t l2<0))) (yh os)=yd s l1*yd t l2:=by rw [hv,hia,List.take_length,Big.qE,Big.qE,←yH,Big.zex,Big.za1,Big.za1]
 refine z7<|ze<|ze<|zn<|zi<|vg<|zE (zb yb rfl Jn rfl rfl)<|zw (zc 2 J5 rfl rfl rfl)<|zE (zb yb rfl Jn rfl rfl)<|zw (zc 1 J5 rfl rfl rfl)<|zE (Zt yl rfl rfl)<|qJ rfl<|qt 0 rfl .z<|zm (q7 rfl rfl) zP (Zs zL (by exact hok) zL) (qX 0 rfl) ?_
 rintro ⟨d0,d1⟩ -
 refine zh 3 rfl rfl rfl rfl z8 (.t2 .nil) (.s (.s (.s .z)))<|Va ?_
 exact zq rfl (d0,d1) trivial (zy 3 z4 rfl rfl (.t2 .nil)) (by rw [hfin]) oN ((.e (j:=0) rfl (by rw [hfin]) .n))
theorem Wj (hb1:yg x1≤4398046511104) (hb2:yg x2≤4398046511104):jI yi 127 [.agg #[.bool (decide ((x1)<0)),.slice (p1) ((ya ((x1).natAbs)).length) (c1)],.agg #[.bool (decide ((x2)<0)),.slice (p2) ((ya ((x2).natAbs)).length) (c2)]] [] [zI (rI .u32) (p1) (c1) (ya ((x1).natAbs)),zI (rI .u32) (p2) (c2) (ya ((x2).natAbs))] (Y:=(Option Addr)×(Nat)) (fun y=>True) (fun y=> .agg #[.bool (decide ((x1*x2)<0)),.slice (y.1) ((ya ((x1*x2).natAbs)).length) (y.2)]) (fun y=>[]) (fun y=>[zI (rI .u32) (y.1) (y.2) (ya ((x1*x2).natAbs))]):=by
  have h:= @zmS (decide ((x1)<0)) p1 (ya (x1).natAbs).length c1 (ya (x1).natAbs) (decide ((x2)<0)) p2 (ya (x2).natAbs).length c2 (ya (x2).natAbs) rfl rfl hb1 hb2
  rw [yo,yo] at h
  exact h
theorem Vs (hb1:yg x1≤4398046511104) (hb2:yg x2≤4398046511104):jI yi 127 [.agg #[w1.b,w1.l],.agg #[w2.b,w2.l]] [] [zF w1 (x1),zF w2 (x2)] (Y:=(Wd)) (fun y=>True) (fun y=> .agg #[y.b,y.l]) (fun y=>[]) (fun y=>[zF y (x1*x2)]):=by
  exact Vn (Jb (fun p1 c1 p2 c2=>Wj hb1 hb2))
theorem KW {a:Nat} {d:Nat} {p0:Option Addr} {cap:Nat} (hb:(ya a).length≤4398046511104) (hd:d<1000000000):CB 252 [.slice p0 ((ya a).length) cap,.int .u64 ((d:Nat):Int)] [zI (rI .u32) p0 cap (ya a)] (Y:=(Option Addr)×Nat) (fun y=> .slice (y.1) ((ya (a*d)).length) (y.2)) (fun y=>[zI (rI .u32) (y.1) (y.2) (ya (a*d))]):=by
 refine zg Tryz.func252 rfl rfl (fun c=> ?_)
 refine zN 0 rfl (fun hL0=> ?_)
 refine jS 1 rfl<|qZ (vq (rI .u32) yc vB) (fun b1 _=> ?_)
 refine jD 1 rfl<|jn 1 rfl<|k12 1 rfl<|zk<|z5 (X:=Nat×(Option Addr)×Nat×(List Int)×Int) (fun x=>Big.ScI (ya a) (d:Int) x.1 x.2.2.2.1 x.2.2.2.2) (fun x=>[(6,.int .u64 (x.2.2.2.2)),(5,.slice (x.2.1) (x.2.2.2.1.length) (x.2.2.1)),(7,Vi x.1)]) [4,0,1] (fun x=>[rowA 133 (rI .u32) (x.2.1) (x.2.2.1) (x.2.2.2.1)]) (fun x=>[]) [0] (fun x=>(ya a).length - x.1) (0,Sb b1,0,[],0) (by exact Big.ScI.start _ _) (.c rfl (.e rfl vA (.e rfl vA .n))) (o0 rfl) sN ?_
 rintro ⟨i,p,c,os,cy⟩ hI
 dsimp only at hI
 try dsimp only
 have hi:=hI.le
 have hol:=hI.len
 have a1:=hI.c0
 have a2:=hI.c1
 have hg:=ym (yk a) i
 have hsl:=Big.zmt hg (show 0≤(d:Int)∧(d:Int)<1000000000 by omega) ⟨a1,a2⟩
 refine qe<|k12 4 rfl<|zx rfl (fun h2=> ?_) (fun h2=> ?_)
 refine qN<|zi<|qe<|zk<|jK 2 rfl<|QL (x0:=((ya a).getD i 0)) 0 i rfl yc qM rfl rfl rfl (by first|rfl|assumption|(simp;done)|(simp;omega)|omega) rfl rfl (gD (d:=0) om) (fun b3 o4 a0=> ?_)
 replace a0:=zO.1 a0
 refine zw (zf (j:=0) 0 vJ rfl rfl rfl rfl)<|zE (zY (z:=((ya a).getD i 0)) rfl (by rw [yf];rfl) ye (vu om))<|qJ rfl<|zE (qw (z:=(((ya a).getD i 0)*((d:Nat):Int))) rfl rfl (vu om))<|qJ rfl<|zE (qm (z:=((((ya a).getD i 0)*((d:Nat):Int))+cy)) rfl rfl (vu om))<|jD 1 rfl<|kS 2 rfl<|zE (jk (z:=(((((ya a).getD i 0)*((d:Nat):Int))+cy)%1000000000)) rfl rfl om (KG om om))<|zE (zY (z:=(((((ya a).getD i 0)*((d:Nat):Int))+cy)%1000000000)) rfl (by rw [ye];rfl) yf (ZU om))<|Zy rfl rfl (z6 (enc:=fun z:Int=>[.int .u32 z]) (ok:=Vb .u32) (h1:=fun _=>rfl) (h2:=fun _=>rfl) (k:=1) yc vB rfl dd dd dd (.c (x:=(((((ya a).getD i 0)*((d:Nat):Int))+cy)%1000000000)) rfl rfl (fun _ _=>by exact zO.2 om) .n)) (fun b6 _=> ?_)
 refine qt 0 rfl .z<|vO 1 rfl (qT 0 rfl yc vB dd rfl rfl zL rfl zL om om) (fun _=>(.s .z)) ?_
 rintro ⟨p7,c8⟩ -
 refine vZ 1 rfl<|vM 1 rfl<|zE (Z6 (z:=(((((ya a).getD i 0)*((d:Nat):Int))+cy) / 1000000000)) rfl rfl om (by rw [KF (z:=(((((ya a).getD i 0)*((d:Nat):Int))+cy) / 1000000000)) om om];exact vu om))<|qY 1 rfl<|zG<|zi<|vM 1 rfl<|zE (qj rfl rfl)<|qY 1 rfl<|zW ((i+1),p7,c8,os++[((ya a).getD i 0*(d:Int)+cy)%1000000000],((ya a).getD i 0*(d:Int)+cy) / 1000000000) (by exact hI.step (yk a) om om) om ((.e rfl vA (.e rfl (by simp) (.of rfl)))) ((.e (i:=1) rfl vA .n):zJ _ _ _) ((.c (j:=2) rfl .n))
 obtain ⟨a3,hfin⟩:=hI.fin om
 refine z7<|ze<|ze<|zn<|zi<|jK 2 rfl<|zE (zY (z:=cy) rfl (by rw [ye];rfl) yf (ZU om))<|qZ (z6 (enc:=fun z:Int=>[.int .u32 z]) (ok:=Vb .u32) (h1:=fun _=>rfl) (h2:=fun _=>rfl) (k:=1) yc vB rfl dd dd dd (.c (x:=cy) rfl rfl (fun _ _=>by exact zO.2 om) .n)) (fun b9 _=> ?_)
 refine qt 0 rfl .z<|vO 1 rfl (qT 0 rfl yc vB dd rfl rfl zL rfl zL om om) (fun _=>(.s .z)) ?_
 rintro ⟨p10,c11⟩ -
 dsimp only [aq,nq,cq]
 refine qt 1 rfl (.s .z)<|zm (.c rfl (.c rfl .n)) zP (Zs (by first|rfl|omega|(simp;done)|(simp;omega)) (by exact a3) (by first|rfl|omega|(simp;done)|(simp;omega))) (qX 0 rfl) ?_
 rintro ⟨a4,a5⟩ -
 refine zE (jT yb rfl jQ rfl rfl)<|Zp 1 rfl ?_
 have hz:(yj false (yh (os++[cy]))).natAbs=a*d:=by rw [hfin];exact yO _
 exact zq rfl (a4,a5) trivial (zj rfl) (by rw [hz]) (ho:=oN) ((.e (j:=0) rfl (by rw [hz]) .n))
theorem zeM {a:Nat} {d:Nat} {p0:Option Addr} {cap:Nat} (hb:(ya a).length≤4398046511104) (hd:d<1000000000):CB 253 [.slice p0 ((ya a).length) cap,.int .u32 ((d:Nat):Int)] [zI (rI .u32) p0 cap (ya a)] (Y:=(Option Addr)×Nat) (fun y=> .slice (y.1) ((ya (a*1000000000+d)).length) (y.2)) (fun y=>[zI (rI .u32) (y.1) (y.2) (ya (a*1000000000+d))]):=by
 refine zg Tryz.func253 rfl rfl (fun c=> ?_)
 refine zN 0 rfl (fun hL0=> ?_)
 have a0:yp ([((d:Nat):Int)]++ya a):=Big.Qa.2 ⟨Oo,yk a⟩
 have hz:(yj false (yh (((d:Nat):Int) :: ya a))).natAbs=a*1000000000+d:=by rw [Big.KI (Big.qV (l:=((d:Nat):Int) :: ya a) a0)];simp only [yh,Big.qE];omega
 refine jS 1 rfl<|qJ rfl<|qZ (z6 (enc:=fun z:Int=>[.int .u32 z]) (ok:=Vb .u32) (h1:=fun _=>rfl) (h2:=fun _=>rfl) (k:=1) yc vB rfl dd dd dd (.c (x:=((d:Nat):Int)) rfl rfl (fun _ _=>by exact zO.2 om) .n)) (fun b1 _=> ?_)
 refine qJ rfl<|vO 0 rfl (qT 0 rfl yc vB dd rfl rfl zL rfl zL om om) (fun _=> .z) ?_
 rintro ⟨p2,c3⟩ -
 dsimp only [aq,nq,cq]
 refine qt 0 rfl .z<|zm (.c rfl (.c rfl .n)) zP (Zs (by first|rfl|omega|(simp;done)|(simp;omega)) (by exact a0) (by first|rfl|omega|(simp;done)|(simp;omega))) (qX 0 rfl) ?_
 rintro ⟨a1,a2⟩ -
 dsimp only [aq,nq,cq]
 refine zE (jT yb rfl jQ rfl rfl)<|Zp 1 rfl ?_
 exact zq Tryz.results253 (a1,a2) trivial (zj rfl) (by rw [hz]) (ho:=oN) ((.e (j:=0) rfl (by rw [hz]) .n):q9 _ _ _)
theorem zcM {a:Nat} {mm:Nat} {p:Option Addr} {cap:Nat} (hb:(ya a).length≤4398046511104) (hm0:0<mm) (hm1:mm≤1000000000):CB 251 [.slice p ((ya a).length) cap,.int .u64 ((mm:Nat):Int)] [zI (rI .u32) p cap (ya a)] (Y:=(Option Addr)×Nat) (fun y=> .tuple #[.slice (y.1) ((ya (a / mm)).length) (y.2),.int .u64 (((a%mm):Nat):Int)]) (fun y=>[zI (rI .u32) (y.1) (y.2) (ya (a / mm))]):=by
 refine zg Tryz.func251 rfl rfl (fun c=> ?_)
 refine zN 0 rfl (fun hL0=> ?_)
 refine jS 2 rfl<|kS 2 rfl<|qZ (vS (r:=rI .u32) (k:=(ya a).length) (x0:=0) (γ0:=()) yc vB rfl rfl rfl rfl om om rfl (fun g _=>by exact zO.2 dd) dd) (fun b1 _=> ?_)
 refine jD 1 rfl<|jn 1 rfl<|jK 2 rfl<|zE (qx rfl rfl w6)<|vZ 1 rfl<|zk<|z5 (X:=Nat×(List Int)×(List Int)×Int) (fun x=>x.2.1=yG x.1 0++x.2.2.1∧Big.ShI (ya a) (mm:Int) x.1 x.2.2.1 x.2.2.2) (fun x=>[(7,.int .u64 (x.2.2.2)),(8,.int .i64 (((x.1:Nat):Int) - 1))]) [6,0,1] (fun x=>[rowA 133 (rI .u32) (Sb b1) ((ya a).length) (x.2.1)]) (fun x=>[]) [0] (fun x=>x.1) ((ya a).length,(yG (ya a).length 0),([]:List Int),(0:Int)) (by exact ⟨by simp,Big.ShI.start om⟩) (.e rfl vA (.e rfl vA .n)) ((.e (i:=0) rfl vA .n):zJ _ _ _) sN ?_
 rintro ⟨jj,os,qs,z⟩ hI
 dsimp only at hI
 try dsimp only
 obtain ⟨hos,hS⟩:=hI
 have a4:=hS.r0
 have a5:=hS.r1
 have hkle:=hS.le
 refine qe<|k12 2 rfl<|zx rfl (fun h2=> ?_) (fun h2=> ?_)
 obtain ⟨k,rfl⟩:∃k,jj=k+1:=⟨jj - 1,Oo⟩
 have e3:(((((k+1):Nat):Int) - 1):Int)=((k:Nat):Int):=Oo
 rw [e3]
 have hosl:os.length=(ya a).length:=by rw [hos,yW,yac,hS.len];omega
 have hg:=ym (yk a) k
 have hdg:=Big.zcx a4 a5 hg
 have hrm:=yaj (z*1000000000+(ya a).getD k 0) (show 0<(mm:Int) by omega)
 have b6:=yaz (z*1000000000+(ya a).getD k 0) (show (mm:Int)≠0 by omega)
 refine qN<|zi<|qe<|zk<|jK 1 rfl<|zE (qw (z:=(z*1000000000)) rfl rfl (vu om))<|kS 2 rfl<|QL (x0:=((ya a).getD k 0)) 0 k rfl yc qM rfl rfl rfl (by first|rfl|assumption|(simp;done)|(simp;omega)|omega) rfl rfl (gD (d:=0) om) (fun b4 o5 a0=> ?_)
 replace a0:=zO.1 a0
 refine zw (zf (j:=0) 0 vJ rfl rfl rfl rfl)<|zE (zY (z:=((ya a).getD k 0)) rfl (by rw [yf];rfl) ye (vu om))<|zE (qm (z:=((z*1000000000)+((ya a).getD k 0))) rfl rfl (vu om))<|jD 1 rfl<|kS 4 rfl<|zE (Z6 (z:=(((z*1000000000)+((ya a).getD k 0)) / ((mm:Nat):Int))) rfl rfl om (by rw [KF (z:=(((z*1000000000)+((ya a).getD k 0)) / ((mm:Nat):Int))) om om];exact vu om))<|zE (zY (z:=(((z*1000000000)+((ya a).getD k 0)) / ((mm:Nat):Int))) rfl (by rw [ye];rfl) yf (ZU om))<|zE (zZ (j:=k) yc qM rfl rfl rfl om)<|vO 0 rfl (qh (j:=k) (x0:=(((z*1000000000)+((ya a).getD k 0)) / ((mm:Nat):Int))) (γ0:=()) rfl rfl om rfl rfl qM (fun _ _=>by exact zO.2 om)) (fun _=> .z) (fun _ _=> ?_)
 refine Vc<|vM 2 rfl<|zE (jk (z:=(((z*1000000000)+((ya a).getD k 0))%((mm:Nat):Int))) rfl rfl om (KG om om))<|qY 1 rfl<|zG<|zi<|vM 1 rfl<|zE (qx rfl rfl w6)<|qY 1 rfl<|zW (k,(os.set k (((z*1000000000)+((ya a).getD k 0)) / ((mm:Nat):Int))),((z*1000000000+(ya a).getD k 0) / (mm:Int) :: qs),((z*1000000000+(ya a).getD k 0)%(mm:Int))) (by exact ⟨by rw [hos];exact Big.zaj _,hS.step (yk a)⟩) om ((.e rfl vA (.of rfl))) (o0 rfl) ((.c (j:=1) rfl .n))
 have a1:jj=0:=Oo
 have a2:Big.ShI (ya a) (mm:Int) 0 qs z:=a1 ▸ hS
 obtain ⟨a6,a7⟩:=a2.fin
 have hoq:os=qs:=by rw [hos,a1];rfl
 have a8:yp os:=by rw [hoq];exact hS.ok
 have hosl:os.length=(ya a).length:=by rw [hoq,a2.len];omega
 have a3:(yj false (yh os)).natAbs=a / mm:=by rw [hoq,Big.KI (Big.qV hS.ok),←Big.Wg,a6,Big.qE];exact ybk _
 refine z7<|ze<|ze<|zn<|zi<|jK 1 rfl<|qt 0 rfl .z<|zm (q7 rfl rfl) zP (Zs zL (by exact a8) zL) (qX 0 rfl) ?_
 rintro ⟨a9,b5⟩ -
 refine zE (jT yb rfl jQ rfl rfl)<|Zp 3 rfl ?_
 exact vD rfl (a9,b5) trivial (zj rfl) (zj rfl) (by rw [a3,a7]) oN ((.e (j:=0) rfl (by rw [a3]) .n))
theorem zdV {a:Nat} {p:Option Addr} {cap:Nat} (hb:(ya a).length≤2):CA 219 [.slice p ((ya a).length) cap] [zI (rI .u32) p cap (ya a)] (.int .u64 ((a:Nat):Int)):=by
 refine zg Tryz.func219 rfl rfl (fun c=> ?_)
 refine zN 0 rfl (fun hL0=> ?_)
 have hpv:=Big.zmu hb
 have hg0:=ym (yk a) 0
 have hg1:=ym (yk a) 1
 refine vg<|kS 1 rfl<|k40 1 rfl<|qg q7 zP (Qd (p:=p) (n:=(ya a).length) (cap:=cap) (l:=ya a) (i:=1) Kw Kw) (qX 0)<|zE (qw (z:=((ya a).getD 1 0*1000000000)) rfl rfl (vu om))<|qJ rfl<|qg q7 zP (Qd (p:=p) (n:=(ya a).length) (cap:=cap) (l:=ya a) (i:=0) Kw Kw) (qX 0)<|zE (qm (z:=(((ya a).getD 1 0*1000000000)+(ya a).getD 0 0)) rfl rfl (vu om))<|kS 1 rfl<|Va ?_
 exact zq rfl () trivial (zj rfl) (by rw [hpv]) oN sN
theorem zcN {a:Nat} {b:Nat} {p1:Option Addr} {c1:Nat} {p2:Option Addr} {c2:Nat} (hb1:(ya a).length≤2199023255552) (hb2:(ya b).length≤2199023255552) (hb0:0<b):CB 218 [.slice p1 ((ya a).length) c1,.slice p2 ((ya b).length) c2] [zI (rI .u32) p1 c1 (ya a),zI (rI .u32) p2 c2 (ya b)] (Y:=(Option Addr)×Nat×(Option Addr)×Nat) (fun y=> .tuple #[.slice (y.1) ((ya (a / b)).length) (y.2.1),.slice (y.2.2.1) ((ya (a%b)).length) (y.2.2.2)]) (fun y=>[zI (rI .u32) (y.1) (y.2.1) (ya (a / b)),zI (rI .u32) (y.2.2.1) (y.2.2.2) (ya (a%b))]):=by
 refine zg Tryz.func218 rfl rfl (fun c=> ?_)
 refine zN 0 rfl (fun hL0=> ?_)
 refine zN 1 rfl (fun hL1=> ?_)
 have g1:=Big.zhJ hb0
 have hob:=ym (yk b) 0
 have g2:=ym (yk b) ((ya b).length - 1)
 have hdv:=Big.Za (ybc a b)
 have hdm:=yax a hb0
 refine jS 2 rfl<|jn 3 rfl<|k12 2 rfl<|zx rfl (fun c6=> ?_) (fun c6=> ?_)
 have hbd:=Big.zdM (by omega:(ya b).length=1)
 have hbl:b<1000000000:=Oo
 have hokt:yp [((a%b:Nat):Int)]:=Big.Qa.2 ⟨Oo,Big.QU⟩
 have a2:=Big.zf4 hokt (show yh [((a%b:Nat):Int)]=((a%b:Nat):Int) by simp only [yh];omega)
 refine jK 2 rfl<|qH 1 0 rfl yc qM rfl zL rfl rfl (gD (d:=0) om) (fun b1 o2 a3=> ?_) (x0:=((ya b).getD 0 0))
 replace a3:=zO.1 a3
 refine zw (zf (j:=0) 0 vJ rfl rfl rfl rfl)<|zE (zY (z:=((ya b).getD 0 0)) rfl (by rw [yf];rfl) ye (vu om)) ?_
 have e4:(((ya b).getD 0 0):Int)=((b:Nat):Int):=by exact hbd
 rw [e4]
 refine zm (q7 rfl rfl) zP (zcM zL qB zL) (qX 1) ?_
 rintro ⟨c7,c8⟩ -
 refine jD 5 rfl<|kS 2 rfl<|zE (zY (z:=(((a%b):Nat):Int)) rfl (by rw [ye];rfl) yf (ZU om))<|qZ (z6 (enc:=fun z:Int=>[.int .u32 z]) (ok:=Vb .u32) (h1:=fun _=>rfl) (h2:=fun _=>rfl) (k:=1) yc vB rfl dd dd dd (.c (x:=(((a%b):Nat):Int)) rfl rfl (fun _ _=>by exact zO.2 om) .n)) (fun b7 _=> ?_)
 refine qt 0 rfl .z<|zm (q7 rfl rfl) zP (Zs zL (by exact hokt) zL) (qX 0 rfl) ?_
 rintro ⟨d0,d1⟩ -
 refine zE (jT yb rfl jQ rfl rfl)<|Zp 2 rfl<|zD ?_
 exact vD rfl (c7,c8,d0,d1) trivial (zj rfl) (zj rfl) (by rw [a2]) oN ((.c (j:=2) rfl (.e (j:=0) rfl (by rw [a2]) .n)))
 refine vY<|jK 2 rfl<|qg (q7 rfl rfl) zP za8 (vj 0 1)<|vZ 1 rfl<|zx rfl (fun hlt=> ?_) (fun hlt=> ?_)
 have g3:¬(b:Int)≤a:=fun h=>by have:=Big.JH.2 h;omega
 have hab:a<b:=Oo
 refine vg<|qZ (vq (rI .u32) yc vB) (fun d4 _=> ?_)
 refine Zp 3 rfl<|zD ?_
 have a4:a / b=0:=ybr hab
 have a5:a%b=a:=ybq hab
 refine vK 0 rfl .z ?_
 exact vD rfl (Sb d4,0,p1,c1) trivial (zj rfl) (zj rfl) (by rw [a4,a5];rfl) oN ((.e (j:=0) rfl (by rw [a4];rfl) (.e (j:=1) rfl (by rw [a5]) .n)))
 have hab:b≤a:=by have h9:=Big.JH.1 (by omega:0≤Big.cmp (a:Int) (b:Int));omega
 have g4:=Big.Za hab
 have hq1:0≤1000000000 / ((ya b).getD ((ya b).length - 1) 0+1):=yay om om
 have hdt:=Big.zak (b:=b) (n:=(ya b).length - 1) om
 have hq2:1000000000 / ((ya b).getD ((ya b).length - 1) 0+1)≤500000000:=Int.ediv_le_of_le_mul om om
 refine kk8<|kS 2 rfl<|zE (qx (z:=((((ya b).length - 1):Nat):Int)) rfl rfl (Q9 om))<|qH 1 ((ya b).length - 1) rfl yc qM rfl zL rfl rfl (gD (d:=0) om) (fun b11 o12 a6=> ?_) (x0:=((ya b).getD ((ya b).length - 1) 0))
 replace a6:=zO.1 a6
 refine zw (zf (j:=0) 0 vJ rfl rfl rfl rfl)<|zE (zY (z:=((ya b).getD ((ya b).length - 1) 0)) rfl (by rw [yf];rfl) ye (vu om))<|zE (qm (z:=(((ya b).getD ((ya b).length - 1) 0)+1)) rfl rfl (vu om))<|zE (Z6 (z:=(1000000000 / (((ya b).getD ((ya b).length - 1) 0)+1))) rfl rfl om (by rw [KF (z:=(1000000000 / (((ya b).getD ((ya b).length - 1) 0)+1))) om om];exact vu om))<|jn 1 rfl ?_
 obtain ⟨s,hs⟩:∃s:Nat,s=(1000000000 / ((ya b).getD ((ya b).length - 1) 0+1)).toNat:=⟨_,rfl⟩
 obtain ⟨a1,hs2,a7⟩:=Big.zdK (n:=(ya b).length - 1) om hs
 have hsd:=Big.zcB a1 (by omega:s<1000000000)
 have hsl:(ya s).length=1:=by rw [hsd];rfl
 have d5:((1000000000 / (((ya b).getD ((ya b).length - 1) 0)+1)):Int)=((s:Nat):Int):=Oo
 rw [d5]
 refine vM 2 rfl<|zm (q7 rfl rfl) zP (KW zL zL) (qX 1) ?_
 rintro ⟨g5,g6⟩ -
 refine kS 2 rfl<|zm (q7 rfl rfl) zP (KW zL zL) (qX 3) ?_
 rintro ⟨a8,a9⟩ -
 refine jn 2 rfl ?_
 obtain ⟨A,hA⟩:∃z,z=a*s:=⟨_,rfl⟩
 rw [← hA]
 obtain ⟨V,hV⟩:∃z,z=b*s:=⟨_,rfl⟩
 rw [← hV]
 refine zN 1 rfl (fun hcA=> ?_)
 have hAl:(ya a).length≤(ya A).length:=by rw [hA];exact Big.WQ a1
 have g7:(ya A).length≤(ya a).length+1:=by have h8:=Big.zcA a s;rw [hsl] at h8;rw [hA];exact h8
 obtain ⟨m,hm⟩:∃z,(ya V).length=z+1:=⟨(ya b).length - 1,by rw [hV,a7]⟩
 have hmb:(ya b).length=m+1:=by rw [hV,a7] at hm;omega
 have d6:((((ya b).length:Nat):Int):Int)=(((m+1):Nat):Int):=Oo
 rw [d6]
 refine zv<|kS 4 rfl<|zE (qx (z:=((((ya A).length - (m+1)):Nat):Int)) rfl rfl (Q9 om))<|zE (qm (z:=((((ya A).length - m):Nat):Int)) rfl rfl (Q9 om))<|zE (KE (lo:=((ya A).length - m)) (hi:=(ya A).length) yc qM rfl (.s rfl) .n (.inr ⟨_,rfl⟩) (.inl ⟨rfl,rfl⟩) om om)<|Vf (zcj 1 rfl ((ya A).length - m) ((ya A).length) om om) (fun _ _=> ?_)
 refine zm (.c rfl (.c rfl .n)) zP (Zs (by first|rfl|omega|(simp;done)|(simp;omega)) (by exact Big.QD (Big.V9 (yk _) _) _) (by first|rfl|omega|(simp;done)|(simp;omega))) (qX 0 rfl) ?_
 rintro ⟨d7,d8⟩ -
 refine zE (jT yb rfl jQ rfl rfl)<|jn 1 rfl ?_
 obtain ⟨R0,b4⟩:∃z,z=(yj false (yh (((ya A).take ((ya A).length)).drop ((ya A).length - m)))).natAbs:=⟨_,rfl⟩
 rw [← b4]
 have hpt:Big.PtI A V ((ya A).length - m) [] R0:=Big.PtI.start hm om (by rw [b4,List.take_length];have:=Big.qV (Big.QD (yk A) ((ya A).length - m));simp only [yj];omega)
 refine zv<|kS 3 rfl<|zE (qx (z:=((((ya A).length - (m+1)):Nat):Int)) rfl rfl (Q9 om))<|zE (qm (z:=((((ya A).length - m):Nat):Int)) rfl rfl (Q9 om))<|qZ (vS (r:=rI .u32) (k:=((ya A).length - m)) (x0:=0) (γ0:=()) yc vB rfl rfl rfl rfl om om rfl (fun g _=>by exact zO.2 dd) dd) (fun b5 _=> ?_)
 refine jn 1 rfl<|jK 3 rfl<|zE (qx rfl rfl w6)<|vZ 1 rfl<|zk<|z5 (X:=Nat×(List Int)×Nat×(Option Addr)×Nat) (fun x=>Big.PtI A V x.1 x.2.1 x.2.2.1∧x.1+x.2.1.length=(ya A).length - m) (fun x=>[(10,.slice (x.2.2.2.1) ((ya (x.2.2.1)).length) (x.2.2.2.2)),(12,.int .i64 (((x.1:Nat):Int) - 1))]) [11,1,0,9,6] (fun x=>[rowA 133 (rI .u32) (Sb b5) ((ya A).length - m) (yG x.1 0++x.2.1)]) (fun x=>[zI (rI .u32) (x.2.2.2.1) (x.2.2.2.2) (ya (x.2.2.1))]) [1,2,3] (fun x=>x.1) (((ya A).length - m),([]:List Int),R0,d7,d8) (by exact ⟨hpt,rfl⟩) (.e rfl vA (.e rfl (congrArg (Value.int .i64) om) .n)) ((.e (i:=0) rfl (by simp) .n):zJ _ _ _) ((.e (j:=0) rfl zL .n)) ?_
 rintro ⟨jj,qs,R,pr,cr⟩ hI
 dsimp only at hI
 obtain ⟨hP,hql⟩:=hI
 refine qe<|k12 2 rfl<|zx rfl (fun hj=> ?_) (fun hj=> ?_)
 obtain ⟨j,rfl⟩:∃j,jj=j+1:=⟨jj - 1,Oo⟩
 have d9:(((((j+1):Nat):Int) - 1):Int)=((j:Nat):Int):=Oo
 rw [d9]
 have hjle:=hP.le
 have hRV:=hP.lt
 have hdn:=ym (yk A) j
 obtain ⟨d,hd⟩:∃d:Nat,(ya A).getD j 0=(d:Int):=⟨_,(ybb hdn.1).symm⟩
 have e0:d<1000000000:=Oo
 have hWlt9:=Big.zmv hRV e0
 have hRl:=Big.Za (ybx hRV)
 refine vY<|zk<|jK 3 rfl<|qH 3 j rfl yc qM rfl zL rfl rfl (gD (d:=0) om) (fun b24 o25 b6=> ?_) (x0:=((ya A).getD j 0))
 replace b6:=zO.1 b6
 refine zw (zf (j:=0) 0 vJ rfl rfl rfl rfl) ?_
 have e3:(((ya A).getD j 0):Int)=((d:Nat):Int):=by exact hd
 rw [e3]
 refine zm q7 zP (zeM (a:=R) (d:=d) (p0:=pr) (cap:=cr) zL zL) (qX 1) ?_
 rintro ⟨g8,g9⟩ -
 refine jn 1 rfl ?_
 obtain ⟨W,hW⟩:∃z,z=(R*1000000000+d):=⟨_,rfl⟩
 rw [← hW]
 have hWlt:W<V*1000000000:=by rw [hW];exact hWlt9
 have hWl:=Big.zpv hWlt hm
 have hw1:=ym (yk W) (m+1)
 have hw0:=ym (yk W) m
 have hv0:=ym (yk V) m
 have e5:0≤(((ya W).getD (m+1) 0*1000000000+(ya W).getD m 0) / ((ya V).getD m 0+1)):=yay om om
 have hg1:(((ya W).getD (m+1) 0*1000000000+(ya W).getD m 0) / ((ya V).getD m 0+1))≤1000000000000000000:=Int.le_trans (Int.ediv_le_self _ om) om
 refine Jo 100000<|zQ 0 rfl rfl<|zQ 1 rfl rfl<|zQ 4 rfl rfl<|zQ 5 rfl rfl<|zC 6 rfl (qx (z:=((m:Nat):Int)) rfl rfl (Q9 om))<|zQ 9 rfl rfl<|zQ 10 rfl rfl<|zC 11 rfl (qx (z:=((m:Nat):Int)) rfl rfl (Q9 om))<|jO 12 rfl 4 m rfl yc qM rfl zL rfl rfl (gD (d:=0) om) (fun b30 o31 b8=> ?_) (x0:=((ya V).getD m 0))
 replace b8:=zO.1 b8
 refine vE 13 rfl (zf (j:=0) 0 vJ rfl rfl rfl rfl)<|zC 14 rfl (zY (z:=((ya V).getD m 0)) rfl (by rw [yf];rfl) ye (vu om))<|zC 15 rfl (qm (z:=(((ya V).getD m 0)+1)) rfl rfl (vu om))<|zt 2 (jU rfl (q7 rfl rfl) zP (Qd zL zL) (qX 1 rfl) ?_)
 refine zC 3 rfl (qw (z:=((ya W).getD (m+1) 0*1000000000)) rfl rfl (vu om))<|zt 7 (jU rfl (q7 rfl rfl) zP (Qd zL zL) (qX 1 rfl) ?_)
 refine zC 8 rfl (qm (z:=(((ya W).getD (m+1) 0*1000000000)+(ya W).getD m 0)) rfl rfl (vu om))<|zC 16 rfl (Z6 (z:=((((ya W).getD (m+1) 0*1000000000)+(ya W).getD m 0) / (((ya V).getD m 0)+1))) rfl rfl om (by rw [KF (z:=((((ya W).getD (m+1) 0*1000000000)+(ya W).getD m 0) / (((ya V).getD m 0)+1))) om om];exact vu om))<|zC 17 rfl (zT rfl)<|zU kr<|zi<|qe ?_
 obtain ⟨g0,b9⟩:∃g:Nat,(g:Int)=(((ya W).getD (m+1) 0*1000000000+(ya W).getD m 0) / ((ya V).getD m 0+1)):=⟨_,ybb e5⟩
 obtain ⟨hgm,hgl⟩:=Big.zmw hWlt hm b9
 have hVg:=Big.Za hgm
 have e6:(((((ya W).getD (m+1) 0*1000000000)+(ya W).getD m 0) / (((ya V).getD m 0)+1)):Int)=((g0:Nat):Int):=by exact b9.symm
 rw [e6]
 refine vM 3 rfl<|zm (q7 rfl rfl) zP (KW zL zL) (qX 5) ?_
 rintro ⟨h0,h3⟩ -
 refine zm (q7 rfl rfl) zP (Kb zL zL zL) (vj 2 0) ?_
 rintro ⟨e7,e8⟩ -
 refine jn 1 rfl<|zk<|z5 (X:=Nat×Nat×(Option Addr)×Nat) (fun x=>x.2.1+V*x.1=W) (fun x=>[(10,.slice (x.2.2.1) ((ya (x.2.1)).length) (x.2.2.2)),(13,.int .u64 ((x.1:Nat):Int))]) [12,11,1,0,9,6] (fun x=>[rowA 133 (rI .u32) (Sb b5) ((ya A).length - m) (yG (j+1) 0++qs)]) (fun x=>[zI (rI .u32) (x.2.2.1) (x.2.2.2) (ya (x.2.1))]) [6,7,8] (fun x=>x.2.1) (g0,(W - V*g0),e7,e8) (by exact Nat.sub_add_cancel hgm) (.e rfl vA (.of rfl)) (ho:=(o0 rfl)) ((.e (j:=0) rfl zL .n)) ?_
 rintro ⟨g,r,p9,c9⟩ hJ
 dsimp only at hJ
 have hgb:g<1000000000:=yaf (a:=V) om
 have hrl:=Big.Za (show r≤W by omega)
 refine qe<|vg<|kS 2 rfl<|qg q7 zP (za8 (a:=r) (b:=V) (p1:=p9) (c1:=c9) (p2:=a8) (c2:=a9)) (vj 0 2)<|kS 1 rfl<|Vc<|zx rfl (fun hge=> ?_) (fun hge=> ?_)
 have hrV:V≤r:=by have h9:=Big.JH.1 hge;omega
 refine kk6<|zk<|vg<|kS 2 rfl<|zm q7 zP (Kb (a:=r) (b:=V) (p1:=p9) (c1:=c9) (p2:=a8) (c2:=a9) zL zL zL) (vj 0 2) ?_
 rintro ⟨e9,f0⟩ -
 dsimp only [aq,nq,cq]
 refine vZ 1 rfl<|vM 1 rfl<|zE (qm (z:=(((g+1):Nat):Int)) rfl rfl (vu om))<|qY 1 rfl<|zG<|zW ((g+1),(r - V),e9,f0) (by dsimp only;rw [Nat.mul_succ];omega) (by dsimp only;omega) ((.e rfl vA (.of rfl)):vQ _ _) (o0 rfl) ((.e (j:=0) rfl (by first|rfl|simp_all) (.of [2,3,4] rfl)):q9 _ _ _)
 have hrV:r<V:=by have h9:¬(V:Int)≤r:=fun h=>hge (Big.JH.2 h);omega
 have hst:=hP.step hd (by rw [← hW];exact hJ) hrV
 refine z7<|ze<|ze<|zn<|zi<|vM 3 rfl<|zE (zY (z:=((g:Nat):Int)) rfl (by rw [ye];rfl) yf (ZU om))<|zE (zZ (j:=j) yc qM rfl rfl rfl om)<|vO 0 rfl (qh (j:=j) (x0:=((g:Nat):Int)) (γ0:=()) rfl rfl (by first|omega|(rw [yal];omega)|(simp only [yr];omega)|(simp;done)|(simp;omega)) rfl rfl qM (fun _ _=>by exact zO.2 om)) (fun _=> .z) (fun _ _=> ?_)
 refine jq<|zG<|zi<|vM 1 rfl<|zE (qx rfl rfl w6)<|qY 1 rfl<|zW (j,(((g:Nat):Int) :: qs),r,p9,c9) (by exact ⟨hst,by rw [yI];omega⟩) om (mR rfl) ((.e (i:=0) rfl (by rw [Big.zaj]) .n):zJ _ _ _) ((.of [0,1,2,3] rfl))
 have c3:jj=0:=Oo
 have a0:Big.PtI A V 0 qs R:=c3 ▸ hP
 obtain ⟨f1,f2⟩:=a0.fin
 have hsc:=Big.zdL (a:=a) (b:=b) a1
 have hRV:=a0.lt
 have hRl:=Big.Za (ybx hRV)
 have f3:=Big.zf4 a0.ok f1
 have f4:=a0.ok
 refine z7<|ze<|ze<|zn<|zi<|vg<|kS 2 rfl<|zm q7 zP (zcM (a:=R) (mm:=s) (p:=pr) (cap:=cr) zL zL zL) (qX 0) ?_
 rintro ⟨f5,f6⟩ -
 refine jn 5 rfl ?_
 have f7:yG jj 0++qs=qs:=by rw [c3];rfl
 rw [f7]
 refine vM 1 rfl<|qt 0 rfl .z<|zm (q7 rfl rfl) zP (Zs zL (by exact f4) zL) (qX 0 rfl) ?_
 rintro ⟨f8,f9⟩ -
 refine zE (jT yb rfl jQ rfl rfl)<|Zp 3 rfl ?_
 have c4:R / s=a%b:=by rw [f2,hA,hV,hsc.2]
 have c5:(yj false (yh qs)).natAbs=a / b:=by rw [f3,hA,hV,hsc.1]
 exact vD rfl (f8,f9,f5,f6) trivial (zj rfl) (zj rfl) (by rw [c5,c4]) (ho:=oN) ((.e (j:=0) rfl (by rw [c5]) (.e (j:=2) rfl (by rw [c4]) .n)))
theorem zge {s:Bool} {p1:Option Addr} {n1:Nat} {c1:Nat} {l1:List Int} {t:Bool} {p2:Option Addr} {n2:Nat} {c2:Nat} {l2:List Int} (hn1:l1.length=n1) (hn2:l2.length=n2) (hm1:n1≤2199023255552) (hm2:n2≤2199023255552):CB 152 [.agg #[.bool s,.slice p1 n1 c1],.agg #[.bool t,.slice p2 n2 c2]] [zI (rI .u32) p1 c1 l1,zI (rI .u32) p2 c2 l2] (Y:=(Option Addr)×Nat) (fun y=> .agg #[.bool (decide (((yE (yd s l1).natAbs (yd t l2).natAbs:Nat):Int)<0)),.slice (y.1) ((ya (((yE (yd s l1).natAbs (yd t l2).natAbs:Nat):Int).natAbs)).length) (y.2)]) (fun y=>[zI (rI .u32) (y.1) (y.2) (ya (((yE (yd s l1).natAbs (yd t l2).natAbs:Nat):Int).natAbs))]):=by
 refine zg Tryz.func152 rfl rfl (fun c=> ?_)
 refine zN 0 rfl (fun hL0=> ?_)
 refine jZ 0 rfl (fun a3=> ?_)
 refine zN 1 rfl (fun hL1=> ?_)
 refine jZ 1 rfl (fun a4=> ?_)
 have a5:yn l1:=fun g hg=>(zO.1 (a3 g hg)).1
 have a6:yn l2:=fun g hg=>(zO.1 (a4 g hg)).1
 have a7:yg (yd s l1)≤n1:=by have:=Big.ZC (s:=s) a5;omega
 have a0:yg (yd t l2)≤n2:=by have:=Big.ZC (s:=t) a6;omega
 unfold yg at a7 a0
 refine vg<|zB (zX rfl rfl) (fun b1=> ?_)
 refine zB (zX rfl rfl) (fun b2=> ?_)
 refine zB (zo jo rfl) (fun b3=> ?_)
 refine ZI<|Jo 100000<|vE 0 rfl (za 2 z4 rfl rfl (.t2 .nil))<|vE 3 rfl (za 1 z4 rfl rfl (.t2 .nil))<|zt 1 (zp rfl (qS rfl) zP (ZR qB zL) (qX 0 rfl) ?_)
 rintro ⟨a8,a9⟩ -
 refine zC 2 rfl (jT yb rfl jQ rfl rfl)<|zt 4 (zp rfl (qS rfl) zP (ZR qB zL) (qX 2 rfl) ?_)
 rintro ⟨b4,b5⟩ -
 dsimp only [aq,nq,cq]
 refine zC 5 rfl (jT yb rfl jQ rfl rfl) ?_
 refine zC 6 rfl (zT rfl) ?_
 refine zC 7 rfl (zT rfl) ?_
 refine zU kr<|zi<|qe<|zk<|Qr (X:=Nat×Nat×(Option Addr)×Nat×(Option Addr)×Nat) (fun x:Nat×Nat×(Option Addr)×Nat×(Option Addr)×Nat=>yE x.1 x.2.1=yE (yd s l1).natAbs (yd t l2).natAbs∧(ya x.1).length≤2199023255552∧(ya x.2.1).length≤2199023255552) (fun x=>[(6,.slice (x.2.2.2.2.1) ((ya (x.2.1)).length) (x.2.2.2.2.2)),(5,.slice (x.2.2.1) ((ya (x.1)).length) (x.2.2.2.1)),(4,Vp b3)]) (fun x=>[zK b3 30 [wz.b,wz.l],zK b2 30 [.bool t,.slice p2 n2 c2],zK b1 30 [.bool s,.slice p1 n1 c1]]) (fun x=>[zI (rI .u32) (x.2.2.1) (x.2.2.2.1) (ya (x.1)),zI (rI .u32) (x.2.2.2.2.1) (x.2.2.2.2.2) (ya (x.2.1)),zI (rI .u32) p1 c1 l1,zI (rI .u32) p2 c2 l2]) (fun x:Nat×Nat×(Option Addr)×Nat×(Option Addr)×Nat=>x.2.1) ((yd s l1).natAbs,(yd t l2).natAbs,a8,a9,b4,b5) (by dsimp only;exact ⟨rfl,Oo,Oo⟩) (mR rfl) (ho:=((.of [0,0,0] rfl):zJ _ _ _)) ((.of [1,0,2,3] rfl):q9 _ _ _) ?_
 rintro ⟨a,b,pa,ca,pb,cb⟩ hI
 dsimp only at hI
 try dsimp only
 obtain ⟨hgc,hba,hbb⟩:=hI
 refine qe<|ji (X:=Unit) (fun x=>True) (fun x=>[(29,.bool (decide (0<(ya b).length∧(2<(ya a).length∨2<(ya b).length)))),(6,.slice pb ((ya b).length) cb),(5,.slice pa ((ya a).length) ca),(4,.pointer (some ⟨b3,0,none⟩))]) (fun x=>[zK b3 30 [wz.b,wz.l],zK b2 30 [.bool t,.slice p2 n2 c2],zK b1 30 [.bool s,.slice p1 n1 c1]]) (fun x=>[zI (rI .u32) pa ca (ya a),zI (rI .u32) pb cb (ya b),zI (rI .u32) p1 c1 l1,zI (rI .u32) p2 c2 l2]) ?_ ?_
 refine vM 3 rfl<|zaX rfl rfl (qU rfl) (fun h8=> ?_) (fun h8=> ?_)
 refine kS 3 rfl<|zaX rfl rfl (qU rfl) (fun h9=> ?_) (fun h9=> ?_)
 refine qY 5 rfl ?_
 exact qL () Qn ((.e rfl (congrArg Value.bool (by first|(simp;omega)|exact decide_eq_decide.2 ⟨fun h=>⟨Oo,.inr om⟩,fun h=>by omega⟩)) (.of rfl)):vQ _ _) (ho:=((.of [0,0,0] rfl):zJ _ _ _)) ((.of [0,1,2,3] rfl):q9 _ _ _)
 refine qY 5 rfl ?_
 exact qL () Qn ((.e rfl (congrArg Value.bool (by first|(simp;omega)|exact decide_eq_decide.2 ⟨fun h=>⟨Oo,.inr om⟩,fun h=>by omega⟩)) (.of rfl)):vQ _ _) (ho:=((.of [0,0,0] rfl):zJ _ _ _)) ((.of [0,1,2,3] rfl):q9 _ _ _)
 refine qY 9 rfl ?_
 exact qL () Qn ((.e rfl (congrArg Value.bool (by first|(simp;omega)|exact decide_eq_decide.2 ⟨fun h=>⟨Oo,.inr om⟩,fun h=>by omega⟩)) (.of rfl)):vQ _ _) (ho:=((.of [0,0,0] rfl):zJ _ _ _)) ((.of [0,1,2,3] rfl):q9 _ _ _)
 rintro ⟨⟩ -
 refine zx rfl (fun hw=> ?_) (fun hw=> ?_)
 have a1:0<b:=Nat.pos_of_ne_zero (fun e=>by rw [e] at hw;simp [Big.jE] at hw)
 refine kk6<|zk<|jK 2 rfl<|zm (q7 rfl rfl) zP (zcN zL zL zL) (vj 0 1) ?_
 rintro ⟨d4,d5,b6,b7⟩ -
 refine vZ 5 rfl<|k2n 4 rfl<|zG<|zW (b,(a%b),pb,cb,b6,b7) (by exact ⟨by rw [Big.zan,hgc],hbb,yY (Big.Za (ybx (yax a a1))) hbb⟩) (by exact yax a a1) ((.e rfl vA (.c rfl (.c rfl .n)))) ((.of [0,0,0] rfl):zJ _ _ _) ((.c (j:=3) rfl (.e (j:=1) rfl zL (.of [4,5] rfl))))
 refine z7<|ze<|ze<|zn<|zi<|qe<|k12 3 rfl<|zx rfl (fun hbz=> ?_) (fun hbz=> ?_)
 have b8:b=0:=Big.Ze.1 om
 have hfin:a=yE (yd s l1).natAbs (yd t l2).natAbs:=by rw [← hgc,b8,Nat.gcd_zero_right]
 refine jK 1 rfl<|zm (q7 rfl rfl) zP (Vr zL) (qX 0) ?_
 rintro ⟨b9,c3⟩ -
 refine zh 0 rfl rfl rfl rfl z8 (.t2 .nil) .z<|Va<|zD ?_
 exact zq rfl (b9,c3) trivial (zy 0 z4 rfl rfl (.t2 .nil)) (by rw [← hfin];rfl) oN ((.e (j:=0) rfl (by rw [← hfin];rfl) .n))
 have c4:(ya a).length≤2:=Oo
 have a0:(ya b).length≤2:=Oo
 have c5:=Big.KL c4
 have c6:=Big.KL a0
 refine k80 1 rfl<|qg (qS rfl) zP (zdV zL) (qX 0)<|qJ rfl<|qg (qS rfl) zP (zdV zL) (qX 1)<|jn 2 rfl<|zk<|z5 (X:=Nat×Nat) (fun x=>yE x.1 x.2=yE a b∧x.1<1000000000000000000∧x.2<1000000000000000000) (fun x=>[(10,.int .u64 ((x.2:Nat):Int)),(9,.int .u64 ((x.1:Nat):Int))]) [4] (fun x=>[zK b3 30 [wz.b,wz.l],zK b2 30 [.bool t,.slice p2 n2 c2],zK b1 30 [.bool s,.slice p1 n1 c1]]) (fun x=>[]) [2,3] (fun x=>x.2) (a,b) (by exact ⟨rfl,c5,c6⟩) (.of rfl) ((.of [0,0,0] rfl):zJ _ _ _) sN ?_
 rintro ⟨q,r⟩ hJ
 dsimp only at hJ
 try dsimp only
 obtain ⟨hgq,c7,c8⟩:=hJ
 have hmr:=Nat.mod_le q r
 refine qe<|qe<|zv<|qJ rfl<|zE (zhr rfl rfl)<|jq<|zi<|zx rfl (fun hy=> ?_) (fun hy=> ?_)
 refine qN<|zi<|zk<|We (OW:=[]) (O:=[zK b3 30 [wz.b,wz.l],zK b2 30 [.bool t,.slice p2 n2 c2],zK b1 30 [.bool s,.slice p1 n1 c1]]) 100000 mixed (.block (.then (.block (.then .ret)))) kr ?_
 refine zcF 0 rfl rfl rfl ?_
 refine zcF 1 rfl rfl rfl ?_
 refine zcF 2 rfl rfl rfl ?_
 refine KR 3 rfl rfl (jk (z:=(((q%r):Nat):Int)) rfl rfl om (KG om om)) ?_
 refine zC 4 rfl (zT rfl) ?_
 refine zC 5 rfl (zT rfl) ?_
 refine zU kr<|zG<|zW (r,(q%r)) (by dsimp only;exact ⟨by rw [Big.zan,hgq],c8,Oo⟩) (by exact yax q om) (mR rfl) (ho:=((.of [0,0,0] rfl):zJ _ _ _)) ((.of [0,1] rfl):q9 _ _ _)
 have hrz:r=0:=Oo
 have hfin:q=yE (yd s l1).natAbs (yd t l2).natAbs:=by rw [← hgc,←hgq,hrz,Nat.gcd_zero_right]
 obtain ⟨c9,a2⟩:=Big.zpu c7
 refine z7<|ze<|ze<|zn<|zi<|jK 1 rfl<|zE (jk (z:=(((q%1000000000):Nat):Int)) rfl rfl om (KG om om))<|zE (zY (z:=(((q%1000000000):Nat):Int)) rfl (by rw [ye];rfl) yf (ZU om))<|qJ rfl<|zE (Z6 (z:=(((q / 1000000000):Nat):Int)) rfl rfl om (by rw [KF (z:=(((q / 1000000000):Nat):Int)) om om];exact vu om))<|zE (zY (z:=(((q / 1000000000):Nat):Int)) rfl (by rw [ye];rfl) yf (ZU om))<|qZ (z6 (enc:=fun z:Int=>[.int .u32 z]) (ok:=Vb .u32) (h1:=fun _=>rfl) (h2:=fun _=>rfl) (k:=2) yc vB rfl dd dd dd (.c (x:=(((q%1000000000):Nat):Int)) rfl rfl (fun _ _=>by exact zO.2 om) (.c (x:=(((q / 1000000000):Nat):Int)) rfl rfl (fun _ _=>by exact zO.2 om) .n))) (fun b16 _=> ?_)
 refine qt 0 rfl .z<|zm (q7 rfl rfl) zP (Zs zL (by exact c9) zL) (qX 0 rfl) ?_
 rintro ⟨d0,d1⟩ -
 refine zh 1 rfl rfl rfl rfl z8 (.t2 .nil) (.s .z)<|Va ?_
 exact zq rfl (d0,d1) trivial (zy 1 z4 rfl rfl (.t2 .nil)) (by rw [a2,←hfin];rfl) oN ((.e (j:=0) rfl (by rw [a2,←hfin];rfl) .n))
theorem zk5 (hb1:yg x1≤2199023255552) (hb2:yg x2≤2199023255552):jI yi 152 [.agg #[.bool (decide ((x1)<0)),.slice (p1) ((ya ((x1).natAbs)).length) (c1)],.agg #[.bool (decide ((x2)<0)),.slice (p2) ((ya ((x2).natAbs)).length) (c2)]] [] [zI (rI .u32) (p1) (c1) (ya ((x1).natAbs)),zI (rI .u32) (p2) (c2) (ya ((x2).natAbs))] (Y:=(Option Addr)×(Nat)) (fun y=>True) (fun y=> .agg #[.bool (decide ((((yE x1.natAbs x2.natAbs:Nat):Int))<0)),.slice (y.1) ((ya ((((yE x1.natAbs x2.natAbs:Nat):Int)).natAbs)).length) (y.2)]) (fun y=>[]) (fun y=>[zI (rI .u32) (y.1) (y.2) (ya ((((yE x1.natAbs x2.natAbs:Nat):Int)).natAbs))]):=by
  have h:= @zge (decide ((x1)<0)) p1 (ya (x1).natAbs).length c1 (ya (x1).natAbs) (decide ((x2)<0)) p2 (ya (x2).natAbs).length c2 (ya (x2).natAbs) rfl rfl hb1 hb2
  rw [yo,yo] at h
  exact h
theorem zk6 (hb1:yg x1≤2199023255552) (hb2:yg x2≤2199023255552):jI yi 152 [.agg #[w1.b,w1.l],.agg #[w2.b,w2.l]] [] [zF w1 (x1),zF w2 (x2)] (Y:=(Wd)) (fun y=>True) (fun y=> .agg #[y.b,y.l]) (fun y=>[]) (fun y=>[zF y (((yE x1.natAbs x2.natAbs:Nat):Int))]):=by
  exact Vn (Jb (fun p1 c1 p2 c2=>zk5 hb1 hb2))
theorem zeN {s:Bool} {p1:Option Addr} {n1:Nat} {c1:Nat} {l1:List Int} {t:Bool} {p2:Option Addr} {n2:Nat} {c2:Nat} {l2:List Int} (hn1:l1.length=n1) (hn2:l2.length=n2) (hm1:n1≤2199023255552) (hm2:n2≤2199023255552):CA 151 [.agg #[.bool s,.slice p1 n1 c1],.agg #[.bool t,.slice p2 n2 c2]] [zI (rI .u32) p1 c1 l1,zI (rI .u32) p2 c2 l2] (.int .i64 ((yd s l1 - yd t l2).sign)):=by
 refine zg Tryz.func151 rfl rfl (fun c=> ?_)
 refine zN 0 rfl (fun hL0=> ?_)
 refine jZ 0 rfl (fun a0=> ?_)
 refine zN 1 rfl (fun hL1=> ?_)
 refine jZ 1 rfl (fun a1=> ?_)
 have a2:yn l1:=fun g hg=>(zO.1 (a0 g hg)).1
 have a3:yn l2:=fun g hg=>(zO.1 (a1 g hg)).1
 have a4:yg (yd s l1)≤n1:=by have:=Big.ZC (s:=s) a2;omega
 have a5:yg (yd t l2)≤n2:=by have:=Big.ZC (s:=t) a3;omega
 unfold yg at a4 a5
 have hls:=Big.WM (yd s l1) (yd t l2)
 unfold yg at hls
 refine vg<|zB (zX rfl rfl) (fun b1=> ?_)
 refine zB (zX rfl rfl) (fun b2=> ?_)
 refine jD 1 rfl<|zw (za 1 z4 rfl rfl (.t2 .nil))<|zw (za 0 z4 rfl rfl (.t2 .nil))<|zm (q7 rfl rfl) zP (zgd qB qB zL zL) (vj 0 1 rfl rfl) ?_
 rintro ⟨p33,c34⟩ -
 dsimp only [aq,nq,cq]
 refine qg (.c rfl .n) zP (zcK (by first|rfl|assumption|omega|(unfold yg;omega))) (qX 0) ?_
 refine Zp 1 rfl ?_
 exact zq rfl () trivial (zj rfl) rfl oN sN
theorem JJ (hb1:yg x1≤2199023255552) (hb2:yg x2≤2199023255552):jI yi 151 [.agg #[.bool (decide ((x1)<0)),.slice (p1) ((ya ((x1).natAbs)).length) (c1)],.agg #[.bool (decide ((x2)<0)),.slice (p2) ((ya ((x2).natAbs)).length) (c2)]] [] [zI (rI .u32) (p1) (c1) (ya ((x1).natAbs)),zI (rI .u32) (p2) (c2) (ya ((x2).natAbs))] (Y:=Unit) (fun y=>True) (fun y=> .int .i64 ((x1 - x2).sign)) (fun y=>[]) (fun y=>[]):=by
  have h:= @zeN (decide ((x1)<0)) p1 (ya (x1).natAbs).length c1 (ya (x1).natAbs) (decide ((x2)<0)) p2 (ya (x2).natAbs).length c2 (ya (x2).natAbs) rfl rfl hb1 hb2
  rw [yo,yo] at h
  exact h
theorem zeO {x1:Int} {x2:Int} {p1:Option Addr} {c1:Nat} {p2:Option Addr} {c2:Nat} (hb1:yg x1≤1099511627776) (hb2:yg x2≤1099511627776) (hy:x2≠0):CB 206 [.agg #[.bool (decide (x1<0)),.slice p1 ((ya ((x1).natAbs)).length) c1],.agg #[.bool (decide (x2<0)),.slice p2 ((ya ((x2).natAbs)).length) c2]] [zI (rI .u32) p1 c1 (ya ((x1).natAbs)),zI (rI .u32) p2 c2 (ya ((x2).natAbs))] (Y:=(Option Addr)×Nat×(Option Addr)×Nat) (fun y=> .tuple #[.agg #[.bool (decide ((Big.fq x1 x2)<0)),.slice (y.1) ((ya ((Big.fq x1 x2).natAbs)).length) (y.2.1)],.agg #[.bool (decide ((Big.fr x1 x2)<0)),.slice (y.2.2.1) ((ya ((Big.fr x1 x2).natAbs)).length) (y.2.2.2)],.int .i64 0]) (fun y=>[zI (rI .u32) (y.1) (y.2.1) (ya ((Big.fq x1 x2).natAbs)),zI (rI .u32) (y.2.2.1) (y.2.2.2) (ya ((Big.fr x1 x2).natAbs))]):=by
 refine zg Tryz.func206 rfl rfl (fun c=> ?_)
 refine zN 0 rfl (fun hL0=> ?_)
 refine zN 1 rfl (fun hL1=> ?_)
 have hfl:=Big.zf5 (x:=x1) hy
 have hml:=Big.qI (Big.fq x1 x2) x2
 unfold yg at hb1 hb2 hfl hml
 have b7:=ybc x1.natAbs x2.natAbs
 have b8:=yax x1.natAbs (show 0<x2.natAbs by omega)
 have b9:=Big.Za b7
 have c3:=Big.Za (ybx b8)
 refine vg<|zB (zX rfl rfl) (fun b1=> ?_)
 refine zB (zX rfl rfl) (fun b2=> ?_)
 refine zB (zo jo rfl) (fun b3=> ?_)
 refine zB (zo jo rfl) (fun b4=> ?_)
 refine jn 1 rfl<|vk (.c (i:=3) rfl (.c (i:=2) rfl (.c (i:=0) rfl (.c (i:=0) rfl .n))))<|V4 4 (.then .ret) (OW:=[zK b1 30 [.bool (decide (x1<0)),.slice p1 ((ya ((x1).natAbs)).length) c1],zK b2 30 [.bool (decide (x2<0)),.slice p2 ((ya ((x2).natAbs)).length) c2]]) (O:=[zK b4 30 [wz.b,wz.l],zK b3 30 [wz.b,wz.l]])<|qy 0 rfl (za 0 z4 rfl rfl (.t2 .nil)) ?_
 refine qy 2 rfl (za 1 z4 rfl rfl (.t2 .nil)) ?_
 refine zt 1 (zp rfl (.c rfl .n) zP (KV (by first|rfl|assumption|omega|(unfold yg;omega)|(unfold yg;rw [hsq];omega)|(decide +kernel))) (qX 0) ?_)
 rintro ⟨a4,a5⟩ -
 dsimp only [aq,nq,cq]
 refine zt 3 (zp rfl (.c rfl .n) zP (KV (by first|rfl|assumption|omega|(unfold yg;omega)|(unfold yg;rw [hsq];omega)|(decide +kernel))) (qX 2) ?_)
 rintro ⟨a6,a7⟩ -
 refine zt 4 (zH rfl rfl rfl rfl z8 (.t2 .nil) ?_)
 refine Zc (qP (i:=1) rfl)<|zt 5 (zH rfl rfl rfl rfl z8 (.t2 .nil) ?_)
 refine zU kr<|zi<|qe<|vg<|zE (zb yb rfl Zu rfl rfl)<|zw (zc 0 jQ rfl rfl rfl)<|vZ 2 rfl<|zx rfl (fun h9=> ?_) (fun h9=> ?_)
 exact absurd (Big.Ze.1 (show (ya x2.natAbs).length=0 by omega)) om
 refine kk8<|zE (zb yb rfl Zu rfl rfl)<|zw (zc 1 jQ rfl rfl rfl)<|zE (zb yb rfl Zu rfl rfl)<|zw (zc 0 jQ rfl rfl rfl)<|zm (q7 rfl rfl) zP (zcN zL zL zL) (vj 1 0) ?_
 rintro ⟨d6,d7,d8,d9⟩ -
 refine jn 5 rfl ?_
 obtain ⟨Q,hQ⟩:∃z,z=((x1).natAbs) / ((x2).natAbs):=⟨_,rfl⟩
 rw [← hQ]
 obtain ⟨R0,a1⟩:∃z,z=((x1).natAbs)%((x2).natAbs):=⟨_,rfl⟩
 rw [← a1]
 rw [← hQ] at b9
 rw [← a1] at c3
 have hsq:(yj (decide (decide (x1<0)≠decide (x2<0))) (Q:Int)).natAbs=Q:=by rw [Big.KI om];exact ybk _
 refine zv<|zE (zb yb rfl Jn rfl rfl)<|zw (zc 1 J5 rfl rfl rfl)<|zE (zb yb rfl Jn rfl rfl)<|zw (zc 0 J5 rfl rfl rfl)<|zE (Zt yl rfl rfl)<|qJ rfl<|zm (q7 rfl rfl) zP (Vr zL) (qX 0) ?_
 rintro ⟨a2,a3⟩ -
 refine zB (zo jo rfl) (fun a8=> ?_)
 refine zh 0 rfl rfl rfl rfl z8 (.t2 .nil) .z<|ZI<|vg<|zE (zb yb rfl Jn rfl rfl)<|zw (zc 2 J5 rfl rfl rfl)<|zE (zb yb rfl Jn rfl rfl)<|zw (zc 1 J5 rfl rfl rfl)<|zE (Zt yl rfl rfl)<|q8 (qU rfl) (fun hsd=> ?_) (fun hsd=> ?_)
 refine vZ 4 rfl<|zx rfl (fun hadj=> ?_) (fun hadj=> ?_)
 have a9:x1.natAbs%x2.natAbs≠0:=fun e=>by rw [a1,e,Big.jE] at hadj;exact absurd hadj dd
 have hqz:yj (decide (decide (x1<0)≠decide (x2<0))) (Q:Int) - 1=Big.fq x1 x2:=by have h9:=(Big.zeA hy hsd a9).1;rw [← h9,decide_eq_true hsd,hQ,Big.zf3,Big.zf3];omega
 refine Vk 3<|qy 0 rfl (za 0 z4 rfl rfl (.t2 .nil))<|zt 1 (zp rfl (qS rfl) zP (zaq zL) (.n) ?_)
 rintro ⟨e0,e3⟩ -
 dsimp only [aq,nq,cq]
 refine zt 2 (zp rfl (.c rfl (.c rfl .n)) zP (Wi (by first|rfl|assumption|omega|(unfold yg;omega)|(unfold yg;rw [hsq];omega)|(decide +kernel)) (by first|rfl|assumption|omega|(unfold yg;omega)|(unfold yg;rw [hsq];omega)|(decide +kernel))) (vj 1 0) ?_)
 rintro ⟨b5,b6⟩ -
 refine zt 3 (zH rfl rfl rfl rfl z8 (.t2 .nil) ?_)
 refine zU kr<|zi<|qe ?_
 have c4:(yj (decide (decide (x1<0)≠decide (x2<0))) (Q:Int)) - 1=Big.fq x1 x2:=by exact hqz
 rw [c4]
 refine vk (.c (i:=4) rfl (.c (i:=3) rfl (.c (i:=0) rfl (.c (i:=0) rfl (.c (i:=0) rfl .n)))))<|V4 6 (.then .ret) (OW:=[zK b3 30 [wz.b,wz.l],zK b4 30 [wz.b,wz.l]]) (O:=[zK a8 30 [.bool (decide ((Big.fq x1 x2)<0)),.slice b5 ((ya ((Big.fq x1 x2).natAbs)).length) b6],zK b2 30 [.bool (decide (x2<0)),.slice a6 ((ya ((x2).natAbs)).length) a7],zK b1 30 [.bool (decide (x1<0)),.slice a4 ((ya ((x1).natAbs)).length) a5]])<|qy 0 rfl (za 2 z4 rfl rfl (.t2 .nil)) ?_
 refine qy 1 rfl (za 4 z4 rfl rfl (.t2 .nil)) ?_
 refine qy 2 rfl (za 2 z4 rfl rfl (.t2 .nil)) ?_
 refine qy 3 rfl (za 3 z4 rfl rfl (.t2 .nil)) ?_
 refine zt 4 (zp rfl (.c rfl (.c rfl .n)) zP (Wj (by first|rfl|assumption|omega|(unfold yg;omega)|(unfold yg;rw [hsq];omega)|(decide +kernel)) (by first|rfl|assumption|omega|(unfold yg;omega)|(unfold yg;rw [hsq];omega)|(decide +kernel))) (vj 0 5) ?_)
 rintro ⟨e4,e5⟩ -
 dsimp only [aq,nq,cq]
 refine zt 5 (zp rfl (.c rfl (.c rfl .n)) zP (Wi (by first|rfl|assumption|omega|(unfold yg;omega)|(unfold yg;rw [hsq];omega)|(decide +kernel)) (by first|rfl|assumption|omega|(unfold yg;omega)|(unfold yg;rw [hsq];omega)|(decide +kernel))) (vj 7 0) ?_)
 rintro ⟨c5,c6⟩ -
 refine zt 6 (zH rfl rfl rfl rfl z8 (.t2 .nil) ?_)
 refine Zc (qP (i:=1) rfl)<|zt 7 (zH rfl rfl rfl rfl z8 (.t2 .nil) ?_)
 refine zC 8 rfl (zT rfl)<|zU kr<|zi<|vv ?_
 have a0:x1 - Big.fq x1 x2*x2=Big.fr x1 x2:=by unfold Big.fr;rw [yK]
 exact J1 rfl (b5,b6,c5,c6) trivial (zy 1 z4 rfl rfl (.t2 .nil)) (zy 0 z4 rfl rfl (.t2 .nil)) (zj rfl) (by rw [a0]) oN ((.c (j:=2) rfl (.e (j:=0) rfl (by rw [a0]) .n)))
 have a9:x1.natAbs%x2.natAbs=0:=Big.Ze.1 (by rw [← a1];omega)
 have hqz:yj (decide (decide (x1<0)≠decide (x2<0))) (Q:Int)=Big.fq x1 x2:=by rw [decide_eq_true hsd,hQ];exact (Big.zez hy hsd a9).1
 refine vY ?_
 have c7:yj (decide (decide (x1<0)≠decide (x2<0))) (Q:Int)=Big.fq x1 x2:=by exact hqz
 rw [c7]
 refine vk (.c (i:=4) rfl (.c (i:=3) rfl (.c (i:=0) rfl (.c (i:=0) rfl (.c (i:=0) rfl .n)))))<|V4 6 (.then .ret) (OW:=[zK b3 30 [wz.b,wz.l],zK b4 30 [wz.b,wz.l]]) (O:=[zK a8 30 [.bool (decide ((Big.fq x1 x2)<0)),.slice a2 ((ya ((Big.fq x1 x2).natAbs)).length) a3],zK b2 30 [.bool (decide (x2<0)),.slice a6 ((ya ((x2).natAbs)).length) a7],zK b1 30 [.bool (decide (x1<0)),.slice a4 ((ya ((x1).natAbs)).length) a5]])<|qy 0 rfl (za 2 z4 rfl rfl (.t2 .nil)) ?_
 refine qy 1 rfl (za 4 z4 rfl rfl (.t2 .nil)) ?_
 refine qy 2 rfl (za 2 z4 rfl rfl (.t2 .nil)) ?_
 refine qy 3 rfl (za 3 z4 rfl rfl (.t2 .nil)) ?_
 refine zt 4 (zp rfl (.c rfl (.c rfl .n)) zP (Wj (by first|rfl|assumption|omega|(unfold yg;omega)|(unfold yg;rw [hsq];omega)|(decide +kernel)) (by first|rfl|assumption|omega|(unfold yg;omega)|(unfold yg;rw [hsq];omega)|(decide +kernel))) (vj 0 3) ?_)
 rintro ⟨e6,e7⟩ -
 dsimp only [aq,nq,cq]
 refine zt 5 (zp rfl (.c rfl (.c rfl .n)) zP (Wi (by first|rfl|assumption|omega|(unfold yg;omega)|(unfold yg;rw [hsq];omega)|(decide +kernel)) (by first|rfl|assumption|omega|(unfold yg;omega)|(unfold yg;rw [hsq];omega)|(decide +kernel))) (vj 5 0) ?_)
 rintro ⟨c8,c9⟩ -
 refine zt 6 (zH rfl rfl rfl rfl z8 (.t2 .nil) ?_)
 refine Zc (qP (i:=1) rfl)<|zt 7 (zH rfl rfl rfl rfl z8 (.t2 .nil) ?_)
 refine zC 8 rfl (zT rfl)<|zU kr<|zi<|vv ?_
 have a0:x1 - Big.fq x1 x2*x2=Big.fr x1 x2:=by unfold Big.fr;rw [yK]
 exact J1 rfl (a2,a3,c8,c9) trivial (zy 1 z4 rfl rfl (.t2 .nil)) (zy 0 z4 rfl rfl (.t2 .nil)) (zj rfl) (by rw [a0]) oN ((.c (j:=2) rfl (.e (j:=0) rfl (by rw [a0]) .n)))
 have d0:=ybl.1 hsd
 have hqz:yj (decide (decide (x1<0)≠decide (x2<0))) (Q:Int)=Big.fq x1 x2:=by rw [decide_eq_false hsd,hQ];exact (Big.zam hy d0).1
 refine vZ 4 rfl<|qW rfl<|vY ?_
 have d1:yj (decide (decide (x1<0)≠decide (x2<0))) (Q:Int)=Big.fq x1 x2:=by exact hqz
 rw [d1]
 refine vk (.c (i:=4) rfl (.c (i:=3) rfl (.c (i:=0) rfl (.c (i:=0) rfl (.c (i:=0) rfl .n)))))<|V4 6 (.then .ret) (OW:=[zK b3 30 [wz.b,wz.l],zK b4 30 [wz.b,wz.l]]) (O:=[zK a8 30 [.bool (decide ((Big.fq x1 x2)<0)),.slice a2 ((ya ((Big.fq x1 x2).natAbs)).length) a3],zK b2 30 [.bool (decide (x2<0)),.slice a6 ((ya ((x2).natAbs)).length) a7],zK b1 30 [.bool (decide (x1<0)),.slice a4 ((ya ((x1).natAbs)).length) a5]])<|qy 0 rfl (za 2 z4 rfl rfl (.t2 .nil)) ?_
 refine qy 1 rfl (za 4 z4 rfl rfl (.t2 .nil)) ?_
 refine qy 2 rfl (za 2 z4 rfl rfl (.t2 .nil)) ?_
 refine qy 3 rfl (za 3 z4 rfl rfl (.t2 .nil)) ?_
 refine zt 4 (zp rfl (.c rfl (.c rfl .n)) zP (Wj (by first|rfl|assumption|omega|(unfold yg;omega)|(unfold yg;rw [hsq];omega)|(decide +kernel)) (by first|rfl|assumption|omega|(unfold yg;omega)|(unfold yg;rw [hsq];omega)|(decide +kernel))) (vj 0 3) ?_)
 rintro ⟨e8,e9⟩ -
 dsimp only [aq,nq,cq]
 refine zt 5 (zp rfl (.c rfl (.c rfl .n)) zP (Wi (by first|rfl|assumption|omega|(unfold yg;omega)|(unfold yg;rw [hsq];omega)|(decide +kernel)) (by first|rfl|assumption|omega|(unfold yg;omega)|(unfold yg;rw [hsq];omega)|(decide +kernel))) (vj 5 0) ?_)
 rintro ⟨d4,d5⟩ -
 refine zt 6 (zH rfl rfl rfl rfl z8 (.t2 .nil) ?_)
 refine Zc (qP (i:=1) rfl)<|zt 7 (zH rfl rfl rfl rfl z8 (.t2 .nil) ?_)
 refine zC 8 rfl (zT rfl)<|zU kr<|zi<|vv ?_
 have a0:x1 - Big.fq x1 x2*x2=Big.fr x1 x2:=by unfold Big.fr;rw [yK]
 exact J1 rfl (a2,a3,d4,d5) trivial (zy 1 z4 rfl rfl (.t2 .nil)) (zy 0 z4 rfl rfl (.t2 .nil)) (zj rfl) (by rw [a0]) oN ((.c (j:=2) rfl (.e (j:=0) rfl (by rw [a0]) .n)))
theorem VU (hb1:yg x1≤1099511627776) (hb2:yg x2≤1099511627776) (hy:x2≠0):jI yi 206 [.agg #[w1.b,w1.l],.agg #[w2.b,w2.l]] [] [zF w1 (x1),zF w2 (x2)] (Y:=(Wd)×(Wd)) (fun y=>True) (fun y=> .tuple #[.agg #[y.1.b,y.1.l],.agg #[y.2.b,y.2.l],.int .i64 (0)]) (fun y=>[]) (fun y=>[zF y.1 (Big.fq x1 x2),zF y.2 (Big.fr x1 x2)]):=by
  exact zjE (Jb (fun p1 c1 p2 c2=>zeO hb1 hb2 hy))
end Sp
end Go.Proofs.YtpdbimfnhglhpaaGreat
