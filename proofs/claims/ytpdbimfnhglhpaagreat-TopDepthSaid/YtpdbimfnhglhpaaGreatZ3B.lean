/- Lemmas on the walk and plain lemmas that the claim of this folder uses; each states its own conditions. Lines were printed by a program of ours. -/
import Derived.Test.YtpdbimfnhglhpaaGreatZ3A
set_option linter.unusedVariables false
set_option linter.unusedSimpArgs false
set_option linter.unusedSectionVars false
open Go.Value renaming int → yd, pointer → yf
open Go.IntKind renaming i64 → ye
open Go.Proofs.YtpdbimfnhglhpaaGreat.Big renaming digs → yg, valL → yi, trimL → ym, okL_getD → yn, digs_ok → yp, raw → yq, okL → yr, valL_digs → yu, pw → yv, sg → yw, raw_big → yx, getD_set_ne → yz, raw_digs → yA, okL_snoc → yB, ln → yC, okL_set → yD, cmp → yE
open Go.Proofs.Tryz renaming underlying28 → yh, underlying133 → yj, underlying182 → yk, prog → yl, underlying30 → yo, underlying2 → yt
namespace Go.Proofs.YtpdbimfnhglhpaaGreat.Sp
open Go
set_option linter.unusedVariables false
structure Wd where
  s:Bool
  p:Option Addr
  n:Nat
  c:Nat
@[reducible] def Wd.b (w : Wd) : Value := .bool w.s
@[reducible] def Wd.l (w : Wd) : Value := .slice w.p w.n w.c
@[reducible] def cw : List Wd → List Value
  |[]=>[]
  |w :: l=>w.b :: w.l :: cw l
def wz:Wd:=⟨false,none,0,0⟩
def Wd.is (g:Hp) (w:Wd) (z:Int):Prop:=w.s=decide (z<0)∧w.n=(yg z.natAbs).length∧Sl (rI .u32) g w.p w.c (yg z.natAbs)
def zF (w:Wd) (z:Int):Fa:=⟨fun g=>w.is g z,fun _ _ h k=>⟨k.1,k.2.1,k.2.2.mono h⟩⟩
def lb (n k:Nat):Array Bool:=⟨(List.range n).map (Nat.testBit k)⟩
section
variable {P : Program} {c : Cx} {n : Sz} {Q : Exit → Act → World → Prop} {m : Fm} {O : List As} {R : List Fa} {f : Nat}
theorem Mem.fact {w:World} {r:Fa} (h:∀g,Holds g R→r.on g) (mm:Mem c w O R):Mem c w O (r :: R):=
  mm.weaken fun hh g s r' a=>⟨hh,g,s,⟨h g r',r'⟩,Hp.le_refl _,Hp.le_refl _,a,fun _ _ e=> .inl e⟩
theorem zfd {ro:Option Nat} {code:Code} (r:Fa) (h:∀g,Holds g R→r.on g) (k:RunC (ro:=ro) P Q c n code m O (r :: R)):RunC (ro:=ro) P Q c n code m O R:=fun a w f mm=>k a w f (mm.fact h)
theorem zHb {e:Exit} (r:Fa) (h:∀g,Holds g R→r.on g) (k:Post c n Q e m O (r :: R)):Post c n Q e m O R:=fun a w f mm=>k a w f (mm.fact h)
theorem Mem.mapR {w:World} {R':List Fa} (h:∀g,Holds g R→Holds g R') (mm:Mem c w O R):Mem c w O R':=
  mm.weaken fun hh g s r' a=>⟨hh,g,s,h g r',Hp.le_refl _,Hp.le_refl _,a,fun _ _ e=> .inl e⟩
theorem Con.told {A:List Value} {Y Z:Type} {φ:Y→Prop} {val:Y→Value} {O':Y→List As} {R':Y→List Fa} {ψ:Z→Prop} {val2:Z→Value} {O2:Z→List As} {R2:Z→List Fa} (h:Con P f A O R φ val O' R') (t:Y→Z)
    (hv:∀y,val y=val2 (t y)) (hp:∀y,φ y→ψ (t y)) (ho:∀y,O' y=O2 (t y)) (hR:∀y,φ y→∀g,Holds g (R' y)→Holds g (R2 (t y))):Con P f A O R ψ val2 O2 R2:=fun w hh g s r ap h1 h2=>
  (h w hh g s r ap h1 h2).mono fun e w' ⟨y,e1,e2,e3⟩=>⟨t y,by rw [e1,hv],hp y e2,by rw [← ho];exact Mem.mapR (hR y e2) e3⟩
theorem Con.of {A:List Value} {Y:Type} {φ:Y→Prop} {val:Y→Value} {O':Y→List As} {R':Y→List Fa} {X:Type} {ψ:X→Prop} {A2:X→List Value} {R2:X→List Fa}
    (h:∀x,ψ x→Con P f (A2 x) O (R2 x) φ val O' R') (hx:∀g,Holds g R→∃x,ψ x∧A2 x=A∧Holds g (R2 x)):Con P f A O R φ val O' R':=fun w hh g s r ap h1 h2=>by
  obtain ⟨x,hp,e,r2⟩:=hx g r
  have:=h x hp w hh g s r2 ap h1 h2
  rw [e] at this;exact this
abbrev bigL (z:Int) (p:Option Addr) (c:Nat):List Value:=[.bool (decide (z<0)),.slice p (yg z.natAbs).length c]
abbrev bigS (z:Int) (p:Option Addr) (c:Nat):Fa:=slF (rI .u32) p c (yg z.natAbs)
theorem Wd.eq {g:Hp} {w:Wd} {z:Int} (h:w.is g z):[w.b,w.l]=bigL z w.p w.c:=by rw [Wd.b,Wd.l,h.1,h.2.1]
theorem zgd {z:Int} {w:Wd} {Y:Type} {φ:Y→Prop} {val:Y→Value} {O':Y→List As} {R':Y→List Fa} (h:∀p c,Con P f [.agg (bigL z p c).toArray] O [bigS z p c] φ val O' R'):Con P f [.agg #[w.b,w.l]] O [zF w z] φ val O' R':=
  Con.of (X:=Unit) (ψ:=fun _=>True) (A2:=fun _=>[.agg (bigL z w.p w.c).toArray]) (R2:=fun _=>[bigS z w.p w.c]) (fun _ _=>h w.p w.c) fun g r=>⟨(),trivial,by rw [← Wd.eq r.1],r.1.2.2,trivial⟩
theorem zAc {z1 z2:Int} {w1 w2:Wd} {Y:Type} {φ:Y→Prop} {val:Y→Value} {O':Y→List As} {R':Y→List Fa} (h:∀p1 c1 p2 c2,Con P f [.agg (bigL z1 p1 c1).toArray,.agg (bigL z2 p2 c2).toArray] O [bigS z1 p1 c1,bigS z2 p2 c2] φ val O' R'):Con P f [.agg #[w1.b,w1.l],.agg #[w2.b,w2.l]] O [zF w1 z1,zF w2 z2] φ val O' R':=
  Con.of (X:=Unit) (ψ:=fun _=>True) (A2:=fun _=>[.agg (bigL z1 w1.p w1.c).toArray,.agg (bigL z2 w2.p w2.c).toArray]) (R2:=fun _=>[bigS z1 w1.p w1.c,bigS z2 w2.p w2.c]) (fun _ _=>h w1.p w1.c w2.p w2.c) fun g r=>⟨(),trivial,by rw [← Wd.eq r.1,←Wd.eq r.2.1],r.1.2.2,r.2.1.2.2,trivial⟩
theorem zSb {z:Int} {A:List Value} (h:Con P f A O R (Y:=Option Addr×Nat) (fun _=>True) (fun y=> .agg (bigL z y.1 y.2).toArray) (fun _=>[]) (fun y=>[bigS z y.1 y.2])):Con P f A O R (Y:=Wd) (fun _=>True) (fun w=> .agg #[w.b,w.l]) (fun _=>[]) (fun w=>[zF w z]):=
  h.told (fun y=>⟨decide (z<0),y.1,(yg z.natAbs).length,y.2⟩) (fun _=>rfl) (fun _ _=>trivial) (fun _=>rfl) (fun y _ g r=>⟨⟨rfl,rfl,r.1⟩,trivial⟩)
end
section
variable {P : Program} {c : Cx} {n : Sz} {Q : Exit → Act → World → Prop} {m : Fm} {O OW : List As} {R R' : List Fa} {ops : Array Oper} {ro : Option Nat} {l : List Oper} {wi k : Nat} {L : Array Bool} {α : Type} {d : Option Tmp} {ty : TypeId} {ps : String} {af : Array Edge} {gd : Option (Nat × Bool)}
theorem zLb (h:∀g,Holds g R→Holds g R') (k:RunL (ro:=ro) P ops Q c n l m O R'):RunL (ro:=ro) P ops Q c n l m O R:=fun a w f mm=>k a w f (mm.mapR h)
theorem zxb (h:∀g,Holds g R→Holds g R') (kont:RunD P ops Q c n wi k L m OW O R'):RunD P ops Q c n wi k L m OW O R:=fun hQ hs hcl a w hw hr g f s1 s2 ap mm=>
  kont hQ hs hcl a w hw hr g f s1 s2 ap ⟨mm.sep,h g mm.holds,mm.apart,mm.hasH,mm.hasG,mm.le,mm.newG,mm.newH,mm.kept⟩
theorem zud {t T:TypeId} {x:Operand} {r:Rp α} {p:Option Addr} {cap o:Nat} {xs:List α} {x0:α} (i j:Nat) (hi:O[i]? =some (rowA T r p cap xs)) (ht:Ty P t r.sz true) (h:evo m x=some (rowPtr p o)) (ho:o=j*r.sz) (hx:xs[j]? =some x0):
    Vl P n ⟨d,.load t x,ty,ps,af,gd⟩ m O R (Y:=r.G) (fun _=>True) (fun y=> .agg (r.enc x0 y).toArray) (fun y=>[okF r x0 y]):=fun a f hh g sp hr=>by
  obtain ⟨y,hok,hrun⟩:=zJb (P:=P) (n:=n) (d:=d) (ty:=ty) (ps:=ps) (af:=af) (gd:=gd) (R:=R) i j hi ht h ho hx a f hh g sp hr
  exact ⟨y,trivial,⟨hok,trivial⟩,hrun⟩
def PartsG (m:Fm) (R:List Fa) (r:Rp α):Nat→List (Nat×Operand)→List (Nat×Value)→List α→List (List Value)→Prop
  |_,[],[],[],[]=>True
  |i,(i1,x0) :: xs,(i2,v) :: vs,x :: es,cs :: css=>i1=i∧i2=i∧evo m x0=some v∧v.cells=cs.toArray∧(∀g,Holds g R→∃γ,r.enc x γ=cs∧r.ok g x γ)∧cs.length=r.sz∧PartsG m R r (i+1) xs vs es css
  |_,_,_,_,_=>False
theorem PartsG.evp {r:Rp α}:∀{i:Nat} {xs:List (Nat×Operand)} {vs:List (Nat×Value)} {es:List α} {css:List (List Value)},PartsG m R r i xs vs es css→evp m xs vs
  |_,[],[],[],[],_=>trivial
  |_,(_,_) :: _,(_,_) :: _,_ :: _,_ :: _,⟨h1,h2,h,_,_,_,k⟩=>⟨h1.trans h2.symm,h,PartsG.evp k⟩
theorem PartsG.len {r:Rp α}:∀{i:Nat} {xs:List (Nat×Operand)} {vs:List (Nat×Value)} {es:List α} {css:List (List Value)},PartsG m R r i xs vs es css→css.flatten.length=es.length*r.sz
  |_,[],[],[],[],_=>by simp
  |_,(_,_) :: _,(_,_) :: _,_ :: es,_ :: css,⟨_,_,_,_,_,hl,k⟩=>by
    have:=PartsG.len k
    simp only [List.flatten_cons,List.length_append,hl,this,List.length_cons,Nat.succ_mul];omega
theorem PartsG.fill {r:Rp α}:∀{i:Nat} {xs:List (Nat×Operand)} {vs:List (Nat×Value)} {es:List α} {css:List (List Value)},PartsG m R r i xs vs es css→∀(pre rest:List Value),pre.length=i*r.sz→rest.length=es.length*r.sz→
    Fill (fun i=>some (i*r.sz,r.sz)) (pre++rest) vs (pre++css.flatten)
  |_,[],[],[],[],_,pre,rest,hp,hr=>by
    have:rest=[]:=List.eq_nil_of_length_eq_zero (by simpa using hr)
    subst this;rfl
  |i,(_,_) :: _,(_,_) :: _,x :: es,cs :: css,⟨h1,h2,h,hv,_,hl,k⟩,pre,rest,hp,hr=>by
    subst h2
    refine ⟨_*r.sz,r.sz,cs,pre++(cs++rest.drop r.sz),rfl,hv,hl,⟨?_,?_⟩,?_⟩
    · simp only [List.length_append,hp,hl,hr,List.length_cons,Nat.succ_mul];omega
    · rw [hl, ← hp, List.take_left, List.drop_append]
      have:pre.drop (pre.length+r.sz)=[]:=List.drop_eq_nil_of_le (by omega)
      rw [this,List.nil_append,show pre.length+r.sz - pre.length=r.sz by omega,List.append_assoc]
    · have := PartsG.fill k (pre ++ cs) (rest.drop r.sz) (by rw [List.length_append, hp, hl, Nat.succ_mul]) (by rw [List.length_drop, hr, List.length_cons, Nat.succ_mul]; omega)
      simpa [List.append_assoc] using this
theorem PartsG.els {r:Rp α} {g:Hp} (hr:Holds g R):∀{i:Nat} {xs:List (Nat×Operand)} {vs:List (Nat×Value)} {es:List α} {css:List (List Value)},PartsG m R r i xs vs es css→Els r g css.flatten 0 es
  |_,[],[],[],[],_=>fun i x e=>by simp at e
  |_,(_,_) :: _,(_,_) :: _,x :: es,cs :: css,⟨_,_,h,hv,hok,hl,k⟩=>fun i y e=>by
    cases i with
    |zero=>
      simp at e;subst e
      obtain ⟨γ,h1,h2⟩:=hok g hr
      refine ⟨γ,⟨r.len _ _,fun j v ev=> ?_⟩,h2⟩
      rw [h1] at ev
      have hj:=(List.getElem?_eq_some_iff.1 ev).1
      simp only [List.flatten_cons,Nat.zero_mul,Nat.zero_add]
      rw [List.getElem?_append_left hj];exact ev
    |succ i=>
      obtain ⟨γ,a1,a2⟩:=PartsG.els hr k i y (by simpa using e)
      refine ⟨γ,⟨a1.1,fun j v ev=> ?_⟩,a2⟩
      have:=a1.2 j v ev
      simp only [List.flatten_cons]
      rw [List.getElem?_append_right (by rw [hl,Nat.succ_mul];omega),hl]
      rw [show 0+(i+1)*r.sz+j - r.sz=0+i*r.sz+j by rw [Nat.succ_mul];omega];exact this
theorem zGa {t e:TypeId} {bytes k:Nat} {z:Value} {parts:List (Nat×Operand)} {vs:List (Nat×Value)} {r:Rp α} {xs:List α} {css:List (List Value)} (hu:P.underlying t=some (.slice e)) (hI:Inf P e r.sz bytes z) (hzs:z.cells.size=r.sz) (hk:k*r.sz≤16777216) (hpos:0<k*r.sz) (hkm:k≤16777216)
    (hp:PartsG m R r 0 parts vs xs css) (hlen:xs.length=k:=by rfl):
    Ef P n ⟨d,.buildSlice t k parts.toArray,ty,ps,af,gd⟩ m [] R (Y:=Nat) (fun _=>True) (fun b=> .slice (some ⟨b,0,none⟩) k k) (fun b=>[rowA e r (some ⟨b,0,none⟩) k xs]) (fun _=>[]):=by
  subst hlen
  have hfill:=hp.fill [] (madeCells z.cells (xs.length*r.sz)).toList (by simp) (by simp [size_madeCells])
  simp only [List.nil_append] at hfill
  exact zac hu hI hzs hk hpos hkm hp.evp hfill rfl hp.len (fun g hr=>hp.els hr)
end
theorem PartsG.n {α:Type} {m:Fm} {R:List Fa} {r:Rp α} {i:Nat}:PartsG m R r i [] [] [] []:=trivial
theorem PartsG.c {α:Type} {m:Fm} {R:List Fa} {r:Rp α} {i:Nat} {x0:Operand} {v:Value} {x:α} {cs:List Value} {xs:List (Nat×Operand)} {vs:List (Nat×Value)} {es:List α} {css:List (List Value)} (γ:r.G) (h:evo m x0=some v) (hv:v.cells=cs.toArray) (he:r.enc x γ=cs) (hok:∀g,Holds g R→r.ok g x γ) (k:PartsG m R r (i+1) xs vs es css):PartsG m R r i ((i,x0) :: xs) ((i,v) :: vs) (x :: es) (cs :: css):=
  ⟨rfl,rfl,h,hv,fun g hr=>⟨γ,he,hok g hr⟩,by rw [← he];exact r.len _ _,k⟩
section
variable {P : Program} {c : Cx} {n : Sz} {Q : Exit → Act → World → Prop} {m : Fm} {O : List As} {R : List Fa} {α : Type} {d : Option Tmp} {ty : TypeId} {ps : String} {af : Array Edge} {gd : Option (Nat × Bool)}
theorem RowOn.take {T:TypeId} {r:Rp α} {p:Option Addr} {cap:Nat} {l:List α} {g h:Hp} (k:Nat) (s:RowOn T r p cap l g h):RowOn T r p cap (l.take k) g h:=by
  rcases s with ⟨h1,h2,h3,h4⟩|⟨b,off,cells,e1,e2,e3,e4,e5,e6⟩
  · exact .inl ⟨h1,h2,by rw [h3];simp,h4⟩
  · refine .inr ⟨b, off, cells, e1, by rw [List.length_take]; omega, e3, e4, e5, fun i x e => e6 i x ?_⟩
    rw [List.getElem?_take] at e
    split at e
    · exact e
    · cases e
theorem Sep.mapAt {g:Hp} {A B:As} (hAB:∀h,A.on g h→B.on g h):∀{O:List As} (i:Nat) {h:Hp},O[i]? =some A→Sep g O h→Sep g (O.set i B) h
  |[],_,_,e,_=>by simp at e
  |_ :: _,0,_,e,⟨h1,h2,a,e1,x,y⟩=>by simp at e;subst e;exact ⟨h1,h2,a,e1,hAB _ x,y⟩
  |_ :: _,i+1,_,e,⟨h1,h2,a,e1,x,y⟩=>⟨h1,h2,a,e1,x,Sep.mapAt hAB i (by simpa using e) y⟩
theorem Mem.rowTake {w:World} (i:Nat) {T:TypeId} {r:Rp α} {p:Option Addr} {cap:Nat} {l:List α} (hi:O[i]? =some (rowA T r p cap l)) (k:Nat) (mm:Mem c w O R):Mem c w (O.set i (rowA T r p cap (l.take k))) R:=
  mm.resep fun g h s=>Sep.mapAt (fun _ x=>RowOn.take k x) i hi s
theorem zvd {s e T:TypeId} {x ix:Operand} {r:Rp α} {p:Option Addr} {k cap:Nat} {kk:IntKind} {z:Int} {xs:List α} (i j:Nat) (hi:O[i]? =some (rowA T r p cap xs)) (hu:P.underlying s=some (.slice e)) (ht:(P.info? e).map (·.size)=some r.sz)
    (h1:evo m x=some (.slice p k cap)) (hk:k≤xs.length) (h2:evo m ix=some (.int kk z)) (hz:z=(j:Int)) (hj:j<k):
    Vl P n ⟨d,.indexAddr s x ix,ty,ps,af,gd⟩ m O R (Y:=Unit) (fun _=>True) (fun _=>rowPtr p (j*r.sz)) (fun _=>[]):=fun a f hh g sp hr=>by
  obtain ⟨k1,k2,ap,e0,hA,_,_⟩:=Sep.pick i hi sp
  refine ⟨(),trivial,trivial,fun w _ _=> ?_⟩
  have hA':RowOn T r p cap xs g k1:=hA
  rcases hA' with ⟨_,_,rfl,_⟩|⟨b,off,cells,rfl,_⟩
  · simp at hk;omega
  · subst hz
    have hrun:=zWa (P:=P) (a:=⟨b,off,none⟩) (cap:=cap) (kk:=kk) (w:=w) hu ht hj
    simp only [execOp,f.ev h1,f.ev h2,Sem.run_bind,hrun,Result.andThen_ok,Sem.run_pure,Addr.add_lit,rowPtr,Option.map_some]
end
theorem zhg {P:Program} {c:Cx} {n:Sz} {Q:Exit→Act→World→Prop} {m:Fm} {O:List As} {R:List Fa} {α:Type} {ro:Option Nat} {x:Code} {T:TypeId} {r:Rp α} {p:Option Addr} {cap:Nat} {l:List α} (i:Nat) (hi:O[i]? =some (rowA T r p cap l)) (k:l.length≤cap∧cap≤9223372036854775807→RunC (ro:=ro) P Q c n x m O R):RunC (ro:=ro) P Q c n x m O R:=fun a w f mm=>by
  obtain ⟨hh,g,m2⟩:=mm
  obtain ⟨k1,k2,_,_,hA,_,_⟩:=Sep.pick i hi m2.sep
  have hA':RowOn T r p cap l g k1:=hA
  refine k ?_ a w f ⟨hh,g,m2⟩
  rcases hA' with ⟨_,h2,h3,_⟩|⟨b,off,cells,_,e2,e3,_⟩
  · subst h2;subst h3;exact ⟨Nat.le_refl _,by decide⟩
  · unfold maxLen at e3;omega
theorem MemAt.stay {c:Cx} {w w':World} {O:List As} {R:List Fa} {h g g2:Hp} (m:MemAt c w O R h g) (k:Kept ⟨w,Hp.emp,g2⟩ w'):MemAt c w' O R h g:=by
  have key:∀(x:Hp),Has w x→Has w' x:=fun x hx b o e=>by
    have h1:=hx b o e
    have hlt:=(Array.getElem?_eq_some_iff.1 h1).1
    rw [k.block b hlt rfl];exact h1
  refine ⟨m.sep,m.holds,m.apart,key _ m.hasH,key _ m.hasG,m.le,m.newG,m.newH,k.os.trans m.kept.os,k.tape.trans m.kept.tape,k.output.trans m.kept.output,Nat.le_trans m.kept.size k.size,fun b hb e=> ?_⟩
  rw [k.block b (Nat.lt_of_lt_of_le hb m.kept.size) rfl]
  exact m.kept.block b hb e
section
variable {P : Program} {c : Cx} {n : Sz} {Q : Exit → Act → World → Prop} {m : Fm} {O OW : List As} {R R' : List Fa} {ops : Array Oper} {ro : Option Nat} {l : List Oper} {wi k : Nat} {L : Array Bool} {α : Type} {ty : TypeId} {ps : String} {af : Array Edge} {gd : Option (Nat × Bool)}
theorem borrow_call {o:Oper} {v:Value} {js:List Nat} {T:TypeId} {r:Rp α} {p:Option Addr} {cap:Nat} {xs:List α} (i:Nat) (hi:O[i]? =some (rowA T r p cap xs)) (h:Ef P n o m [] R' (Y:=Unit) (fun _=>True) (fun _=>v) (fun _=>[]) (fun _=>[])) (hs:SelR js (slF r p cap xs :: R) R')
    {a:Act} {w:World} {hh g:Hp} (f:Fr n a m) (sp:Sep g O hh) (hr:Holds g R) (ap:hh.apart g) (hH:Has w hh) (hG:Has w g) {K:Act→World→Prop} (hK:∀w' g2,Kept ⟨w,Hp.emp,g2⟩ w'→K (a.put o.dst v) w'):WpB P o a w K Q:=by
  obtain ⟨k1,k2,ap12,e0,hA,_,_⟩:=Sep.pick i hi sp
  have hA':RowOn T r p cap xs g k1:=hA
  have hk1:k1.le hh:=by rw [e0];exact Hp.le_joinL _ _
  have apk:k1.apart g:=by rw [e0] at ap;exact (Hp.apart_join.1 ap).1
  have hsl:=rowA_sl hA' apk
  have hR2:Holds (g.join k1) (slF r p cap xs :: R):=⟨hsl,Holds.mono (Hp.le_joinL _ _) hr⟩
  exact h a f w Hp.emp (g.join k1) rfl (hs.holds hR2) (Hp.emp_apart _) (fun _ _ e=>by cases e) (Has.join hG (Has.mono hH hk1)) _ _ (fun _ w' _ hM=>by
    obtain ⟨h',g',mm'⟩:=hM
    exact hK w' _ mm'.kept)
theorem zig {T:TypeId} {r:Rp α} {p:Option Addr} {cap:Nat} {zs:List α} (q:Nat) (hq:O[q]? =some (rowA T r p cap zs)) {i:Nat} {t0:Tmp} {xs:List Operand} {ats:Array TypeId} {f:Nat} {vs:List Value} {js:List Nat} {v:Value}
    (hne:Nat.beq i wi=false) (hi:ops[i]? =some ⟨some t0,.call ⟨.value (.func f),xs.toArray,ats⟩,ty,ps,af,gd⟩) (hw:wnt ops m ⟨some t0,.call ⟨.value (.func f),xs.toArray,ats⟩,ty,ps,af,gd⟩=some true) (hd:Nat.ble (t0+1) n.sz=true) (hx:evs m xs vs) (hc:CanEnter P f)
    (h:Con P f vs [] R' (Y:=Unit) (fun _=>True) (fun _=>v) (fun _=>[]) (fun _=>[])) (hs:SelR js (slF r p cap zs :: R) R')
    (kont:RunD P ops Q c n wi k (L.setIfInBounds i true) ((t0,v) :: m) OW O R):RunO P ops Q c n wi k L i m OW O R:=fun hQ hs' hcl hrd a w hw2 hr g fr s1 s2 ap mm=>by
  unfold wpOp
  simp only [hi]
  rw [if_pos (fr.wanted hw)]
  have he:Ef P n ⟨some t0,.call ⟨.value (.func f),xs.toArray,ats⟩,ty,ps,af,gd⟩ m [] R' (Y:=Unit) (fun _=>True) (fun _=>v) (fun _=>[]) (fun _=>[]):=zqc (first:=[]) (cap:=[]) rfl hx hc (by simpa using h)
  have hrle:=Hp.le_joinR ap
  have aph:hr.apart g:=(Hp.apart_join.1 mm.apart).2
  refine .inl<|WpB.wp (borrow_call q hq he hs fr s2 mm.holds aph (Has.mono mm.hasH hrle) mm.hasG (fun w' g2 kp=> ?_))
  have mm2:=mm.stay kp
  exact ⟨⟨Has.mono mm2.hasH hrle,mm2.hasG,fun _=>Has.mono mm2.hasH (Hp.le_joinL _ _)⟩,kont hQ hs' (hcl.step hrd) _ w' hw2 hr g (fr.put (d:=some t0) hd _) s1 s2 ap mm2⟩
end
end Go.Proofs.YtpdbimfnhglhpaaGreat.Sp
namespace Go.Proofs.YtpdbimfnhglhpaaGreat.Big
theorem valL_drop (A:List Int) (k:Nat):valL (A.drop k)=A.getD k 0+1000000000*valL (A.drop (k+1)):=by
  rcases Nat.lt_or_ge k A.length with h|h
  · rw [List.drop_eq_getElem_cons h,List.getD_eq_getElem?_getD,List.getElem?_eq_getElem h];rfl
  · rw [List.drop_eq_nil_of_le h,List.drop_eq_nil_of_le (by omega),List.getD_eq_getElem?_getD,List.getElem?_eq_none h];rfl
theorem valL_cut (A:List Int) (k:Nat) (h:k≤A.length):valL A=valL (A.take k)+pw k*valL (A.drop k):=by
  have h1:=valL_append (A.take k) (A.drop k)
  rw [List.take_append_drop,List.length_take,Nat.min_eq_left h] at h1;exact h1
theorem okL_drop {l:List Int} (h:okL l) (k:Nat):okL (l.drop k):=fun d hd=>h d (List.mem_of_mem_drop hd)
theorem valL_take_lt {l:List Int} (h:okL l) (k:Nat):0≤valL (l.take k)∧valL (l.take k)<pw k:=by
  have h1:=valL_lt (okL_take h k)
  have h2:=valL_nonneg (okL_take h k)
  have h3:=pw_mono (show (l.take k).length≤k by rw [List.length_take];omega)
  omega
theorem pad_set {n:Nat} {qs:List Int} (x:Int):(List.replicate (n+1) 0++qs).set n x=List.replicate n 0++x :: qs:=by
  rw [List.replicate_succ',List.append_assoc,List.set_append_right _ _ (by simp)];simp
structure ShI (A:List Int) (d:Int) (k:Nat) (qs:List Int) (r:Int):Prop where
  le:k≤A.length
  len:qs.length=A.length - k
  ok:okL qs
  r0:0≤r
  r1:r<d
  eq:valL qs*d+r=valL (A.drop k)
theorem ShI.start {A:List Int} {d:Int} (hd:0<d):ShI A d A.length [] 0:=⟨Nat.le_refl _,by simp,okL_nil,Int.le_refl _,hd,by simp [valL]⟩
theorem sh_digit {r d g:Int} (h0:0≤r) (h1:r<d) (hg:0≤g∧g<1000000000):0≤(r*1000000000+g) / d∧(r*1000000000+g) / d<1000000000:=by
  refine ⟨Int.ediv_nonneg (by omega) (by omega),?_⟩
  refine Int.ediv_lt_of_lt_mul (by omega) ?_
  have:(r+1)*1000000000≤d*1000000000:=Int.mul_le_mul_of_nonneg_right (by omega) (by decide)
  rw [Int.mul_comm d] at this;omega
theorem ShI.step {A:List Int} {d:Int} {k:Nat} {qs:List Int} {r:Int} (h:ShI A d (k+1) qs r) (hA:okL A):ShI A d k ((r*1000000000+A.getD k 0) / d :: qs) ((r*1000000000+A.getD k 0)%d):=by
  have hg:=okL_getD hA k
  have h0:=h.r0;have h1:=h.r1;have hle:=h.le
  have hd:0<d:=by omega
  refine ⟨by omega,by simp only [List.length_cons,h.len];omega,okL_cons.2 ⟨sh_digit h0 h1 hg,h.ok⟩,Int.emod_nonneg _ (by omega),Int.emod_lt_of_pos _ hd,?_⟩
  rw [valL_drop,←h.eq]
  have e:=Int.mul_ediv_add_emod (r*1000000000+A.getD k 0) d
  simp only [valL]
  rw [Int.add_mul,Int.mul_comm _ d]
  have e2:1000000000*valL qs*d=1000000000*(valL qs*d):=Int.mul_assoc _ _ _
  omega
theorem ShI.fin {a m:Nat} {qs:List Int} {r:Int} (h:ShI (digs a) (m:Int) 0 qs r):trimL qs=digs (a / m)∧r=((a%m:Nat):Int):=by
  have e:=h.eq;have h0:=h.r0;have h1:=h.r1;have hn:=valL_nonneg h.ok
  rw [List.drop_zero,valL_digs] at e
  have hq:valL qs=((a / m:Nat):Int):=by
    rw [Int.natCast_ediv]
    symm
    have e3:(a:Int)=r+valL qs*(m:Int):=by omega
    rw [e3,Int.add_mul_ediv_right _ _ (by omega),Int.ediv_eq_zero_of_lt h0 h1];omega
  refine ⟨trimL_of h.ok hq,?_⟩
  rw [Int.natCast_emod]
  have e3:(a:Int)=r+valL qs*(m:Int):=by omega
  rw [e3,Int.add_mul_emod_self_right,Int.emod_eq_of_lt h0 h1]
structure LgI (M n:Nat) (a v:Int) (jj:Nat) (u qs:List Int):Prop where
  ul:u.length=M
  uo:okL u
  ql:qs.length=M - n - jj
  qo:okL qs
  jle:jj+n≤M
  eq:valL u+v*pw jj*valL qs=a
  lt:valL u<v*pw jj
structure Gs (T v vt top g r:Int):Prop where
  eq:g*vt+r=top
  r0:0≤r
  g0:0≤g
  up:T<(g+1)*v
structure Tp (T v vt vs u2 u1 u0 w:Int):Prop where
  w1:1≤w
  vt1:1≤vt
  vt2:vt<1000000000
  vs0:0≤vs
  vs1:vs<1000000000
  a0:0≤u0∧u0<1000000000
  a1:0≤u1∧u1<1000000000
  a2:0≤u2∧u2<1000000000
  vlo:(vt*1000000000+vs)*w≤v
  vhi:v<(vt*1000000000+vs+1)*w
  tlo:((u2*1000000000+u1)*1000000000+u0)*w≤T
  thi:T<((u2*1000000000+u1)*1000000000+u0+1)*w
  tv:T<v*1000000000
theorem mul_le_of {a b w:Int} (hw:0≤w) (h:a≤b):a*w≤b*w:=Int.mul_le_mul_of_nonneg_right h hw
theorem lt_of_mul {a b w:Int} (hw:1≤w) (h:a*w<b*w):a<b:=Int.lt_of_mul_lt_mul_right h (by omega)
theorem Tp.top {T v vt vs u2 u1 u0 w:Int} (h:Tp T v vt vs u2 u1 u0 w):u2≤vt:=by
  have h1:=h.tlo;have h2:=h.tv;have h3:=h.vhi;have hw:=h.w1
  have h4:=h.a0;have h5:=h.a1;have h6:=h.vs1
  have h7:((u2*1000000000+u1)*1000000000+u0)*w<((vt*1000000000+vs+1)*1000000000)*w:=by
    have:v*1000000000<(vt*1000000000+vs+1)*w*1000000000:=by omega
    have e:(vt*1000000000+vs+1)*w*1000000000=((vt*1000000000+vs+1)*1000000000)*w:=by rw [Int.mul_assoc,Int.mul_assoc,Int.mul_comm w]
    omega
  have h8:=lt_of_mul hw h7
  omega
theorem Tp.start {T v vt vs u2 u1 u0 w:Int} (h:Tp T v vt vs u2 u1 u0 w):Gs T v vt (u2*1000000000+u1) ((u2*1000000000+u1) / vt) ((u2*1000000000+u1)%vt):=by
  have hv:=h.vt1;have h1:=h.a1;have h2:=h.a2;have hw:=h.w1
  have e:=Int.mul_ediv_add_emod (u2*1000000000+u1) vt
  have hr:=Int.emod_lt_of_pos (u2*1000000000+u1) (show 0<vt by omega)
  have hr0:=Int.emod_nonneg (u2*1000000000+u1) (show vt≠0 by omega)
  have hq0:0≤(u2*1000000000+u1) / vt:=Int.ediv_nonneg (by omega) (by omega)
  generalize (u2*1000000000+u1) / vt=g at*
  generalize (u2*1000000000+u1)%vt=r at*
  refine ⟨by rw [Int.mul_comm];exact e,hr0,hq0,?_⟩
  have ht:=h.thi;have hl:=h.vlo;have h0:=h.a0;have hs:=h.vs0
  have k1:(u2*1000000000+u1)*1000000000+u0+1≤(g+1)*(vt*1000000000+vs):=by
    have k2:(g+1)*(vt*1000000000+vs)=1000000000*(vt*g)+1000000000*vt+(g+1)*vs:=by grind
    have k3:0≤(g+1)*vs:=Int.mul_nonneg (by omega) hs
    omega
  have k4:=mul_le_of (show 0≤w by omega) k1
  have k5:(g+1)*(vt*1000000000+vs)*w≤(g+1)*v:=by rw [Int.mul_assoc];exact Int.mul_le_mul_of_nonneg_left hl (by omega)
  omega
theorem Gs.le {T v vt vs u2 u1 u0 w g r:Int} (h:Tp T v vt vs u2 u1 u0 w) (k:Gs T v vt (u2*1000000000+u1) g r):g≤2000000000∧r≤1000000000000000000:=by
  have h1:=h.top;have h2:=k.eq;have h3:=h.a1;have h4:=h.vt1;have h5:=k.r0;have h6:=k.g0;have h7:=h.vt2
  have h8:0≤g*vt:=Int.mul_nonneg h6 (by omega)
  refine ⟨?_,by omega⟩
  refine Decidable.byContradiction fun hc=> ?_
  have h9:2000000001*vt≤g*vt:=Int.mul_le_mul_of_nonneg_right (by omega) (by omega)
  omega
theorem Gs.step {T v vt vs u2 u1 u0 w g r:Int} (h:Tp T v vt vs u2 u1 u0 w) (k:Gs T v vt (u2*1000000000+u1) g r) (hc:1000000000≤g∨r*1000000000+u0<g*vs):1≤g∧Gs T v vt (u2*1000000000+u1) (g - 1) (r+vt):=by
  have hr:=k.r0;have hg:=k.g0;have he:=k.eq;have hv:=h.vt1;have h0:=h.a0;have hw:=h.w1
  have hg1:1≤g:=by
    rcases hc with hc|hc
    · omega
    · refine Decidable.byContradiction fun hn => ?_
      have:g=0:=by omega
      subst this;simp at hc;omega
  have hvp:0≤v:=by
    have h1:=h.vlo;have h2:=h.vs0
    have:0≤(vt*1000000000+vs)*w:=Int.mul_nonneg (by omega) (by omega)
    omega
  refine ⟨hg1,⟨by rw [Int.sub_mul];omega,by omega,by omega,?_⟩⟩
  rw [show g - 1+1=g by omega]
  rcases hc with hc|hc
  · have h1 := h.tv
    have:1000000000*v≤g*v:=mul_le_of hvp hc
    omega
  · have h1 := h.thi; have h2 := h.vlo
    have k1:(u2*1000000000+u1)*1000000000+u0+1≤g*(vt*1000000000+vs):=by
      have:g*(vt*1000000000+vs)=1000000000*(g*vt)+g*vs:=by grind
      omega
    have k4:=mul_le_of (show 0≤w by omega) k1
    have k5:g*(vt*1000000000+vs)*w≤g*v:=by rw [Int.mul_assoc];exact Int.mul_le_mul_of_nonneg_left h2 (by omega)
    omega
theorem Gs.fin {T v vt vs u2 u1 u0 w g r:Int} (h:Tp T v vt vs u2 u1 u0 w) (k:Gs T v vt (u2*1000000000+u1) g r) (h1:g<1000000000) (h2:g*vs≤r*1000000000+u0):g*v<T+v:=by
  have he:=k.eq;have hg:=k.g0;have hw:=h.w1;have hv:=h.vt1;have hs:=h.vs0
  have k1:g*(vt*1000000000+vs)≤(u2*1000000000+u1)*1000000000+u0:=by
    have:g*(vt*1000000000+vs)=1000000000*(g*vt)+g*vs:=by grind
    omega
  have k2:=mul_le_of (show 0≤w by omega) k1
  have k3:=h.tlo
  have hl:=h.vlo;have hh:=h.vhi
  have k4:g*(v - (vt*1000000000+vs)*w)≤g*w:=Int.mul_le_mul_of_nonneg_left (by rw [Int.add_mul (vt*1000000000+vs),Int.one_mul] at hh;omega) hg
  have k5:g*w≤999999999*w:=mul_le_of (by omega) (by omega)
  have k6:1000000000*w≤(vt*1000000000+vs)*w:=mul_le_of (by omega) (by omega)
  rw [Int.mul_sub,←Int.mul_assoc] at k4
  omega
theorem Gs.broke {T v vt vs u2 u1 u0 w g r:Int} (h:Tp T v vt vs u2 u1 u0 w) (k:Gs T v vt (u2*1000000000+u1) g r) (hb:1000000000≤r):g<1000000000∧g*vs≤r*1000000000+u0:=by
  have h1:=h.top;have he:=k.eq;have h3:=h.a1;have h4:=h.vt1;have hg:=k.g0;have h0:=h.a0
  have hlt:g<1000000000:=by
    refine Decidable.byContradiction fun hc=> ?_
    have:1000000000*vt≤g*vt:=mul_le_of (by omega) (by omega)
    omega
  refine ⟨hlt,?_⟩
  have hs:=h.vs1;have hs0:=h.vs0
  have:g*vs≤999999999*vs:=mul_le_of hs0 (by omega)
  omega
theorem LgI.T {M n:Nat} {a v:Int} {j:Nat} {u qs:List Int} (h:LgI M n a v (j+1) u qs):valL u=valL (u.take j)+pw j*valL (u.drop j)∧0≤valL (u.take j)∧valL (u.take j)<pw j∧0≤valL (u.drop j)∧valL (u.drop j)<v*1000000000:=by
  have h1:=valL_cut u j (by rw [h.ul];have:=h.jle;omega)
  have h2:=valL_take_lt h.uo j
  have h3:=valL_nonneg (okL_drop h.uo j)
  refine ⟨h1,h2.1,h2.2,h3,?_⟩
  have h4:=h.lt
  rw [pw_succ] at h4
  have h5:pw j*valL (u.drop j)<pw j*(v*1000000000):=by
    have:v*(1000000000*pw j)=pw j*(v*1000000000):=by ac_rfl
    omega
  exact Int.lt_of_mul_lt_mul_left h5 (Int.le_of_lt (pw_pos j))
theorem drop_high {l:List Int} (h:okL l) {k:Nat} (hv:valL l<pw k):valL (l.drop k)=0:=by
  rcases Nat.lt_or_ge l.length k with hk|hk
  · rw [List.drop_eq_nil_of_le (by omega)];rfl
  · have h1 := valL_cut l k hk
    have h2:=valL_nonneg (okL_take h k)
    have h3:=valL_nonneg (okL_drop h k)
    refine Decidable.byContradiction fun hc=> ?_
    have:pw k*1≤pw k*valL (l.drop k):=Int.mul_le_mul_of_nonneg_left (by omega) (Int.le_of_lt (pw_pos k))
    omega
theorem getD_drop' (l:List Int) (i k:Nat):(l.drop i).getD k 0=l.getD (i+k) 0:=by simp [List.getD_eq_getElem?_getD]
theorem digs_top {b:Nat} {n:Nat} (h:(digs b).length=n+1):1≤(digs b).getD n 0:=by
  have h1:=canon_digs (b:Int)
  unfold canon at h1
  rw [Int.natAbs_natCast,if_neg (by omega),h,Nat.add_sub_cancel] at h1
  have h2:=okL_getD (digs_ok b) n
  omega
theorem LgI.high {M n:Nat} {a:Int} {b j:Nat} {u qs:List Int} (h:LgI M n a (b:Int) (j+1) u qs) (hn:(digs b).length=n):valL (u.drop (j+(n+1)))=0:=by
  have ht:=h.T
  have hb:=digs_lt b
  rw [hn] at hb
  have:=drop_high (okL_drop h.uo j) (k:=n+1) (by rw [pw_succ];omega)
  rw [List.drop_drop] at this;exact this
theorem LgI.tp {M m:Nat} {a:Int} {b j:Nat} {u qs:List Int} (h:LgI M (m+2) a (b:Int) (j+1) u qs) (hn:(digs b).length=m+2):Tp (valL (u.drop j)) b ((digs b).getD (m+1) 0) ((digs b).getD m 0) (u.getD (j+(m+2)) 0) (u.getD (j+(m+1)) 0) (u.getD (j+m) 0) (pw m):=by
  have ht:=h.T
  have hh:=h.high hn
  have hvb:=valL_digs b
  have e1:valL (digs b)=valL ((digs b).take m)+pw m*valL ((digs b).drop m):=valL_cut _ _ (by omega)
  have e2:valL ((digs b).drop m)=(digs b).getD m 0+1000000000*(digs b).getD (m+1) 0:=by
    rw [valL_drop,valL_drop,List.drop_eq_nil_of_le (show (digs b).length≤m+1+1 by omega)];simp [valL]
  have e3:=valL_take_lt (digs_ok b) m
  have f1:valL (u.drop j)=valL ((u.drop j).take m)+pw m*valL ((u.drop j).drop m):=valL_cut _ _ (by rw [List.length_drop,h.ul];have:=h.jle;omega)
  have f2:valL ((u.drop j).drop m)=u.getD (j+m) 0+1000000000*(u.getD (j+(m+1)) 0+1000000000*u.getD (j+(m+2)) 0):=by
    rw [List.drop_drop,valL_drop,valL_drop,valL_drop,show j+m+1+1+1=j+(m+2+1) by omega,hh,show j+m+1=j+(m+1) by omega,show j+(m+1)+1=j+(m+2) by omega];omega
  have f3:=valL_take_lt (okL_drop h.uo j) m
  have hp:=pw_pos m
  have ob:=digs_ok b
  have g1:=okL_getD ob (m+1);have g0:=okL_getD ob m
  have c0:=okL_getD h.uo (j+m);have c1:=okL_getD h.uo (j+(m+1));have c2:=okL_getD h.uo (j+(m+2))
  refine ⟨by omega,digs_top (n:=m+1) hn,g1.2,g0.1,g0.2,c0,c1,c2,?_,?_,?_,?_,ht.2.2.2.2⟩
  · rw [← hvb, e1, e2]
    have:(digs b).getD (m+1) 0*1000000000+(digs b).getD m 0=(digs b).getD m 0+1000000000*(digs b).getD (m+1) 0:=by omega
    rw [this,Int.mul_comm];omega
  · rw [← hvb, e1, e2]
    have:(digs b).getD (m+1) 0*1000000000+(digs b).getD m 0+1=((digs b).getD m 0+1000000000*(digs b).getD (m+1) 0)+1:=by omega
    rw [this,Int.add_mul,Int.mul_comm _ (pw m)];omega
  · rw [f1, f2]
    have:(u.getD (j+(m+2)) 0*1000000000+u.getD (j+(m+1)) 0)*1000000000+u.getD (j+m) 0=u.getD (j+m) 0+1000000000*(u.getD (j+(m+1)) 0+1000000000*u.getD (j+(m+2)) 0):=by omega
    rw [this,Int.mul_comm];omega
  · rw [f1, f2]
    have:(u.getD (j+(m+2)) 0*1000000000+u.getD (j+(m+1)) 0)*1000000000+u.getD (j+m) 0+1=(u.getD (j+m) 0+1000000000*(u.getD (j+(m+1)) 0+1000000000*u.getD (j+(m+2)) 0))+1:=by omega
    rw [this,Int.add_mul,Int.mul_comm _ (pw m)];omega
structure MsI (u:List Int) (j:Nat) (g:Int) (v:List Int) (i:Nat) (u2:List Int) (bo ca:Int):Prop where
  len:u2.length=u.length
  ok:okL u2
  b0:0≤bo
  b1:bo≤1
  c0:0≤ca
  c1:ca<1000000000
  far:∀k,j+i≤k→u2.getD k 0=u.getD k 0
  eq:valL u2=valL u - pw j*(g*valL (v.take i))+pw (j+i)*(bo+ca)
theorem MsI.start {u:List Int} (h:okL u) (j:Nat) (g:Int) (v:List Int):MsI u j g v 0 u 0 0:=⟨rfl,h,by decide,by decide,by decide,by decide,fun _ _=>rfl,by simp [valL]⟩
theorem ms_carry {g x ca:Int} (hg:0≤g∧g<1000000000) (hx:0≤x∧x<1000000000) (hc:0≤ca∧ca<1000000000):0≤g*x+ca∧g*x+ca≤999999999000000000∧0≤(g*x+ca) / 1000000000∧(g*x+ca) / 1000000000<1000000000:=by
  have h1:0≤g*x:=Int.mul_nonneg hg.1 hx.1
  have h2:g*x≤999999999*x:=mul_le_of hx.1 (by omega)
  omega
theorem MsI.step {u:List Int} {j:Nat} {g:Int} {v:List Int} {i:Nat} {u2:List Int} {bo ca y bo2:Int} (h:MsI u j g v i u2 bo ca) (hg:0≤g∧g<1000000000) (hv:okL v) (hj:j+i<u.length)
    (hy:y=u2.getD (j+i) 0 - bo - (g*v.getD i 0+ca)%1000000000+1000000000*bo2) (hy0:0≤y∧y<1000000000) (hb:0≤bo2∧bo2≤1):MsI u j g v (i+1) (u2.set (j+i) y) bo2 ((g*v.getD i 0+ca) / 1000000000):=by
  have hc:=ms_carry hg (okL_getD hv i) ⟨h.c0,h.c1⟩
  refine ⟨by rw [List.length_set];exact h.len,okL_set h.ok hy0.1 hy0.2,hb.1,hb.2,hc.2.2.1,hc.2.2.2,fun k hk=>by rw [getD_set_ne (by omega)];exact h.far k (by omega),?_⟩
  rw [valL_set y (by rw [h.len];exact hj),h.eq,valL_take_succ,hy]
  have e:=Int.mul_ediv_add_emod (g*v.getD i 0+ca) 1000000000
  rw [← Nat.add_assoc,pw_succ,pw_add]
  generalize (g*v.getD i 0+ca) / 1000000000=q at*
  generalize (g*v.getD i 0+ca)%1000000000=r at*
  have e2:r=g*v.getD i 0+ca - 1000000000*q:=by omega
  subst e2
  grind
structure AbI (u:List Int) (j:Nat) (v:List Int) (i:Nat) (u2:List Int) (ca:Int):Prop where
  len:u2.length=u.length
  ok:okL u2
  c0:0≤ca
  c1:ca≤1
  far:∀k,j+i≤k→u2.getD k 0=u.getD k 0
  eq:valL u2=valL u+pw j*valL (v.take i) - pw (j+i)*ca
theorem AbI.start {u:List Int} (h:okL u) (j:Nat) (v:List Int):AbI u j v 0 u 0:=⟨rfl,h,by decide,by decide,fun _ _=>rfl,by simp [valL]⟩
theorem AbI.step {u:List Int} {j:Nat} {v:List Int} {i:Nat} {u2:List Int} {ca y c2:Int} (h:AbI u j v i u2 ca) (hj:j+i<u.length)
    (hy:y=u2.getD (j+i) 0+v.getD i 0+ca - 1000000000*c2) (hy0:0≤y∧y<1000000000) (hb:0≤c2∧c2≤1):AbI u j v (i+1) (u2.set (j+i) y) c2:=by
  refine ⟨by rw [List.length_set];exact h.len,okL_set h.ok hy0.1 hy0.2,hb.1,hb.2,fun k hk=>by rw [getD_set_ne (by omega)];exact h.far k (by omega),?_⟩
  rw [valL_set y (by rw [h.len];exact hj),h.eq,valL_take_succ,hy]
  rw [← Nat.add_assoc,pw_succ,pw_add]
  grind
theorem LgI.next {M n:Nat} {a v:Int} {j:Nat} {u qs:List Int} (h:LgI M n a v (j+1) u qs) {u':List Int} {g:Int} (hl:u'.length=M) (ho:okL u') (hg:0≤g∧g<1000000000) (he:valL u'=valL u - pw j*(g*v)) (hlt:valL u'<v*pw j):LgI M n a v j u' (g :: qs):=by
  have hj:=h.jle
  refine ⟨hl,ho,by rw [List.length_cons,h.ql];omega,okL_cons.2 ⟨hg,h.qo⟩,by omega,?_,hlt⟩
  rw [he,←h.eq,pw_succ]
  simp only [valL]
  grind
theorem LgI.bound {M n:Nat} {a v:Int} {j:Nat} {u qs:List Int} (h:LgI M n a v (j+1) u qs) {g:Int} (hup:valL (u.drop j)<(g+1)*v):valL u<pw j*((g+1)*v):=by
  obtain ⟨h1,h2,h3,h4,_⟩:=h.T
  have:pw j*(valL (u.drop j)+1)≤pw j*((g+1)*v):=Int.mul_le_mul_of_nonneg_left (by omega) (Int.le_of_lt (pw_pos j))
  rw [Int.mul_add,Int.mul_one] at this;omega
theorem LgI.low {M n:Nat} {a v:Int} {j:Nat} {u qs:List Int} (h:LgI M n a v (j+1) u qs) {g:Int} (hdn:g*v<valL (u.drop j)+v):pw j*(g*v)<valL u+pw j*v:=by
  obtain ⟨h1,h2,h3,h4,_⟩:=h.T
  have:pw j*(g*v+1)≤pw j*(valL (u.drop j)+v):=Int.mul_le_mul_of_nonneg_left (by omega) (Int.le_of_lt (pw_pos j))
  rw [Int.mul_add,Int.mul_add,Int.mul_one] at this
  have:=pw_pos j;omega
theorem at_split {u:List Int} {k:Nat} (hk:k<u.length) (h0:valL (u.drop (k+1))=0):valL u=valL (u.take k)+pw k*u.getD k 0:=by
  rw [valL_cut u k (by omega),valL_drop u k,h0];simp
theorem drop_far {u u2:List Int} {k:Nat} (hl:u2.length=u.length) (h:∀i,k≤i→u2.getD i 0=u.getD i 0):u2.drop k=u.drop k:=
  ext_getD (by simp [hl]) (fun i hi=>by rw [getD_drop',getD_drop'];exact h _ (by omega))
theorem LgI.pos {M n:Nat} {a:Int} {b j:Nat} {u qs:List Int} (h:LgI M n a (b:Int) (j+1) u qs) {g:Int} (hg:0≤g∧g<1000000000) (hup:valL (u.drop j)<(g+1)*(b:Int))
    {u2:List Int} {bo ca:Int} (hm:MsI u j g (digs b) n u2 bo ca) (hn:(digs b).length=n) (hd:0≤u2.getD (j+n) 0 - bo - ca):LgI M n a (b:Int) j (u2.set (j+n) (u2.getD (j+n) 0 - bo - ca)) (g :: qs):=by
  have hj:=h.jle
  have hx:=okL_getD hm.ok (j+n)
  have h1:=hm.b0;have h2:=hm.c0
  have he:valL (u2.set (j+n) (u2.getD (j+n) 0 - bo - ca))=valL u - pw j*(g*(b:Int)):=by
    rw [valL_set _ (by rw [hm.len,h.ul];omega),hm.eq,List.take_of_length_le (by omega),valL_digs]
    grind
  refine h.next (by rw [List.length_set,hm.len,h.ul]) (okL_set hm.ok hd (by omega)) hg he ?_
  have:=h.bound hup
  rw [he]
  have e:pw j*((g+1)*(b:Int))=pw j*(g*(b:Int))+(b:Int)*pw j:=by grind
  omega
theorem LgI.neg1 {M n:Nat} {a:Int} {b j:Nat} {u qs:List Int} (h:LgI M n a (b:Int) (j+1) u qs) {g:Int}
    {u2:List Int} {bo ca:Int} (hm:MsI u j g (digs b) n u2 bo ca) (hn:(digs b).length=n) (hd:u2.getD (j+n) 0 - bo - ca<0):g≠0:=fun hg=>by
  subst hg
  have hj:=h.jle
  have hlen2:j+n<u2.length:=by rw [hm.len,h.ul];omega
  have hhi2:valL (u2.drop (j+n+1))=0:=by rw [drop_far hm.len (fun i hi=>hm.far i (by omega))];exact h.high hn
  have s2:=at_split hlen2 hhi2
  have t2:=valL_take_lt hm.ok (j+n)
  have hp:=pw_pos (j+n)
  have e:=hm.eq
  have:pw (j+n)*(u2.getD (j+n) 0 - bo - ca)≤pw (j+n)*(-1):=Int.mul_le_mul_of_nonneg_left (by omega) (Int.le_of_lt hp)
  rw [Int.mul_sub,Int.mul_sub] at this
  rw [Int.mul_add,Int.zero_mul,Int.mul_zero] at e
  have:=valL_nonneg h.uo
  omega
theorem LgI.neg {M n:Nat} {a:Int} {b j:Nat} {u qs:List Int} (h:LgI M n a (b:Int) (j+1) u qs) {g:Int} (hg:0≤g∧g<1000000000) (hdn:g*(b:Int)<valL (u.drop j)+(b:Int)) (hup:valL (u.drop j)<(g+1)*(b:Int))
    {u2:List Int} {bo ca:Int} (hm:MsI u j g (digs b) n u2 bo ca) (hn:(digs b).length=n) (hd:u2.getD (j+n) 0 - bo - ca<0)
    {u4:List Int} {c:Int} (hb:AbI (u2.set (j+n) (u2.getD (j+n) 0 - bo - ca+1000000000)) j (digs b) n u4 c):1≤g∧LgI M n a (b:Int) j (u4.set (j+n) ((u4.getD (j+n) 0+c)%1000000000)) ((g - 1) :: qs):=by
  have hj:=h.jle
  have hx:=okL_getD hm.ok (j+n)
  have hy:=okL_getD hb.ok (j+n)
  have h1:=hm.b0;have h2:=hm.c0;have h3:=hm.b1;have h4:=hm.c1;have c0:=hb.c0;have c1:=hb.c1
  have hlen2:j+n<u2.length:=by rw [hm.len,h.ul];omega
  have hlen4:j+n<u4.length:=by rw [hb.len,List.length_set];exact hlen2
  have hhi:=h.high hn
  have hhi2:valL (u2.drop (j+n+1))=0:=by rw [drop_far hm.len (fun i hi=>hm.far i (by omega))];exact hhi
  have s2:=at_split hlen2 hhi2
  have t2:=valL_take_lt hm.ok (j+n)
  have hp:=pw_pos (j+n)
  -- what the subtraction left is below 0
  have hS:valL u - pw j*(g*(b:Int))<0:=by
    have e:=hm.eq
    rw [List.take_of_length_le (by omega),valL_digs] at e
    have:pw (j+n)*(u2.getD (j+n) 0 - bo - ca)≤pw (j+n)*(-1):=Int.mul_le_mul_of_nonneg_left (by omega) (Int.le_of_lt hp)
    rw [Int.mul_sub,Int.mul_sub] at this
    rw [Int.mul_add] at e
    omega
  have hlow:=h.low hdn
  have hg1:1≤g:=by
    refine Decidable.byContradiction fun hc=> ?_
    have:g=0:=by omega
    subst this
    have:=valL_nonneg h.uo
    simp at hS;omega
  refine ⟨hg1,?_⟩
  have e4:=hb.eq
  rw [List.take_of_length_le (by omega),valL_digs,valL_set _ hlen2] at e4
  have e2:=hm.eq
  rw [List.take_of_length_le (by omega),valL_digs] at e2
  have hhi4:valL (u4.drop (j+n+1))=0:=by
    rw [drop_far (u:=u2.set (j+n) (u2.getD (j+n) 0 - bo - ca+1000000000)) hb.len (fun i hi=>hb.far i (by omega)),drop_far (u:=u2) (by simp) (fun i hi=>getD_set_ne (by omega) _)];exact hhi2
  have s4:=at_split hlen4 hhi4
  have t4:=valL_take_lt hb.ok (j+n)
  have hk:=Int.mul_ediv_add_emod (u4.getD (j+n) 0+c) 1000000000
  have hk0:=Int.emod_nonneg (u4.getD (j+n) 0+c) (show (1000000000:Int)≠0 by decide)
  have hk1:=Int.emod_lt_of_pos (u4.getD (j+n) 0+c) (show (0:Int)<1000000000 by decide)
  have hset:valL (u4.set (j+n) ((u4.getD (j+n) 0+c)%1000000000))=valL u4+pw (j+n)*((u4.getD (j+n) 0+c)%1000000000 - u4.getD (j+n) 0):=valL_set _ hlen4
  have hbig:(b:Int)<pw n:=by rw [← hn];exact digs_lt b
  have hbw:pw j*(b:Int)<pw (j+n):=by rw [pw_add];exact Int.mul_lt_mul_of_pos_left hbig (pw_pos j)
  -- the last group overflows
  have hco:(u4.getD (j+n) 0+c) / 1000000000=1:=by
    have hq:(u4.getD (j+n) 0+c) / 1000000000=0∨(u4.getD (j+n) 0+c) / 1000000000=1:=by omega
    rcases hq with hq|hq
    · exfalso
      have hy2:u4.getD (j+n) 0+c≤999999999:=by omega
      have m1:pw (j+n)*(u4.getD (j+n) 0+c)≤pw (j+n)*999999999:=Int.mul_le_mul_of_nonneg_left hy2 (Int.le_of_lt hp)
      rw [Int.mul_add] at m1
      have m2:pw (j+n)*(u2.getD (j+n) 0 - bo - ca+1000000000 - u2.getD (j+n) 0)=pw (j+n)*1000000000 - pw (j+n)*(bo+ca):=by grind
      rw [m2] at e4
      omega
    · exact hq
  have he:valL (u4.set (j+n) ((u4.getD (j+n) 0+c)%1000000000))=valL u - pw j*((g - 1)*(b:Int)):=by
    rw [hset,e4,e2]
    have hr:(u4.getD (j+n) 0+c)%1000000000=u4.getD (j+n) 0+c - 1000000000:=by omega
    rw [hr]
    grind
  refine h.next (by rw [List.length_set,hb.len,List.length_set,hm.len,h.ul]) (okL_set hb.ok hk0 hk1) ⟨by omega,by omega⟩ he ?_
  rw [he]
  have e:pw j*((g - 1)*(b:Int))=pw j*(g*(b:Int)) - (b:Int)*pw j:=by grind
  omega
theorem LgI.start {M n a b:Nat} {u:List Int} (ho:okL u) (hl:u.length=M) (hv:valL u=(a:Int)) (hn:(digs b).length=n) (hM:n+1≤M) (hu:valL u<pw (M - 1)) (h1:1≤n):LgI M n (a:Int) (b:Int) (M - n) u []:=by
  refine ⟨hl,ho,by simp,okL_nil,by omega,by rw [hv];simp [valL],?_⟩
  have h2:pw (n - 1)≤(b:Int):=digs_low (by omega)
  have h3:pw (M - 1)=pw (n - 1)*pw (M - n):=by rw [← pw_add];congr 1;omega
  have h4:pw (n - 1)*pw (M - n)≤(b:Int)*pw (M - n):=mul_le_of (Int.le_of_lt (pw_pos _)) h2
  omega
theorem LgI.fin {M n a b:Nat} {u qs:List Int} (h:LgI M n (a:Int) (b:Int) 0 u qs) (hn:(digs b).length=n):trimL qs=digs (a / b)∧trimL (u.take n)=digs (a%b):=by
  have e:=h.eq;have hlt:=h.lt
  rw [pw_zero,Int.mul_one] at e hlt
  have h0:=valL_nonneg h.uo;have hq0:=valL_nonneg h.qo
  have hu:valL u=((a%b:Nat):Int):=by
    rw [Int.natCast_emod,←e,Int.add_mul_emod_self_left,Int.emod_eq_of_lt h0 hlt]
  have hq:valL qs=((a / b:Nat):Int):=by
    rw [Int.natCast_ediv,←e,Int.add_mul_ediv_left _ _ (by omega),Int.ediv_eq_zero_of_lt h0 hlt];omega
  refine ⟨trimL_of h.qo hq,trimL_of (okL_take h.uo n) ?_⟩
  have h1:=h.jle
  have hc:=valL_cut u n (by rw [h.ul];omega)
  have hz:valL (u.drop n)=0:=drop_high h.uo (by have:=digs_lt b;rw [hn] at this;omega)
  rw [hz,Int.mul_zero,Int.add_zero] at hc
  rw [← hc,hu]
end Go.Proofs.YtpdbimfnhglhpaaGreat.Big
namespace Go.Proofs.YtpdbimfnhglhpaaGreat.Big
def fq (x y:Int):Int:=if 0<y then x / y else (-x) / (-y)
def fr (x y:Int):Int:=x - y*fq x y
theorem ediv_of {x y q r:Int} (h:x=y*q+r) (h0:0≤r) (h1:r<y):x / y=q:=by
  rw [h,Int.add_comm,Int.add_mul_ediv_left _ _ (by omega),Int.ediv_eq_zero_of_lt h0 h1];omega
theorem fq_of {x y q r:Int} (h:x=y*q+r) (hr:(0<y∧0≤r∧r<y)∨(y<0∧y<r∧r≤0)):fq x y=q∧fr x y=r:=by
  have e:fq x y=q:=by
    unfold fq
    rcases hr with ⟨h1,h2,h3⟩|⟨h1,h2,h3⟩
    · rw [if_pos h1];exact ediv_of h h2 h3
    · rw [if_neg (by omega)]
      exact ediv_of (r:= -r) (by rw [h,Int.neg_mul];omega) (by omega) (by omega)
  refine ⟨e,?_⟩
  unfold fr;rw [e];omega
theorem abs_split (x y:Int):(x.natAbs:Int)=(y.natAbs:Int)*((x.natAbs / y.natAbs:Nat):Int)+((x.natAbs%y.natAbs:Nat):Int):=by
  rw [← Int.natCast_mul,←Int.natCast_add,Nat.div_add_mod]
theorem sg_t (n:Int):sg true n= -n:=rfl
theorem sg_f (n:Int):sg false n=n:=rfl
theorem fq_same {x y:Int} (hy:y≠0) (h:decide (x<0)=decide (y<0)):sg false ((x.natAbs / y.natAbs:Nat):Int)=fq x y∧sg (decide (y<0)) ((x.natAbs%y.natAbs:Nat):Int)=fr x y:=by
  have e:=abs_split x y
  have hlt:=Nat.mod_lt x.natAbs (show 0<y.natAbs by omega)
  generalize x.natAbs / y.natAbs=q at*
  generalize x.natAbs%y.natAbs=r at*
  rw [sg_f]
  by_cases hy0:y<0
  · have hx : x < 0 := by simpa [hy0] using h
    rw [decide_eq_true hy0,sg_t]
    have:=fq_of (x:=x) (y:=y) (q:=(q:Int)) (r:= -(r:Int)) (by
      have h1:(y.natAbs:Int)= -y:=by omega
      rw [h1,Int.neg_mul] at e;omega) (.inr (by omega))
    exact ⟨this.1.symm,this.2.symm⟩
  · have hx : ¬ x < 0 := by simpa [hy0] using h
    rw [decide_eq_false hy0,sg_f]
    have:=fq_of (x:=x) (y:=y) (q:=(q:Int)) (r:=(r:Int)) (by
      have h1:(y.natAbs:Int)=y:=by omega
      rw [h1] at e;omega) (.inl (by omega))
    exact ⟨this.1.symm,this.2.symm⟩
theorem fq_even {x y:Int} (hy:y≠0) (h:¬decide (x<0)=decide (y<0)) (hr:x.natAbs%y.natAbs=0):sg true ((x.natAbs / y.natAbs:Nat):Int)=fq x y∧sg (decide (y<0)) ((x.natAbs%y.natAbs:Nat):Int)=fr x y:=by
  have e:=abs_split x y
  rw [hr] at e ⊢
  generalize x.natAbs / y.natAbs=q at*
  rw [sg_t,show sg (decide (y<0)) ((0:Nat):Int)=0 from sg_zero _]
  have hs:x=y*(-(q:Int))+0:=by
    rw [Int.mul_neg]
    by_cases hy0:y<0
    · have hx : ¬ x < 0 := by simpa [hy0] using h
      have h1:(y.natAbs:Int)= -y:=by omega
      rw [h1,Int.neg_mul] at e;omega
    · have hx : x < 0 := by simpa [hy0] using h
      have h1:(y.natAbs:Int)=y:=by omega
      rw [h1] at e;omega
  have:=fq_of hs (by omega)
  exact ⟨this.1.symm,this.2.symm⟩
theorem fq_odd {x y:Int} (hy:y≠0) (h:¬decide (x<0)=decide (y<0)) (hr:x.natAbs%y.natAbs≠0):sg true ((x.natAbs / y.natAbs+1:Nat):Int)=fq x y∧sg (decide (y<0)) ((y.natAbs - x.natAbs%y.natAbs:Nat):Int)=fr x y:=by
  have e:=abs_split x y
  have hlt:=Nat.mod_lt x.natAbs (show 0<y.natAbs by omega)
  generalize x.natAbs / y.natAbs=q at*
  generalize x.natAbs%y.natAbs=r at*
  rw [sg_t]
  by_cases hy0:y<0
  · have hx : ¬ x < 0 := by simpa [hy0] using h
    rw [decide_eq_true hy0,sg_t]
    have:=fq_of (x:=x) (y:=y) (q:= -((q+1:Nat):Int)) (r:= -((y.natAbs - r:Nat):Int)) (by
      have h1:(y.natAbs:Int)= -y:=by omega
      rw [h1,Int.neg_mul] at e
      rw [Int.mul_neg,Int.natCast_add,Int.mul_add];omega) (.inr (by omega))
    exact ⟨this.1.symm,this.2.symm⟩
  · have hx : x < 0 := by simpa [hy0] using h
    rw [decide_eq_false hy0,sg_f]
    have:=fq_of (x:=x) (y:=y) (q:= -((q+1:Nat):Int)) (r:=((y.natAbs - r:Nat):Int)) (by
      have h1:(y.natAbs:Int)=y:=by omega
      rw [h1] at e
      rw [Int.mul_neg,Int.natCast_add,Int.mul_add];omega) (.inl (by omega))
    exact ⟨this.1.symm,this.2.symm⟩
theorem fr_nonneg {x y:Int} (h:0<y):fq x y=x / y∧fr x y=x%y:=by
  have e:fq x y=x / y:=by unfold fq;rw [if_pos h]
  refine ⟨e,?_⟩
  unfold fr;rw [e]
  have:=Int.mul_ediv_add_emod x y;omega
theorem gcd_rest {a b:Nat}:Nat.gcd b (a%b)=Nat.gcd a b:=by rw [Nat.gcd_comm b,←Nat.gcd_rec,Nat.gcd_comm]
theorem ln_mono' {a b:Nat} (h:a≤b):(digs a).length≤(digs b).length:=by
  refine digs_len ?_
  have:=digs_lt b;omega
theorem len_mul_ge {a s:Nat} (h:1≤s):(digs a).length≤(digs (a*s)).length:=ln_mono' (Nat.le_mul_of_pos_right a h)
theorem len_mul_le (a s:Nat):(digs (a*s)).length≤(digs a).length+(digs s).length:=by
  refine digs_len ?_
  rw [Int.natCast_mul,pw_add]
  have h1:(a:Int)*s≤pw (digs a).length*s:=Int.mul_le_mul_of_nonneg_right (Int.le_of_lt (digs_lt a)) (by omega)
  have h2:pw (digs a).length*(s:Int)<pw (digs a).length*pw (digs s).length:=Int.mul_lt_mul_of_pos_left (digs_lt s) (pw_pos _)
  omega
theorem scale_len {b n:Nat} (hn:(digs b).length=n+1) {s:Nat} (hs:s=(1000000000 / ((digs b).getD n 0+1)).toNat):1≤s∧s≤500000000∧(digs (b*s)).length=n+1:=by
  have ht:=digs_top hn
  have ho:=okL_getD (digs_ok b) n
  have h1:1≤1000000000 / ((digs b).getD n 0+1):=by
    refine Int.le_ediv_of_mul_le (by omega) (by omega)
  have h2:1000000000 / ((digs b).getD n 0+1)≤500000000:=by
    refine Int.ediv_le_of_le_mul (by omega) (by omega)
  have hs1:(s:Int)=1000000000 / ((digs b).getD n 0+1):=by rw [hs];exact Int.toNat_of_nonneg (by omega)
  refine ⟨by omega,by omega,?_⟩
  have hge:=len_mul_ge (a:=b) (s:=s) (by omega)
  have hle:(digs (b*s)).length≤n+1:=by
    refine digs_len ?_
    have hv:=valL_digs b
    have hc:=valL_cut (digs b) n (by omega)
    have hd:valL ((digs b).drop n)=(digs b).getD n 0:=by rw [valL_drop,List.drop_eq_nil_of_le (by omega)];simp [valL]
    have hl:=valL_take_lt (digs_ok b) n
    rw [hd] at hc
    have hp:=pw_pos n
    have hb:(b:Int)<((digs b).getD n 0+1)*pw n:=by rw [Int.add_mul,Int.mul_comm _ (pw n)];omega
    have hm:((digs b).getD n 0+1)*(s:Int)≤1000000000:=by rw [hs1];exact Int.mul_ediv_self_le (by omega)
    rw [Int.natCast_mul,pw_succ]
    have h3:(b:Int)*s<((digs b).getD n 0+1)*pw n*s:=Int.mul_lt_mul_of_pos_right hb (by omega)
    have h4:((digs b).getD n 0+1)*pw n*s=((digs b).getD n 0+1)*s*pw n:=by ac_rfl
    have h5:((digs b).getD n 0+1)*(s:Int)*pw n≤1000000000*pw n:=mul_le_of (Int.le_of_lt hp) hm
    omega
  omega
theorem scale_div {a b s:Nat} (hs:1≤s):a*s / (b*s)=a / b∧a*s%(b*s) / s=a%b:=by
  refine ⟨Nat.mul_div_mul_right a b (by omega),?_⟩
  rw [Nat.mul_mod_mul_right,Nat.mul_div_cancel _ (by omega)]
theorem digs_one {s:Nat} (h1:1≤s) (h2:s<1000000000):digs s=[(s:Int)]:=by
  rw [digs_pos (by omega),Nat.mod_eq_of_lt h2,Nat.div_eq_of_lt h2,digs_zero]
theorem mul_lim3 {g x:Int} (h0:0≤g) (h1:g≤2000000000) (h2:0≤x) (h3:x<1000000000):0≤g*x∧g*x≤2000000000000000000:=by
  have a:=Int.mul_nonneg h0 h2
  have b:g*x≤2000000000*x:=mul_le_of h2 h1
  omega
theorem one_digit {b:Nat} (h:(digs b).length=1):(digs b).getD 0 0=(b:Int):=by
  have h1:=valL_cut (digs b) 0 (Nat.zero_le _)
  have h2:=valL_drop (digs b) 0
  rw [List.drop_eq_nil_of_le (show (digs b).length≤0+1 by omega)] at h2
  rw [valL_digs,h2] at h1
  simp [valL,pw_zero] at h1;exact h1.symm
theorem zAf {b:Nat} (h:0<b):1≤(digs b).length:=by
  refine Nat.pos_of_ne_zero fun e=> ?_
  have:=len_digs_nil.1 e;omega
theorem two_lt {a:Nat} (h:(digs a).length≤2):a<1000000000000000000:=by
  have h1:=digs_lt a
  have h2:=pw_mono h
  have:pw 2=1000000000000000000:=by decide
  omega
theorem word_step {A:List Int} (k:Nat):valL (A.drop (k+1))*1000000000+A.getD k 0=valL (A.drop k):=by rw [valL_drop A k];omega
theorem word_keep {a k:Nat} {z:Int} (h:k+1≤(digs a).length) (hz:z=valL ((digs a).drop (k+1))):(z*1000000000+(digs a).getD k 0)*pw k≤(a:Int):=by
  have h1:=valL_cut (digs a) k (by omega)
  rw [valL_digs,valL_drop,←hz] at h1
  have h2:=valL_take_lt (digs_ok a) k
  have:(z*1000000000+(digs a).getD k 0)*pw k=pw k*((digs a).getD k 0+1000000000*z):=by grind
  omega
theorem word_lim {a k:Nat} {z:Int} (hl:(digs a).length≤2) (h:k+1≤(digs a).length) (h0:0≤z) (hp:z*pw (k+1)≤(a:Int)):z<1000000000:=by
  have h1:=two_lt hl
  have h2:=pw_mono (show 1≤k+1 by omega)
  have h3:pw 1=1000000000:=by decide
  refine Decidable.byContradiction fun hc=> ?_
  have h4:1000000000*pw (k+1)≤z*pw (k+1):=mul_le_of (Int.le_of_lt (pw_pos _)) (by omega)
  omega
theorem cmp_b (x y:Int): -1≤cmp x y∧cmp x y≤1:=by unfold cmp;split <;> (try split) <;> decide
theorem cmp_of {x y u v:Int} (h1:x<y↔u<v) (h2:y<x↔v<u):cmp x y=cmp u v:=by
  unfold cmp;simp only [h1,h2]
theorem cmp_flip (x y:Int): - cmp x y=cmp y x:=by
  unfold cmp
  by_cases h1:x<y
  · rw [if_pos h1,if_neg (by omega),if_pos h1];rfl
  · by_cases h2 : y < x
    · rw [if_neg h1,if_pos h2,if_pos h2]
    · rw [if_neg h1,if_neg h2,if_neg h2,if_neg h1];rfl
theorem sign_le {x:Int}:(x<0∧x.sign= -1)∨(x=0∧x.sign=0)∨(0<x∧x.sign=1):=by
  rcases Int.lt_trichotomy x 0 with h|h|h
  · exact .inl ⟨h,Int.sign_eq_neg_one_of_neg h⟩
  · exact .inr (.inl ⟨h,by rw [h];rfl⟩)
  · exact .inr (.inr ⟨h,Int.sign_eq_one_of_pos h⟩)
theorem cmp_signs {x y:Int} (h:x.sign≠y.sign):cmp x y=cmp x.sign y.sign:=by
  have h1:=sign_le (x:=x);have h2:=sign_le (x:=y)
  exact cmp_of (by omega) (by omega)
theorem cmp_neg {x y:Int} (h:¬x.sign≠y.sign) (hx:x<0):cmp x y= - cmp (x.natAbs:Int) (y.natAbs:Int):=by
  have h1:=sign_le (x:=x);have h2:=sign_le (x:=y)
  rw [cmp_flip];exact cmp_of (by omega) (by omega)
theorem cmp_pos {x y:Int} (h:¬x.sign≠y.sign) (hx:¬x<0):cmp x y=cmp (x.natAbs:Int) (y.natAbs:Int):=by
  have h1:=sign_le (x:=x);have h2:=sign_le (x:=y)
  exact cmp_of (by omega) (by omega)
end Go.Proofs.YtpdbimfnhglhpaaGreat.Big
namespace Go.Proofs.YtpdbimfnhglhpaaGreat.Big
structure ScI (A:List Int) (d:Int) (i:Nat) (os:List Int) (cy:Int):Prop where
  le:i≤A.length
  len:os.length=i
  ok:okL os
  c0:0≤cy
  c1:cy<1000000000
  val:valL os+pw i*cy=valL (A.take i)*d
theorem ScI.start (A:List Int) (d:Int):ScI A d 0 [] 0:=⟨Nat.zero_le _,rfl,okL_nil,by decide,by decide,by simp [valL]⟩
theorem sc_lim {x d cy:Int} (hx:0≤x∧x<1000000000) (hd:0≤d∧d<1000000000) (hc:0≤cy∧cy<1000000000):0≤x*d∧x*d+cy<1000000000000000000∧0≤(x*d+cy) / 1000000000∧(x*d+cy) / 1000000000<1000000000:=by
  have:=mul_lim hx hd;omega
theorem ScI.step {A:List Int} {d:Int} {i:Nat} {os:List Int} {cy:Int} (h:ScI A d i os cy) (hA:okL A) (hd:0≤d∧d<1000000000) (hi:i<A.length):
    ScI A d (i+1) (os++[(A.getD i 0*d+cy)%1000000000]) ((A.getD i 0*d+cy) / 1000000000):=by
  have hl:=sc_lim (okL_getD hA i) hd ⟨h.c0,h.c1⟩
  refine ⟨by omega,by simp [h.len],okL_snoc h.ok (by omega) (by omega),hl.2.2.1,hl.2.2.2,?_⟩
  rw [valL_snoc,h.len,valL_take_succ,pw_succ]
  have e:=h.val
  have hs:(A.getD i 0*d+cy)=1000000000*((A.getD i 0*d+cy) / 1000000000)+(A.getD i 0*d+cy)%1000000000:=by omega
  generalize (A.getD i 0*d+cy) / 1000000000=q at*
  generalize (A.getD i 0*d+cy)%1000000000=r at*
  have h2:pw i*(A.getD i 0*d+cy)=pw i*(1000000000*q+r):=by rw [hs]
  generalize A.getD i 0=x at*
  generalize valL os=a at*
  generalize valL (A.take i)=b at*
  generalize pw i=p at*
  grind
theorem ScI.fin {a d i:Nat} {os:List Int} {cy:Int} (h:ScI (digs a) (d:Int) i os cy) (hi:(digs a).length≤i):okL (os++[cy])∧valL (os++[cy])=((a*d:Nat):Int):=by
  refine ⟨okL_snoc h.ok h.c0 h.c1,?_⟩
  rw [valL_snoc,h.len,h.val,List.take_of_length_le hi,valL_digs,Int.natCast_mul]
theorem pair_val {a:Nat} (h:(digs a).length≤2):(digs a).getD 1 0*1000000000+(digs a).getD 0 0=(a:Int):=by
  have h0:=valL_drop (digs a) 0
  have h1:=valL_drop (digs a) 1
  rw [List.drop_zero,valL_digs] at h0
  have h2:valL ((digs a).drop 2)=0:=by rw [List.drop_eq_nil_of_le h];rfl
  simp only [Nat.zero_add,Nat.reduceAdd] at h0 h1
  omega
theorem two_val {u:Nat} (h:u<1000000000000000000):okL [((u%1000000000:Nat):Int),((u / 1000000000:Nat):Int)]∧valL [((u%1000000000:Nat):Int),((u / 1000000000:Nat):Int)]=(u:Int):=by
  refine ⟨okL_cons.2 ⟨by omega,okL_cons.2 ⟨by omega,okL_nil⟩⟩,?_⟩
  simp only [valL];omega
theorem valL_cut' (A:List Int) (k:Nat):valL A=valL (A.take k)+pw k*valL (A.drop k):=by
  by_cases h:k≤A.length
  · exact valL_cut A k h
  · rw [List.drop_eq_nil_of_le (by omega),List.take_of_length_le (by omega)];simp [valL]
structure PtI (A V:Nat) (j:Nat) (qs:List Int) (R:Nat):Prop where
  le:j≤(digs A).length
  ok:okL qs
  val:valL ((digs A).drop j)=valL qs*V+R
  lt:R<V
theorem PtI.start {A V n j R:Nat} (hV:(digs V).length=n+1) (hj:j+n=(digs A).length) (hR:valL ((digs A).drop j)=(R:Int)):PtI A V j [] R:=by
  refine ⟨by omega,okL_nil,by rw [hR];simp [valL],?_⟩
  have h1:=valL_lt (okL_drop (digs_ok A) j)
  rw [hR,List.length_drop,show (digs A).length - j=n by omega] at h1
  have h2:=digs_low (k:=n) (n:=V) (by omega)
  omega
theorem pt_lim {V R d:Nat} (h:R<V) (hd:d<1000000000):R*1000000000+d<V*1000000000:=by omega
theorem PtI.step {A V j:Nat} {qs:List Int} {R d g r:Nat} (h:PtI A V (j+1) qs R) (hd:(digs A).getD j 0=(d:Int)) (hg:r+V*g=R*1000000000+d) (hr:r<V):PtI A V j ((g:Int) :: qs) r:=by
  have hd1:=okL_getD (digs_ok A) j
  have hgl:g<1000000000:=by
    have h1:=pt_lim h.lt (show d<1000000000 by omega)
    exact Nat.lt_of_mul_lt_mul_left (a:=V) (by omega)
  refine ⟨Nat.le_of_succ_le h.le,okL_cons.2 ⟨by omega,h.ok⟩,?_,hr⟩
  rw [valL_drop,h.val,hd]
  simp only [valL]
  have hg2:(r:Int)+(V:Int)*(g:Int)=(R:Int)*1000000000+(d:Int):=by
    rw [← Int.natCast_mul];omega
  generalize valL qs=q at*
  grind
theorem pt_guess {W V m d:Nat} (hW:W<V*1000000000) (hV:(digs V).length=m+1) (hd:(d:Int)=((digs W).getD (m+1) 0*1000000000+(digs W).getD m 0) / ((digs V).getD m 0+1)):V*d≤W∧d<1000000000:=by
  have hw:=valL_cut' (digs W) m
  have hv:=valL_cut' (digs V) m
  rw [valL_digs] at hw hv
  have h1:=valL_drop (digs W) m
  have h2:=valL_drop (digs W) (m+1)
  have h3:=valL_nonneg (okL_drop (digs_ok W) (m+1+1))
  have h4:=valL_drop (digs V) m
  rw [List.drop_eq_nil_of_le (by omega:(digs V).length≤m+1)] at h4
  have h5:=valL_take_lt (digs_ok W) m
  have h6:=valL_take_lt (digs_ok V) m
  have h7:=okL_getD (digs_ok V) m
  have hp:=pw_pos m
  have h8:valL ([]:List Int)=0:=rfl
  have h9:=Int.mul_ediv_self_le (x:=(digs W).getD (m+1) 0*1000000000+(digs W).getD m 0) (k:=(digs V).getD m 0+1) (by omega)
  rw [← hd] at h9
  have key:(V:Int)*(d:Int)≤(W:Int):=by
    have a1:(V:Int)≤((digs V).getD m 0+1)*pw m:=by
      rw [h8,Int.mul_zero,Int.add_zero] at h4;rw [hv,h4,Int.add_mul,Int.one_mul,Int.mul_comm (pw m)];omega
    have a2:((digs W).getD (m+1) 0*1000000000+(digs W).getD m 0)*pw m≤(W:Int):=by
      have:(digs W).getD (m+1) 0*1000000000+(digs W).getD m 0≤valL ((digs W).drop m):=by omega
      have:=mul_le_of (Int.le_of_lt hp) this
      rw [Int.mul_comm (valL _)] at this;omega
    have a3:=mul_le_of (w:=(d:Int)) (by omega) a1
    have a4:=mul_le_of (Int.le_of_lt hp) h9
    have a5:((digs V).getD m 0+1)*pw m*(d:Int)=((digs V).getD m 0+1)*(d:Int)*pw m:=by grind
    omega
  have k2:V*d≤W:=by rw [← Int.natCast_mul] at key;omega
  exact ⟨k2,Nat.lt_of_mul_lt_mul_left (a:=V) (by omega)⟩
theorem PtI.fin {A V:Nat} {qs:List Int} {R:Nat} (h:PtI A V 0 qs R):valL qs=((A / V:Nat):Int)∧R=A%V:=by
  have h0:=h.val
  rw [List.drop_zero,valL_digs] at h0
  have hn:=valL_nonneg h.ok
  have hl:=h.lt
  obtain ⟨q,hq⟩:∃q:Nat,valL qs=(q:Int):=⟨(valL qs).toNat,by omega⟩
  rw [hq,←Int.natCast_mul] at h0
  have h1:A=R+V*q:=by rw [Nat.mul_comm];omega
  rw [hq,h1,Nat.add_mul_div_left _ _ (by omega),Nat.div_eq_of_lt hl,Nat.add_mul_mod_self_left,Nat.mod_eq_of_lt hl]
  simp
theorem pt_wlen {W V m:Nat} (hW:W<V*1000000000) (hV:(digs V).length=m+1):(digs W).length≤m+2:=by
  refine digs_len ?_
  have h1:=digs_lt V
  rw [hV] at h1
  rw [pw_succ];omega
theorem made_nat {l:List Int} {n:Nat} (ho:okL l) (h:valL l=(n:Int)):(sg false (valL l)).natAbs=n:=by
  rw [sg_abs (valL_nonneg ho),h];exact Int.toNat_natCast _
theorem ln_fq {x y:Int} (hy:y≠0):ln (fq x y)≤ln x+2:=by
  have key:(fq x y).natAbs≤x.natAbs+1:=by
    have hd:=Nat.div_le_self x.natAbs y.natAbs
    by_cases h:decide (x<0)=decide (y<0)
    · rw [← (fq_same hy h).1,sg_f,Int.natAbs_natCast];omega
    · by_cases hr : x.natAbs % y.natAbs = 0
      · rw [← (fq_even hy h hr).1,sg_t,Int.natAbs_neg,Int.natAbs_natCast];omega
      · rw [← (fq_odd hy h hr).1,sg_t,Int.natAbs_neg,Int.natAbs_natCast];omega
  unfold ln
  have h1:=ln_mono' key
  have h2:=len_add x.natAbs 1
  have h3:(digs 1).length=1:=by decide
  omega
end Go.Proofs.YtpdbimfnhglhpaaGreat.Big
namespace Go.Proofs.YtpdbimfnhglhpaaGreat.Big
abbrev RQ:=(Bool×List Int)×(Bool×List Int)
def qok (x:RQ):Prop:=canon x.1.1 x.1.2∧canon x.2.1 x.2.2∧0<raw x.2.1 x.2.2∧Nat.gcd (raw x.1.1 x.1.2).natAbs (raw x.2.1 x.2.2).natAbs=1
instance (x:RQ):Decidable (qok x):=inferInstanceAs (Decidable (_∧_))
def qv (x:RQ):Rat:=if qok x then Rat.divInt (raw x.1.1 x.1.2) (raw x.2.1 x.2.2) else 0
theorem divInt_parts {n d:Int} (hd:d≠0):(Rat.divInt n d).num=d.sign*n / (Nat.gcd n.natAbs d.natAbs:Nat)∧((Rat.divInt n d).den:Int)=((d.natAbs / Nat.gcd n.natAbs d.natAbs:Nat):Int):=by
  rw [Rat.num_divInt,Rat.den_divInt,if_neg hd]
  have:Int.gcd d n=Nat.gcd n.natAbs d.natAbs:=by unfold Int.gcd;rw [Nat.gcd_comm]
  rw [this];exact ⟨rfl,rfl⟩
theorem qv_parts {x:RQ} (h:qok x):(qv x).num=raw x.1.1 x.1.2∧((qv x).den:Int)=raw x.2.1 x.2.2:=by
  unfold qv;rw [if_pos h]
  obtain ⟨_,_,h3,h4⟩:=h
  obtain ⟨e1,e2⟩:=divInt_parts (n:=raw x.1.1 x.1.2) (d:=raw x.2.1 x.2.2) (by omega)
  rw [e1,e2,h4,Int.sign_eq_one_of_pos h3]
  refine ⟨by simp,by rw [Nat.div_one];omega⟩
theorem qv_not {x:RQ} (h:¬qok x):qv x=0:=by unfold qv;rw [if_neg h]
def rq (q:Rat):RQ:=((decide (q.num<0),digs q.num.natAbs),(decide ((q.den:Int)<0),digs (q.den:Int).natAbs))
theorem rq_ok (q:Rat):qok (rq q):=by
  refine ⟨canon_digs _,canon_digs _,?_,?_⟩
  · simp only [rq];rw [raw_big];have:=q.den_pos;omega
  · simp only [rq];rw [raw_big,raw_big,Int.natAbs_natCast];exact q.reduced
theorem rq_v (q:Rat):qv (rq q)=q:=by
  obtain ⟨h1,h2⟩:=qv_parts (rq_ok q)
  refine Rat.ext ?_ ?_
  · rw [h1];simp only [rq];rw [raw_big]
  · have : ((qv (rq q)).den : Int) = (q.den : Int) := by rw [h2]; simp only [rq]; rw [raw_big]
    omega
def hq (q:Rat):Nat:=max (ln q.num) (ln (q.den:Int))
theorem hq_num (q:Rat):ln q.num≤hq q:=Nat.le_max_left _ _
theorem hq_den (q:Rat):ln (q.den:Int)≤hq q:=Nat.le_max_right _ _
theorem hq_divInt {n d:Int} (hd:d≠0):hq (Rat.divInt n d)≤max (ln n) (ln d):=by
  obtain ⟨e1,e2⟩:=divInt_parts (n:=n) hd
  unfold hq
  rw [e1,e2]
  have h1:ln (d.sign*n / (Nat.gcd n.natAbs d.natAbs:Nat))≤ln n:=by
    refine zpe ?_
    refine Nat.le_trans (Int.natAbs_ediv_le_natAbs _ _) ?_
    rw [Int.natAbs_mul,Int.natAbs_sign_of_ne_zero hd,Nat.one_mul];exact Nat.le_refl _
  have h2:ln ((d.natAbs / Nat.gcd n.natAbs d.natAbs:Nat):Int)≤ln d:=by
    refine zpe ?_
    rw [Int.natAbs_natCast];exact Nat.div_le_self _ _
  omega
theorem den_ne (q:Rat):(q.den:Int)≠0:=by have:=q.den_pos;omega
theorem add_parts (x y:Rat):x+y=Rat.divInt (x.num*y.den+y.num*x.den) (x.den*y.den):=by
  rw [Rat.add_def',←Int.natCast_mul,Rat.divInt_ofNat]
theorem mul_parts (x y:Rat):x*y=Rat.divInt (x.num*y.num) (x.den*y.den):=by
  rw [Rat.mul_def',←Int.natCast_mul,Rat.divInt_ofNat]
theorem div_parts {x y:Rat} (hy:y.num≠0):x / y=Rat.divInt (x.num*y.den) (x.den*y.num):=by
  rw [Rat.div_def,Rat.inv_def,←Rat.num_divInt_den x,Rat.divInt_mul_divInt,Rat.num_divInt_den]
theorem hq_add (x y:Rat):hq (x+y)≤hq x+hq y+1:=by
  rw [add_parts]
  refine Nat.le_trans (hq_divInt (Int.mul_ne_zero (den_ne x) (den_ne y))) ?_
  have h1:=zed (x.num*y.den) (y.num*x.den)
  have h2:=zPa x.num y.den;have h3:=zPa y.num x.den;have h4:=zPa x.den y.den
  have a:=hq_num x;have b:=hq_den x;have c:=hq_num y;have d:=hq_den y
  omega
theorem hq_mul (x y:Rat):hq (x*y)≤hq x+hq y:=by
  rw [mul_parts]
  refine Nat.le_trans (hq_divInt (Int.mul_ne_zero (den_ne x) (den_ne y))) ?_
  have h2:=zPa x.num y.num;have h4:=zPa x.den y.den
  have a:=hq_num x;have b:=hq_den x;have c:=hq_num y;have d:=hq_den y
  omega
theorem num_ne {y:Rat} (h:y≠0):y.num≠0:=fun e=>h (Rat.num_eq_zero.1 e)
theorem hq_div (x:Rat) {y:Rat} (hy:y≠0):hq (x / y)≤hq x+hq y:=by
  rw [div_parts (num_ne hy)]
  refine Nat.le_trans (hq_divInt (Int.mul_ne_zero (den_ne x) (num_ne hy))) ?_
  have h2:=zPa x.num y.den;have h4:=zPa x.den y.num
  have a:=hq_num x;have b:=hq_den x;have c:=hq_num y;have d:=hq_den y
  omega
theorem hq_neg (x:Rat):hq (-x)=hq x:=by unfold hq;rw [Rat.neg_num,Rat.neg_den,zP]
theorem hq_sub (x y:Rat):hq (x - y)≤hq x+hq y+1:=by
  rw [Rat.sub_eq_add_neg];have:=hq_add x (-y);rw [hq_neg] at this;exact this
theorem ln_one:ln 1=1:=by decide
theorem hq_int (z:Int):hq (z:Rat)≤max (ln z) 1:=by
  unfold hq;rw [Rat.num_intCast,Rat.den_intCast];exact Nat.le_of_eq (by rw [show ((1:Nat):Int)=1 from rfl,ln_one])
theorem hq_zero:hq 0=1:=by decide
theorem hq_one:hq 1=1:=by decide
theorem hq_pos (q:Rat):1≤hq q:=by
  have h:=hq_den q
  have h1:1≤ln (q.den:Int):=by
    refine Decidable.byContradiction fun hc=> ?_
    have h2:=zRe (q.den:Int)
    rw [show ln (q.den:Int)=0 by omega] at h2
    have:pw 0=1:=rfl
    have:=q.den_pos;omega
  omega
theorem hq_64 {z:Int} (h1: -9223372036854775808≤z) (h2:z≤9223372036854775807):hq (z:Rat)≤3:=by
  have:=zyf h1 h2;have:=hq_int z;omega
theorem gcd_pos_right {n d:Int} (hd:d≠0):0<Nat.gcd n.natAbs d.natAbs:=Nat.gcd_pos_of_pos_right _ (by omega)
theorem red_pos {n d:Int} (hd:0<d):fq n (Nat.gcd n.natAbs d.natAbs:Nat)=(Rat.divInt n d).num∧fq d (Nat.gcd n.natAbs d.natAbs:Nat)=((Rat.divInt n d).den:Int):=by
  obtain ⟨e1,e2⟩:=divInt_parts (n:=n) (d:=d) (by omega)
  have hg:=gcd_pos_right (n:=n) (d:=d) (by omega)
  rw [e1,e2,Int.sign_eq_one_of_pos hd,Int.one_mul]
  rw [(fr_nonneg (x:=n) (y:=(Nat.gcd n.natAbs d.natAbs:Nat)) (by omega)).1,(fr_nonneg (x:=d) (y:=(Nat.gcd n.natAbs d.natAbs:Nat)) (by omega)).1]
  refine ⟨rfl,?_⟩
  rw [Int.natCast_ediv,Int.natAbs_of_nonneg (by omega)]
theorem red_flip {n d:Int} (hd:d<0):fq (-n) (Nat.gcd (-n).natAbs (-d).natAbs:Nat)=(Rat.divInt n d).num∧fq (-d) (Nat.gcd (-n).natAbs (-d).natAbs:Nat)=((Rat.divInt n d).den:Int):=by
  have:=red_pos (n:= -n) (d:= -d) (by omega)
  rw [Rat.neg_divInt_neg] at this;exact this
theorem fq_negneg (x y:Int) (hy:y≠0):fq x (-y)=fq (-x) y:=by
  unfold fq
  by_cases h:0<y
  · rw [if_neg (by omega),if_pos h,Int.neg_neg]
  · rw [if_pos (by omega),if_neg h,Int.neg_neg]
theorem red_neg {n d:Int} (hd:d<0):fq n (-(Nat.gcd n.natAbs d.natAbs:Nat))=(Rat.divInt n d).num∧fq d (-(Nat.gcd n.natAbs d.natAbs:Nat))=((Rat.divInt n d).den:Int):=by
  have hg:=gcd_pos_right (n:=n) (d:=d) (by omega)
  rw [fq_negneg _ _ (by omega),fq_negneg _ _ (by omega)]
  have:=red_flip (n:=n) hd
  rw [Int.natAbs_neg,Int.natAbs_neg] at this;exact this
def sgq (q:Rat):Int:=q.num.sign
theorem cmp_sub (a b:Int):cmp a b=(a - b).sign:=by
  unfold cmp
  split
  · rw [Int.sign_eq_neg_one_of_neg (by omega)]
  · split
    · rw [Int.sign_eq_one_of_pos (by omega)]
    · rw [show a - b=0 by omega];rfl
theorem sgq_zero {x:Rat}:sgq x=0↔x=0:=by unfold sgq;rw [Int.sign_eq_zero_iff_zero,Rat.num_eq_zero]
theorem sgq_sub_zero {x y:Rat}:sgq (x - y)=0↔x=y:=by
  rw [sgq_zero]
  constructor
  · intro h;grind
  · intro h;grind
theorem sgq_pos {x:Rat}:0<sgq x↔0<x:=by
  unfold sgq
  rw [Int.sign_pos_iff]
  have h:=Rat.num_nonneg (q:=x);have h0:=Rat.num_eq_zero (q:=x)
  constructor
  · intro h1; have h2 := h.1 (by omega); have h3 : x ≠ 0 := fun e => by rw [e] at h1; exact absurd h1 (by decide)
    grind
  · intro h1
    have h2:=h.2 (by grind)
    have h3:x.num≠0:=fun e=>by rw [h0.1 e] at h1;exact absurd h1 (by decide)
    omega
theorem sgq_neg' (x:Rat):sgq (-x)= - sgq x:=by unfold sgq;rw [Rat.neg_num,Int.sign_neg]
theorem sgq_lt {x:Rat}:sgq x<0↔x<0:=by
  have h:=sgq_pos (x:= -x);rw [sgq_neg'] at h
  constructor
  · intro h1;have:=h.1 (by omega);grind
  · intro h1;have:=h.2 (by grind);omega
theorem sgq_le {x:Rat}:sgq x≤0↔x≤0:=by
  have h:=sgq_pos (x:=x)
  constructor
  · intro h1; have : ¬ 0 < x := fun k => by have := h.2 k; omega
    grind
  · intro h1; have : ¬ 0 < sgq x := fun k => by have := h.1 k; grind
    omega
theorem sgq_ge {x:Rat}:0≤sgq x↔0≤x:=by
  have h:=sgq_lt (x:=x)
  constructor
  · intro h1; have : ¬ x < 0 := fun k => by have := h.2 k; omega
    grind
  · intro h1; have : ¬ sgq x < 0 := fun k => by have := h.1 k; grind
    omega
theorem cmp_zero {x y:Int}:cmp x y=0↔x=y:=by
  unfold cmp;split
  · omega
  · split <;> omega
theorem qok_gcd {x:RQ} (h:canon x.1.1 x.1.2∧canon x.2.1 x.2.2∧0<raw x.2.1 x.2.2):cmp ((Nat.gcd (raw x.1.1 x.1.2).natAbs (raw x.2.1 x.2.2).natAbs:Nat):Int) 1=0↔qok x:=by
  rw [cmp_zero];exact ⟨fun e=>⟨h.1,h.2.1,h.2.2,by omega⟩,fun e=>by have:=e.2.2.2;omega⟩
theorem sgn_le {c d:Prop} {z:Int} (hc:c) (hd:d):z.sign≤0↔¬(c∧d∧0<z):=by
  rcases Int.lt_trichotomy z 0 with h|h|h
  · rw [Int.sign_eq_neg_one_of_neg h];exact ⟨fun _ k=>by omega,fun _=>by decide⟩
  · rw [h];exact ⟨fun _ k=>by omega,fun _=>by decide⟩
  · rw [Int.sign_eq_one_of_pos h];exact ⟨fun k=>by omega,fun k=>absurd ⟨hc,hd,h⟩ k⟩
theorem raw_parts {x:RQ} (h1:nn x.1.2) (h2:nn x.2.2) (h:qok x):decide ((qv x).num<0)=x.1.1∧digs (qv x).num.natAbs=x.1.2∧decide (((qv x).den:Int)<0)=x.2.1∧digs (((qv x).den:Nat):Int).natAbs=x.2.2:=by
  obtain ⟨e1,e2⟩:=qv_parts h
  have d1:=raw_digs (s:=x.1.1) h1;have d2:=raw_digs (s:=x.2.1) h2
  rw [if_pos h.1] at d1;rw [if_pos h.2.1] at d2
  rw [e1,e2]
  exact ⟨raw_sign h1 h.1,d1,raw_sign h2 h.2.1,d2⟩
theorem zQd {n d:Int} (hd:d≠0):ln (Nat.gcd n.natAbs d.natAbs:Nat)≤ln d:=by
  refine zpe ?_
  rw [Int.natAbs_natCast];exact Nat.gcd_le_right _ (by omega)
theorem divInt_nil {n d:Int} (hd:d=0):Rat.divInt n d=0:=by rw [hd,Rat.divInt_zero]
theorem div_nil {x y:Rat} (hy:y=0):x / y=0:=by rw [hy,Rat.div_def,Rat.inv_zero,Rat.mul_zero]
theorem sign_zero {z:Int}:z.sign=0↔z=0:=Int.sign_eq_zero_iff_zero
theorem qok_sub {x:RQ} (h:canon x.1.1 x.1.2∧canon x.2.1 x.2.2∧0<raw x.2.1 x.2.2):(((Nat.gcd (raw x.1.1 x.1.2).natAbs (raw x.2.1 x.2.2).natAbs:Nat):Int) - 1).sign=0↔qok x:=by
  rw [← cmp_sub];exact qok_gcd h
end Go.Proofs.YtpdbimfnhglhpaaGreat.Big
namespace Go.Proofs.YtpdbimfnhglhpaaGreat.Sp
open Go
set_option linter.unusedVariables false
def Wd.raw (g:Hp) (w:Wd) (x:Bool×List Int):Prop:=w.s=x.1∧w.n=x.2.length∧x.2.length≤1099511627776∧Sl (rI .u32) g w.p w.c x.2
theorem Wd.raw_mono {g g':Hp} {w:Wd} {x:Bool×List Int} (h:g.le g') (k:w.raw g x):w.raw g' x:=⟨k.1,k.2.1,k.2.2.1,k.2.2.2.mono h⟩
def qF (c:Bool) (u v:Wd) (q:Rat):Fa:=⟨fun g=>∃x:Big.RQ,u.raw g x.1∧v.raw g x.2∧Big.qv x=q∧(c=true→Big.qok x),fun _ _ h ⟨x,a,b,d⟩=>⟨x,Wd.raw_mono h a,Wd.raw_mono h b,d⟩⟩
theorem Sl.nn {g:Hp} {p:Option Addr} {c:Nat} {l:List Int} (h:Sl (rI .u32) g p c l):Big.nn l:=fun d hd=>by
  obtain ⟨j,hj⟩:=List.getElem?_of_mem hd
  obtain ⟨_,_,_,_,_,e⟩:=h.2.2.2 j d hj
  exact (zA.1 e).1
theorem Wd.raw_is {g:Hp} {w:Wd} {x:Bool×List Int} (h:w.raw g x) (hc:Big.canon x.1 x.2):w.is g (yq x.1 x.2):=by
  have hn:=h.2.2.2.nn
  have hd:=yA (s:=x.1) hn
  rw [if_pos hc] at hd
  exact ⟨h.1.trans (Big.raw_sign hn hc).symm,by rw [hd];exact h.2.1,by rw [hd];exact h.2.2.2⟩
theorem Wd.is_raw {g:Hp} {w:Wd} {z:Int} (h:w.is g z) (hl:yC z≤1099511627776):w.raw g (decide (z<0),yg z.natAbs):=⟨h.1,h.2.1,hl,h.2.2⟩
section
variable {P : Program} {c : Cx} {n : Sz} {Q : Exit → Act → World → Prop} {m : Fm} {O : List As} {R : List Fa} {f : Nat} {u v : Wd} {q : Rat}
theorem qF_parts {g:Hp} (h:(qF true u v q).on g):u.is g q.num∧v.is g (q.den:Int):=by
  obtain ⟨x,a,b,e,ok⟩:=h
  have hk:=ok rfl
  obtain ⟨e1,e2⟩:=Big.qv_parts hk
  rw [← e,e1,e2]
  exact ⟨Wd.raw_is a hk.1,Wd.raw_is b hk.2.1⟩
theorem qF_open (i:Nat) (hi:R[i]? =some (qF true u v q)):∀g,Holds g R→∃x:Unit,True∧Holds g [zF u q.num,zF v (q.den:Int)]:=fun g h=>
  ⟨(),trivial,(qF_parts (Holds.get i hi h)).1,(qF_parts (Holds.get i hi h)).2,trivial⟩
theorem qF_make {g:Hp} (h1:u.is g q.num) (h2:v.is g (q.den:Int)) (hl:Big.hq q≤1099511627776):(qF true u v q).on g:=
  ⟨Big.rq q,Wd.is_raw h1 (Nat.le_trans (Big.hq_num q) hl),Wd.is_raw h2 (Nat.le_trans (Big.hq_den q) hl),Big.rq_v q,fun _=>Big.rq_ok q⟩
theorem qF_close (i j:Nat) {a b:Int} (hi:R[i]? =some (zF u a)) (hj:R[j]? =some (zF v b)) (h:a=q.num∧b=(q.den:Int)∧Big.hq q≤1099511627776):∀g,Holds g R→(qF true u v q).on g:=fun g r=>by
  have h1:u.is g a:=Holds.get i hi r
  have h2:v.is g b:=Holds.get j hj r
  rw [h.1] at h1;rw [h.2.1] at h2
  exact qF_make h1 h2 h.2.2
theorem qF_len {g:Hp} {k:Bool} (h:(qF k u v q).on g):Big.hq q≤1099511627776:=by
  obtain ⟨x,a,b,e,ok⟩:=h
  by_cases hk:Big.qok x
  · obtain ⟨e1, e2⟩ := Big.qv_parts hk
    rw [← e]
    unfold Big.hq yC
    rw [e1,e2]
    have h1:=yA (s:=x.1.1) a.2.2.2.nn
    have h2:=yA (s:=x.2.1) b.2.2.2.nn
    rw [if_pos hk.1] at h1;rw [if_pos hk.2.1] at h2
    rw [h1,h2]
    have:=a.2.2.1;have:=b.2.2.1;omega
  · rw [Big.qv_not hk] at e
    rw [← e,Big.hq_zero];omega
theorem qF_none (g:Hp):(qF false wz wz 0).on g:=⟨((false,[]),(false,[])),⟨rfl,rfl,by decide,Sl.nil _ _⟩,⟨rfl,rfl,by decide,Sl.nil _ _⟩,by decide +kernel,fun h=>by cases h⟩
abbrev rawL (p:Option Addr) (c:Nat) (x:Bool×List Int):List Value:=[.bool x.1,.slice p x.2.length c]
theorem Wd.rawL_eq {g:Hp} {w:Wd} {x:Bool×List Int} (h:w.raw g x):[w.b,w.l]=rawL w.p w.c x:=by rw [Wd.b,Wd.l,h.1,h.2.1]
theorem zBf {k:Bool} {Y:Type} {φ:Y→Prop} {val:Y→Value} {O':Y→List As} {R':Y→List Fa}
    (h:∀(x:Big.RQ),Big.qv x=q→(k=true→Big.qok x)→x.1.2.length≤1099511627776→x.2.2.length≤1099511627776→Con P f [.agg #[.bool x.1.1,.slice u.p x.1.2.length u.c,.bool x.2.1,.slice v.p x.2.2.length v.c]] O [slF (rI .u32) u.p u.c x.1.2,slF (rI .u32) v.p v.c x.2.2] φ val O' R'):
    Con P f [.agg #[u.b,u.l,v.b,v.l]] O [qF k u v q] φ val O' R':=
  Con.of (X:=Big.RQ) (ψ:=fun x=>Big.qv x=q∧(k=true→Big.qok x)∧x.1.2.length≤1099511627776∧x.2.2.length≤1099511627776) (A2:=fun x=>[.agg #[.bool x.1.1,.slice u.p x.1.2.length u.c,.bool x.2.1,.slice v.p x.2.2.length v.c]]) (R2:=fun x=>[slF (rI .u32) u.p u.c x.1.2,slF (rI .u32) v.p v.c x.2.2])
    (fun x hx=>h x hx.1 hx.2.1 hx.2.2.1 hx.2.2.2) fun g r=>by
      obtain ⟨x,a,b,e,ok⟩:=r.1
      refine ⟨x,⟨e,ok,a.2.2.1,b.2.2.1⟩,?_,a.2.2.2,b.2.2.2,trivial⟩
      have h1:=Wd.rawL_eq a;have h2:=Wd.rawL_eq b
      simp only [rawL,List.cons.injEq,and_true] at h1 h2
      rw [h1.1,h1.2,h2.1,h2.2]
theorem zCf {k:Bool} {Y:Type} {φ:Y→Prop} {val:Y→Value} {O':Y→List As} {R':Y→List Fa}
    (h:∀(x:Big.RQ),Big.qv x=q→(k=true→Big.qok x)→x.1.2.length≤1099511627776→x.2.2.length≤1099511627776→Big.hq q≤1099511627776→Con P f [.agg #[.bool x.1.1,.slice u.p x.1.2.length u.c,.bool x.2.1,.slice v.p x.2.2.length v.c]] O [slF (rI .u32) u.p u.c x.1.2,slF (rI .u32) v.p v.c x.2.2] φ val O' R'):
    Con P f [.agg #[u.b,u.l,v.b,v.l]] O [qF k u v q] φ val O' R':=fun w hh g s r ap h1 h2=>
  zBf (fun x a b c d=>h x a b c d (qF_len r.1)) w hh g s r ap h1 h2
theorem con_qr {A:List Value} {z d:Int} (h:Con P f A O R (Y:=Option Addr×Nat×Option Addr×Nat) (fun _=>True) (fun y=> .agg #[.bool (decide (z<0)),.slice y.1 (yg z.natAbs).length y.2.1,.bool (decide (d<0)),.slice y.2.2.1 (yg d.natAbs).length y.2.2.2]) (fun _=>[]) (fun y=>[bigS z y.1 y.2.1,bigS d y.2.2.1 y.2.2.2]))
    (hz:z=q.num) (hd:d=(q.den:Int)) (hl:Big.hq q≤1099511627776):Con P f A O R (Y:=Wd×Wd) (fun _=>True) (fun w=> .agg #[w.1.b,w.1.l,w.2.b,w.2.l]) (fun _=>[]) (fun w=>[qF true w.1 w.2 q]):=
  h.told (fun y=>(⟨decide (z<0),y.1,(yg z.natAbs).length,y.2.1⟩,⟨decide (d<0),y.2.2.1,(yg d.natAbs).length,y.2.2.2⟩)) (fun _=>rfl) (fun _ _=>trivial) (fun _=>rfl)
    (fun y _ g r=>⟨qF_make (q:=q) ⟨by rw [hz],by rw [hz],hz ▸ r.1⟩ ⟨by rw [hd],by rw [hd],hd ▸ r.2.1⟩ hl,trivial⟩)
theorem zDf {A:List Value} {z d:Int} {k:Value} (h:Con P f A O R (Y:=Option Addr×Nat×Option Addr×Nat) (fun _=>True) (fun y=> .tuple #[.agg #[.bool (decide (z<0)),.slice y.1 (yg z.natAbs).length y.2.1],.agg #[.bool (decide (d<0)),.slice y.2.2.1 (yg d.natAbs).length y.2.2.2],k]) (fun _=>[]) (fun y=>[bigS z y.1 y.2.1,bigS d y.2.2.1 y.2.2.2])):
    Con P f A O R (Y:=Wd×Wd) (fun _=>True) (fun w=> .tuple #[.agg #[w.1.b,w.1.l],.agg #[w.2.b,w.2.l],k]) (fun _=>[]) (fun w=>[zF w.1 z,zF w.2 d]):=
  h.told (fun y=>(⟨decide (z<0),y.1,(yg z.natAbs).length,y.2.1⟩,⟨decide (d<0),y.2.2.1,(yg d.natAbs).length,y.2.2.2⟩)) (fun _=>rfl) (fun _ _=>trivial) (fun _=>rfl)
    (fun y _ g r=>⟨⟨rfl,rfl,r.1⟩,⟨rfl,rfl,r.2.1⟩,trivial⟩)
theorem qF_rawI {s t:Bool} {p1 p2:Option Addr} {n1 c1 n2 c2:Nat} {l1 l2:List Int} (i j:Nat) (hi:R[i]? =some (slF (rI .u32) p1 c1 l1)) (hj:R[j]? =some (slF (rI .u32) p2 c2 l2)) (hn1:l1.length=n1) (hn2:l2.length=n2) (hm1:n1≤1099511627776) (hm2:n2≤1099511627776) (hq:Big.qok ((s,l1),(t,l2))):
    ∀g,Holds g R→(qF true ⟨s,p1,n1,c1⟩ ⟨t,p2,n2,c2⟩ (Big.qv ((s,l1),(t,l2)))).on g:=fun g r=>by
  subst hn1;subst hn2
  exact ⟨((s,l1),(t,l2)),⟨rfl,rfl,hm1,Holds.get i hi r⟩,⟨rfl,rfl,hm2,Holds.get j hj r⟩,rfl,fun _=>hq⟩
end
section
variable {P : Program} {c : Cx} {m : Fm} {O : List As} {R : List Fa}
end
section
variable {P : Program} {n : Sz} {m : Fm} {d : Option Tmp} {ty : TypeId} {ps : String} {af : Array Edge} {gd : Option (Nat × Bool)}
end
end Go.Proofs.YtpdbimfnhglhpaaGreat.Sp
namespace Go.Proofs.YtpdbimfnhglhpaaGreat.Sp
open Go
set_option linter.unusedVariables false
theorem kr {p:Prop} (h:p:=by kernel_rfl):p:=h
theorem ass {p:Prop} (h:p:=by assumption):p:=h
theorem cbb {p:Prop} (h:p:=by first|rfl|assumption|omega|(simp;done)|(simp;omega)|(simp_all;done)):p:=h
theorem cbo {p:Prop} (h:p:=by first|rfl|assumption|omega):p:=h
theorem cbs {p:Prop} (h:p:=by first|rfl|assumption|(simp_all;done)|omega):p:=h
theorem cbu {p:Prop} (h:p:=by first|(simp_all;done)|(simp_all;omega)|(simp;omega)|omega):p:=h
theorem om {p:Prop} (h:p:=by omega):p:=h
theorem dd {p:Prop} (h:p:=by decide):p:=h
theorem aq {α:Type} {l m:List α}:List.append l m=l++m:=rfl
theorem nq {α:Type} {l:List α}:[]++l=l:=rfl
theorem cq {α:Type} {a:α} {l m:List α}:a :: l++m=a :: (l++m):=rfl
theorem Slc.t2 {cells:List Value} {k:Nat} {cs:List Value} {a b:Value} (h:Slc cells 0 k cs):Slc (a :: b :: cells) 0 (k+2) (a :: b :: cs):= .take (.take h)
theorem Slc.t4 {cells:List Value} {k:Nat} {cs:List Value} {a b c d:Value} (h:Slc cells 0 k cs):Slc (a :: b :: c :: d :: cells) 0 (k+4) (a :: b :: c :: d :: cs):= .t2 (.t2 h)
theorem Slc.t8 {cells:List Value} {k:Nat} {cs:List Value} {a b c d e f g i:Value} (h:Slc cells 0 k cs):Slc (a :: b :: c :: d :: e :: f :: g :: i :: cells) 0 (k+8) (a :: b :: c :: d :: e :: f :: g :: i :: cs):= .t4 (.t4 h)
theorem Slc.s2 {cells:List Value} {k off:Nat} {cs:List Value} {a b:Value} (h:Slc cells off k cs):Slc (a :: b :: cells) (off+2) k cs:= .skip (.skip h)
theorem Slc.s4 {cells:List Value} {k off:Nat} {cs:List Value} {a b c d:Value} (h:Slc cells off k cs):Slc (a :: b :: c :: d :: cells) (off+4) k cs:= .s2 (.s2 h)
theorem Slc.s8 {cells:List Value} {k off:Nat} {cs:List Value} {a b c d e f g i:Value} (h:Slc cells off k cs):Slc (a :: b :: c :: d :: e :: f :: g :: i :: cells) (off+8) k cs:= .s4 (.s4 h)
theorem Upd.t2 {cells news cells':List Value} {a b a' b':Value} (h:Upd cells 0 news cells'):Upd (a :: b :: cells) 0 (a' :: b' :: news) (a' :: b' :: cells'):= .take (.take h)
theorem Upd.t4 {cells news cells':List Value} {a b c d a' b' c' d':Value} (h:Upd cells 0 news cells'):Upd (a :: b :: c :: d :: cells) 0 (a' :: b' :: c' :: d' :: news) (a' :: b' :: c' :: d' :: cells'):= .t2 (.t2 h)
theorem Upd.t8 {cells news cells':List Value} {a b c d e f g i a' b' c' d' e' f' g' i':Value} (h:Upd cells 0 news cells'):Upd (a :: b :: c :: d :: e :: f :: g :: i :: cells) 0 (a' :: b' :: c' :: d' :: e' :: f' :: g' :: i' :: news) (a' :: b' :: c' :: d' :: e' :: f' :: g' :: i' :: cells'):= .t4 (.t4 h)
theorem Upd.s2 {cells news cells':List Value} {off:Nat} {a b:Value} (h:Upd cells off news cells'):Upd (a :: b :: cells) (off+2) news (a :: b :: cells'):= .skip (.skip h)
theorem Upd.s4 {cells news cells':List Value} {off:Nat} {a b c d:Value} (h:Upd cells off news cells'):Upd (a :: b :: c :: d :: cells) (off+4) news (a :: b :: c :: d :: cells'):= .s2 (.s2 h)
theorem Upd.s8 {cells news cells':List Value} {off:Nat} {a b c d e f g i:Value} (h:Upd cells off news cells'):Upd (a :: b :: c :: d :: e :: f :: g :: i :: cells) (off+8) news (a :: b :: c :: d :: e :: f :: g :: i :: cells'):= .s4 (.s4 h)
variable {P : Program} {ops : Array Oper} {Q : Exit → Act → World → Prop} {c : Cx} {n : Sz} {wi k : Nat} {L : Array Bool} {m : Fm} {OW O : List As} {R : List Fa} {op : Op} {t0 : Tmp} {ty : TypeId} {ps : String} {af : Array Edge} {gd : Option (Nat × Bool)}
def ckD (ops:Array Oper) (L:Array Bool) (wi i:Nat):Bool:= !(Nat.beq i wi)&&(Region.free .any ops L i&&(Region.ready .any ops L).contains i)
theorem ckD_out {i:Nat} (h:ckD ops L wi i=true):Nat.beq i wi=false∧Region.free .any ops L i=true∧(Region.ready .any ops L).contains i=true:=by
  unfold ckD at h
  rw [Bool.and_eq_true,Bool.and_eq_true,Bool.not_eq_true'] at h
  exact h
def ckW (ops:Array Oper) (L:Array Bool) (wi i:Nat):Bool:=depB ops wi i&&ckD ops L wi i
theorem ckW_out {i:Nat} (h:ckW ops L wi i=true):depB ops wi i=true∧Nat.beq i wi=false∧Region.free .any ops L i=true∧(Region.ready .any ops L).contains i=true:=by
  unfold ckW at h
  rw [Bool.and_eq_true] at h
  exact ⟨h.1,ckD_out h.2⟩
theorem e_pv (i:Nat) (hi:ops[i]? =some ⟨some t0,op,ty,ps,af,gd⟩) (hw':wnt ops m ⟨some t0,op,ty,ps,af,gd⟩=some true) {v:Value} (h:PV P n ⟨some t0,op,ty,ps,af,gd⟩ m v)
    (kont:RunD P ops Q c n wi k (L.setIfInBounds i true) ((t0,v) :: m) OW O R) (hd:Nat.ble (t0+1) n.sz=true:=by exact rfl) (ck:ckD ops L wi i=true:=by kernel_rfl):RunD P ops Q c n wi (k+1) L m OW O R:=
  d_pv i hi (ckD_out ck).1 (ckD_out ck).2.1 (ckD_out ck).2.2 hw' hd h kont
theorem e_dm (i:Nat) {x:Operand} (hi:ops[i]? =some ⟨some t0,.move x,ty,ps,af,gd⟩) (hw':wnt ops m ⟨some t0,.move x,ty,ps,af,gd⟩=some true) {v:Value} (h:evo m x=some v)
    (kont:RunD P ops Q c n wi k (L.setIfInBounds i true) ((t0,v) :: m) OW O R) (hd:Nat.ble (t0+1) n.sz=true:=by exact rfl) (ck:ckD ops L wi i=true:=by kernel_rfl):RunD P ops Q c n wi (k+1) L m OW O R:=
  d_pv i hi (ckD_out ck).1 (ckD_out ck).2.1 (ckD_out ck).2.2 hw' hd (zna h) kont
theorem e_skip (i:Nat) (hi:ops[i]? =some ⟨some t0,op,ty,ps,af,gd⟩) (hw':wnt ops m ⟨some t0,op,ty,ps,af,gd⟩=some false)
    (kont:RunD P ops Q c n wi k (L.setIfInBounds i true) ((t0,undef) :: m) OW O R) (hd:Nat.ble (t0+1) n.sz=true:=by exact rfl) (ck:ckD ops L wi i=true:=by kernel_rfl):RunD P ops Q c n wi (k+1) L m OW O R:=
  d_skip i hi (ckD_out ck).1 (ckD_out ck).2.1 (ckD_out ck).2.2 hw' hd kont
theorem e_u (i:Nat) (hi:ops[i]? =some ⟨some t0,op,ty,ps,af,gd⟩) (hw':wnt ops m ⟨some t0,op,ty,ps,af,gd⟩=some true) {v:Value} (h:Vl P n ⟨some t0,op,ty,ps,af,gd⟩ m O R (Y:=Unit) (fun _=>True) (fun _=>v) (fun _=>[]))
    (kont:RunD P ops Q c n wi k (L.setIfInBounds i true) ((t0,v) :: m) OW O R) (hd:Nat.ble (t0+1) n.sz=true:=by exact rfl) (ck:ckD ops L wi i=true:=by kernel_rfl):RunD P ops Q c n wi (k+1) L m OW O R:=
  d_u i hi (ckD_out ck).1 (ckD_out ck).2.1 (ckD_out ck).2.2 hw' hd h kont
theorem e_uw (i:Nat) (hi:ops[i]? =some ⟨some t0,op,ty,ps,af,gd⟩) (hw':wnt ops m ⟨some t0,op,ty,ps,af,gd⟩=some true) {v:Value} (h:Vl P n ⟨some t0,op,ty,ps,af,gd⟩ m (OW++O) R (Y:=Unit) (fun _=>True) (fun _=>v) (fun _=>[]))
    (kont:RunD P ops Q c n wi k (L.setIfInBounds i true) ((t0,v) :: m) OW O R) (hd:Nat.ble (t0+1) n.sz=true:=by exact rfl) (ck:ckW ops L wi i=true:=by kernel_rfl):RunD P ops Q c n wi (k+1) L m OW O R:=
  d_uw i hi (ckW_out ck).2.1 (ckW_out ck).1 (ckW_out ck).2.2.1 (ckW_out ck).2.2.2 hw' hd h kont
theorem e_one (i:Nat) (h:RunO P ops Q c n wi k L i m OW O R) (hr:Region.ready .any ops L=[i]:=by kernel_rfl):RunD P ops Q c n wi (k+1) L m OW O R:=zFc i hr h
section
variable {ro : Option Nat} {l : List Oper} {t : Tmp}
theorem e_p {v:Value} (h:PV P n ⟨some t,op,ty,ps,af,gd⟩ m v) (kont:RunL (ro:=ro) P ops Q c n l ((t,v) :: m) O R) (hw:wnt ops m ⟨some t,op,ty,ps,af,gd⟩=some true:=by exact rfl) (hd:Nat.ble (t+1) n.sz=true:=by exact rfl):RunL (ro:=ro) P ops Q c n (⟨some t,op,ty,ps,af,gd⟩ :: l) m O R:=r_pv hw hd h kont
theorem e_mv {x:Operand} {v:Value} (h:evo m x=some v) (kont:RunL (ro:=ro) P ops Q c n l ((t,v) :: m) O R) (hw:wnt ops m ⟨some t,.move x,ty,ps,af,gd⟩=some true:=by exact rfl) (hd:Nat.ble (t+1) n.sz=true:=by exact rfl):RunL (ro:=ro) P ops Q c n (⟨some t,.move x,ty,ps,af,gd⟩ :: l) m O R:=r_pv hw hd (zna h) kont
theorem e_no (kont:RunL (ro:=ro) P ops Q c n l ((t,undef) :: m) O R) (hw:wnt ops m ⟨some t,op,ty,ps,af,gd⟩=some false:=by exact rfl) (hd:Nat.ble (t+1) n.sz=true:=by exact rfl):RunL (ro:=ro) P ops Q c n (⟨some t,op,ty,ps,af,gd⟩ :: l) m O R:=zQe hw hd kont
theorem e_ru {v:Value} (h:Vl P n ⟨some t,op,ty,ps,af,gd⟩ m O R (Y:=Unit) (fun _=>True) (fun _=>v) (fun _=>[])) (kont:RunL (ro:=ro) P ops Q c n l ((t,v) :: m) O R) (hw:wnt ops m ⟨some t,op,ty,ps,af,gd⟩=some true:=by exact rfl) (hd:Nat.ble (t+1) n.sz=true:=by exact rfl):RunL (ro:=ro) P ops Q c n (⟨some t,op,ty,ps,af,gd⟩ :: l) m O R:=r_u hw hd h kont
end
theorem tt9:True:=trivial
theorem cgs {p:Prop} (h:p:=by first|rfl|(congr 1;omega)|simp_all):p:=h
theorem oN {O:List As}:PickO [] O []:= .n
theorem sN {R:List Fa}:SelR [] R []:=trivial
theorem mR {m l:Fm} (h:lkAll m (l.map Prod.fst)=l.map (fun p=>some p.2)):SubM l m:= .of h
theorem s0 {R:List Fa} {r:Fa} (h:R[0]? =some r):SelR [0] R [r]:=⟨h,trivial⟩
theorem o0 {O:List As} {A:As} (h:O[0]? =some A):PickO [0] O [A]:= .c h .n
end Go.Proofs.YtpdbimfnhglhpaaGreat.Sp
namespace Go.Proofs.YtpdbimfnhglhpaaGreat.Sp
open Go
set_option linter.unusedVariables false
structure OpS where
  i:Nat
  t:Nat
  X:Type
  val:X→Value
  O:X→List As
  R:X→List Fa
instance:Inhabited OpS:=⟨⟨0,0,Unit,fun _=>undef,fun _=>[],fun _=>[]⟩⟩
def DP (T:List OpS):List Nat→(Fm→List Fa→Prop)→Prop
  |[],f=>f [] []
  |p :: ps,f=>∀x:(T.getD p default).X,DP T ps fun m R=>f (((T.getD p default).t,(T.getD p default).val x) :: m) ((T.getD p default).R x++R)
def DA:List OpS→(Fm→List As→List Fa→Prop)→Prop
  |[],f=>f [] [] []
  |e :: T,f=>∀x:e.X,DA T fun m A R=>f ((e.t,e.val x) :: m) (e.O x++A) (e.R x++R)
def Left (a:Act) (g:Hp) (e:OpS):Prop:=∃x:e.X,a.tmps[e.t]? =some (e.val x)∧Holds g (e.R x)
theorem DP.use {T:List OpS} {a:Act} {g:Hp}:∀{ps:List Nat} {f:Fm→List Fa→Prop},DP T ps f→(∀p∈ps,Left a g (T.getD p default))→∃m R,f m R∧(∀t v,lk m t=some v→a.tmps[t]? =some v)∧Holds g R
  |[],f,h,_=>⟨[],[],h,(fun _ _ e=>by cases e),trivial⟩
  |p :: ps,f,h,hs=>by
    obtain ⟨x,hx,hr⟩:=hs p (List.mem_cons_self ..)
    obtain ⟨m,R,hf,hm,hR⟩:=DP.use (h x) (fun q hq=>hs q (List.mem_cons_of_mem _ hq))
    refine ⟨_,_,hf,fun t v e=> ?_,Holds.app hr hR⟩
    simp only [lk] at e
    split at e
    · rename_i hb
      have:(T.getD p default).t=t:=Nat.eq_of_beq_eq_true hb
      cases e
      rw [← this];exact hx
    · exact hm t v e
def ofr (o:Oper):Oper:=⟨o.dst,o.op,o.type,o.pos,#[],none⟩
def locQ (c:Cx) (n:Sz) (e:OpS):Exit→Act→World→Prop:=Exit.then (Some' c n (fun _:e.X=>True) (fun x=>[(e.t,e.val x)]) e.O e.R) (fun _ _ _=>False)
section
variable {P : Program} {Q : Exit → Act → World → Prop} {c : Cx} {n : Sz} {ops : Array Oper} {m : Fm} {OW O : List As} {R : List Fa} {k wi : Nat} {L : Array Bool}
structure StepOK (P:Program) (ops:Array Oper) (n:Sz) (m0:Fm) (R0:List Fa) (e:OpS) (T:List OpS) (o:Oper) (ps:List Nat):Prop where
  hi:ops[e.i]? =some o
  hd:o.dst=some e.t
  hg:o.guard=none
  hn:Region.noSelect #[ofr o]=true
  ht:Nat.ble (e.t+1) n.sz=true
  hm:(lk m0 e.t).isNone=true
  hT:(T.all fun x=> !Nat.beq x.t e.t)=true
  hp:(ps.all fun p=>Nat.blt p T.length&&o.after.any fun ed=>Region.binds .any ed&&Nat.beq ed.on (T.getD p default).i)=true
  go:∀c,DP T ps (fun m R=>RunD P #[ofr o] (locQ c n e) c n 100000 1 #[false] (m++m0) [] [] (R++R0))
def WF (P:Program) (ops:Array Oper) (n:Sz) (m0:Fm) (R0:List Fa):List OpS→Prop
  |[]=>True
  |e :: T=>(∃o ps,StepOK P ops n m0 R0 e T o ps)∧WF P ops n m0 R0 T
theorem WF.get {m0:Fm} {R0:List Fa} {e:OpS}:∀{T:List OpS},WF P ops n m0 R0 T→e∈T→∃T' o ps,StepOK P ops n m0 R0 e T' o ps∧(∀x∈T',x∈T)
  |[],_,h=>by cases h
  |e' :: T,⟨⟨o,ps,h1⟩,h2⟩,h=>by
    rcases List.mem_cons.1 h with rfl|h
    · exact ⟨T,o,ps,h1,fun x hx=>List.mem_cons_of_mem _ hx⟩
    · obtain ⟨T', o, ps, h3, h4⟩ := WF.get h2 h
      exact ⟨T',o,ps,h3,fun x hx=>List.mem_cons_of_mem _ (h4 x hx)⟩
theorem WF.dist {m0:Fm} {R0:List Fa} {e e':OpS}:∀{T:List OpS},WF P ops n m0 R0 T→e∈T→e'∈T→e.t=e'.t→e=e'
  |[],_,h,_,_=>by cases h
  |d :: T,⟨⟨o,ps,h1⟩,h2⟩,h,h',ht=>by
    have hT:=fun x (hx:x∈T)=>List.all_eq_true.1 h1.hT x hx
    rcases List.mem_cons.1 h with k1|k1
    · rcases List.mem_cons.1 h' with k2 | k2
      · rw [k1,k2]
      · have:=hT _ k2;rw [← ht,k1] at this;simp [Nat.beq_refl] at this
    · rcases List.mem_cons.1 h' with k2 | k2
      · have:=hT _ k1;rw [ht,k2] at this;simp [Nat.beq_refl] at this
      · exact WF.dist h2 k1 k2 ht
theorem wp_loc {o:Oper} {a:Act} {w:World} {K K':Act→World→Prop} {Q0:Exit→Act→World→Prop} (hp:∀ch a w,Q0 (.panic ch) a w→False) (hl:¬LetsOut Q0) (hk:∀v w',K (a.put o.dst v) w'→K' (a.put o.dst v) w')
    (hd:∀d v w',K (({a with defers:=d :: a.defers}:Act).put o.dst v) w'→False) (h:o.wp P a w K Q0):o.wp P a w K' Q:=by
  unfold Oper.wp at*
  generalize (execOp a.eval o).run P w=r at*
  cases r with
  |ok nx w'=>
    cases nx <;> simp only [Oper.upon] at h ⊢ <;>
      first
        |exact hk _ _ h
        |exact (hd _ _ _ h).elim
        |exact Calls.mono h (fun e w'' he=>by cases e <;> first|exact hk _ _ he|exact (hp _ _ _ he).elim|exact (hl he).elim)
        |exact Rows.mono h (fun _ _ he=>hk _ _ he)
  |halt x w'=>
    cases x <;> simp only [Oper.upon] at h ⊢
    exact (hp _ _ _ h).elim
theorem put_lk {a:Act} {t:Nat} {v:Value} {s:Nat} {u:Value} (h:a.tmps[s]? =some u) (hne:s≠t):(a.put (some t) v).tmps[s]? =some u:=by
  simp only [Act.put,Array.getElem?_setIfInBounds]
  rw [if_neg (fun e=>hne e.symm)];exact h
theorem lk_app {m0:Fm} {t:Nat}:∀(m:Fm),lk (m++m0) t=(match lk m t with|some v=>some v|none=>lk m0 t)
  |[]=>rfl
  |(q,v) :: m=>by
    simp only [List.cons_append,lk]
    split
    · rfl
    · exact lk_app m
def Own (L:Array Bool) (a:Act) (g:Hp):List OpS→List As→Prop
  |[],A=>A=[]
  |e :: T,A=>if L.getD e.i false then ∃x A',A=e.O x++A'∧a.tmps[e.t]? =some (e.val x)∧Holds g (e.R x)∧Own L a g T A' else Own L a g T A
theorem Own.left {L:Array Bool} {a:Act} {g:Hp} {e:OpS}:∀{T:List OpS} {A:List As},Own L a g T A→e∈T→L.getD e.i false=true→Left a g e
  |[],_,_,h,_=>by cases h
  |d :: T,A,ho,h,hL=>by
    unfold Own at ho
    rcases List.mem_cons.1 h with h|h
    · subst h
      rw [hL,if_pos rfl] at ho
      obtain ⟨x,A',-,h1,h2,-⟩:=ho
      exact ⟨x,h1,h2⟩
    · split at ho
      · obtain ⟨x, A', -, -, -, h3⟩ := ho
        exact Own.left h3 h hL
      · exact Own.left ho h hL
theorem Own.all {L:Array Bool} {a:Act} {g:Hp}:∀{T:List OpS} {A:List As} {f:Fm→List As→List Fa→Prop},Own L a g T A→(∀e∈T,L.getD e.i false=true)→DA T f→∃m R,f m A R∧(∀t v,lk m t=some v→a.tmps[t]? =some v)∧Holds g R
  |[],A,f,ho,_,h=>by
    have:A=[]:=ho
    subst this
    exact ⟨[],[],h,(fun _ _ e=>by cases e),trivial⟩
  |e :: T,A,f,ho,hall,h=>by
    unfold Own at ho
    rw [hall e (List.mem_cons_self ..),if_pos rfl] at ho
    obtain ⟨x,A',hA,hx,hr,h3⟩:=ho
    subst hA
    obtain ⟨m,R,hf,hm,hR⟩:=Own.all h3 (fun d hd=>hall d (List.mem_cons_of_mem _ hd)) (h x)
    refine ⟨_,_,hf,fun t v e'=> ?_,Holds.app hr hR⟩
    simp only [lk] at e'
    split at e'
    · rename_i hb
      have:e.t=t:=Nat.eq_of_beq_eq_true hb
      cases e'
      rw [← this];exact hx
    · exact hm t v e'
theorem Own.none {L:Array Bool} {a:Act} {g:Hp}:∀{T:List OpS},(∀e∈T,L.getD e.i false=false)→Own L a g T []
  |[],_=>rfl
  |e :: T,h=>by
    unfold Own
    rw [h e (List.mem_cons_self ..),if_neg (by simp)]
    exact Own.none fun d hd=>h d (List.mem_cons_of_mem _ hd)
theorem Own.keep {L:Array Bool} {a:Act} {g g':Hp} {i t:Nat} {v:Value} (hg:g.le g'):∀{T:List OpS} {A:List As},Own L a g T A→(∀d∈T,d.i≠i∧d.t≠t)→Own (L.setIfInBounds i true) (a.put (some t) v) g' T A
  |[],_,h,_=>h
  |d :: T,A,ho,h=>by
    obtain ⟨h1,h2⟩:=h d (List.mem_cons_self ..)
    have hr:=fun x hx=>h x (List.mem_cons_of_mem _ hx)
    unfold Own at ho ⊢
    rw [getD_set_ne false (fun e=>h1 e.symm)]
    split at ho
    · obtain ⟨x, A', h3, h4, h5, h6⟩ := ho
      rename_i hL
      rw [if_pos hL]
      exact ⟨x,A',h3,put_lk h4 h2,Holds.mono hg h5,Own.keep hg h6 hr⟩
    · rename_i hL
      rw [if_neg hL]
      exact Own.keep hg ho hr
theorem Own.step {L:Array Bool} {a:Act} {g g':Hp} {e:OpS} {x:e.X} (hg:g.le g') (hsz:e.i<L.size) (hx:(a.put (some e.t) (e.val x)).tmps[e.t]? =some (e.val x)) (hR:Holds g' (e.R x)) (hu:L.getD e.i false=false):
    ∀{T:List OpS} {A:List As},Own L a g T A→e∈T→(∀d∈T,d=e∨(d.i≠e.i∧d.t≠e.t))→T.Pairwise (fun d d'=>d.t≠d'.t)→∃A',Own (L.setIfInBounds e.i true) (a.put (some e.t) (e.val x)) g' T A'∧(e.O x++A).Perm A'
  |[],_,_,h,_,_=>by cases h
  |d :: T,A,ho,he,hd,hp=>by
    have hp':=List.pairwise_cons.1 hp
    by_cases hde:d=e
    · subst hde
      unfold Own at ho
      rw [hu,if_neg (by simp)] at ho
      refine ⟨d.O x++A,?_,List.Perm.refl _⟩
      unfold Own
      rw [show (L.setIfInBounds d.i true).getD d.i false=true by simp [Array.getD_eq_getD_getElem?,hsz],if_pos rfl]
      refine ⟨x,A,rfl,hx,hR,Own.keep hg ho fun b hb=> ?_⟩
      rcases hd b (List.mem_cons_of_mem _ hb) with h|h
      · subst h;exact absurd rfl (hp'.1 _ hb)
      · exact h
    · have he':e∈T:=by
        rcases List.mem_cons.1 he with h|h
        · exact absurd h.symm hde
        · exact h
      obtain ⟨h1,h2⟩:=(hd d (List.mem_cons_self ..)).resolve_left hde
      unfold Own at ho
      split at ho
      · rename_i hL
        obtain ⟨y,A',h3,h4,h5,h6⟩:=ho
        obtain ⟨A2,h7,h8⟩:=Own.step hg hsz hx hR hu h6 he' (fun b hb=>hd b (List.mem_cons_of_mem _ hb)) hp'.2
        refine ⟨d.O y++A2,?_,?_⟩
        · unfold Own
          rw [getD_set_ne false (fun k=>h1 k.symm),hL,if_pos rfl]
          exact ⟨y,A2,rfl,put_lk h4 h2,Holds.mono hg h5,h7⟩
        · subst h3
          rw [← List.append_assoc]
          refine (List.Perm.append_right _ List.perm_append_comm).trans ?_
          rw [List.append_assoc]
          exact List.Perm.append_left _ h8
      · rename_i hL
        obtain ⟨A2,h7,h8⟩:=Own.step hg hsz hx hR hu ho he' (fun b hb=>hd b (List.mem_cons_of_mem _ hb)) hp'.2
        refine ⟨A2,?_,h8⟩
        unfold Own
        rw [getD_set_ne false (fun k=>h1 k.symm),if_neg hL]
        exact h7
theorem StepOK.run {m0:Fm} {R0:List Fa} {e:OpS} {T:List OpS} {o:Oper} {ps:List Nat} (s:StepOK P ops n m0 R0 e T o ps) {a:Act} {w:World} {F:List As} {hf g:Hp} {K':Act→World→Prop}
    (f:Fr n a m0) (mm:MemAt c w F R0 hf g) (hps:∀p∈ps,Left a g (T.getD p default))
    (hk:∀(x:e.X) w' g' h',Fr n (a.put (some e.t) (e.val x)) m0→g.le g'→h'.apart hf→Sep g' (e.O x) h'→Sep g' F hf→MemAt c w' (e.O x++F) R0 (h'.join hf) g'→Holds g' (e.R x)→(a.put (some e.t) (e.val x)).tmps[e.t]? =some (e.val x)→K' (a.put (some e.t) (e.val x)) w'):wpOp P ops Q e.i K' a w:=by
  obtain ⟨m,R,hf1,hm,hR⟩:=DP.use (s.go ⟨w,Hp.emp,g⟩) hps
  have hfr:Fr n a (m++m0):=⟨f.defers,f.size,fun t v h=>by
    rw [lk_app] at h
    cases hl:lk m t with
    |some u=>rw [hl] at h;cases h;exact hm t _ hl
    |none=>rw [hl] at h;exact f.tmp t v h⟩
  have hQ:PanicOk (locQ ⟨w,Hp.emp,g⟩ n e):=fun ch a d v w x=>x
  have hs1:Region.noSelect #[ofr o]=true:=s.hn
  have hcl:Closed #[ofr o] 100000 #[false]:=by
    intro q o' ho ht ed hed
    have hq:q=0:=by
      have:=(Array.getElem?_eq_some_iff.1 ho).1
      simpa using this
    subst hq
    have:o'=ofr o:=by simpa using ho.symm
    subst this
    simp [ofr] at hed
  have hR2:Holds g (R++R0):=Holds.app hR mm.holds
  have hmem:MemAt ⟨w,Hp.emp,g⟩ w ([]++[]) (R++R0) (Hp.emp.join Hp.emp) g:=Mem.start rfl hR2 (Hp.emp_apart g) (fun _ _ e=>by cases e) mm.hasG
  have h1:=hf1 hQ hs1 hcl a w Hp.emp Hp.emp g hfr rfl rfl (Hp.emp_apart _) hmem
  have hrd:0∈Region.ready .any #[ofr o] #[false]:=mem_ready.2 ⟨rfl,ofr o,rfl,fun e he=>by simp [ofr] at he⟩
  have h2:=h1.2 0 hrd
  have hd:o.dst=some e.t:=s.hd
  have hid:ops[e.i]? =some o:=s.hi
  unfold wpOp at h2 ⊢
  rw [hid]
  have hwant:∀y,Region.wanted o y=true:=fun y=>by simp [Region.wanted,s.hg]
  have hwant2:∀y,Region.wanted (ofr o) y=true:=fun y=>by simp [Region.wanted,ofr]
  simp only [hwant,if_true]
  have h3:(ofr o).wp P a w (fun a' w'=>SL 100000 Hp.emp Hp.emp g (#[false].setIfInBounds 0 true) w'∧wpAnyI P #[ofr o] (locQ ⟨w,Hp.emp,g⟩ n e) (SL 100000 Hp.emp Hp.emp g) 0 (#[false].setIfInBounds 0 true) a' w') (locQ ⟨w,Hp.emp,g⟩ n e):=by
    have:(#[ofr o]:Array Oper)[0]? =some (ofr o):=rfl
    simp only [this,hwant2,if_true] at h2
    rcases h2 with h2|⟨_,b,w9,h2⟩
    · exact h2
    · exact h2.elim
  have h4:o.wp P a w (fun a' w'=>SL 100000 Hp.emp Hp.emp g (#[false].setIfInBounds 0 true) w'∧wpAnyI P #[ofr o] (locQ ⟨w,Hp.emp,g⟩ n e) (SL 100000 Hp.emp Hp.emp g) 0 (#[false].setIfInBounds 0 true) a' w') (locQ ⟨w,Hp.emp,g⟩ n e):=h3
  refine .inl (wp_loc (fun ch a w x=>x) (fun ⟨_,_,x⟩=>x) (fun v w' hK=> ?_) (fun d v w' hK=> ?_) h4)
  · rw [hd] at hK ⊢
    obtain ⟨_,_,x,_,hfx,hM⟩:=hK
    have ht:e.t<n.sz:=Nat.lt_of_succ_le (Nat.le_of_ble_eq_true s.ht)
    have hsz:a.tmps.size=n.sz:=f.size
    have htv:=hfx.tmp e.t (e.val x) (by simp [lk,Nat.beq_refl])
    have hv:v=e.val x:=by
      have:=htv
      simpa [Act.put,Array.getElem?_setIfInBounds,hsz,ht] using this
    subst hv
    have mm0:MemAt c w ([]++F) R0 (Hp.emp.join hf) g:=by simpa [Hp.emp_join] using mm
    obtain ⟨h',g',mm',sO',sF,ap',le'⟩:=MemAt.framed (O:=[]) (F:=F) rfl mm.sep (Hp.emp_apart _) mm0 hM
    have hR':=mm'.holds
    have hsplit:∀(A B:List Fa),Holds g' (A++B)→Holds g' A∧Holds g' B:=by
      intro A
      induction A with
      |nil=>exact fun B hh=>⟨trivial,hh⟩
      |cons r l ih=>exact fun B hh=>⟨⟨hh.1,(ih B hh.2).1⟩,(ih B hh.2).2⟩
    obtain ⟨hRx,hR0⟩:=hsplit _ _ hR'
    refine hk x w' g' h' ⟨?_,?_,fun s' u hl=> ?_⟩ le' ap' sO' sF ⟨mm'.sep,hR0,mm'.apart,mm'.hasH,mm'.hasG,mm'.le,mm'.newG,mm'.newH,mm'.kept⟩ hRx htv
    · exact f.defers
    · simp [Act.put,hsz]
    · refine put_lk (f.tmp s' u hl) (fun e' => ?_)
      subst e'
      have:=s.hm
      rw [hl] at this;cases this
  · rw [hd] at hK
    obtain ⟨_,_,x,_,hfx,_⟩:=hK
    have:=hfx.defers
    have h0:=f.defers
    simp only [Act.put] at this
    rw [h0] at this
    have:=congrArg List.length this
    simp at this
theorem WF.pair {m0:Fm} {R0:List Fa}:∀{T:List OpS},WF P ops n m0 R0 T→T.Pairwise (fun d d'=>d.t≠d'.t)
  |[],_=>List.Pairwise.nil
  |d :: T,⟨⟨o,ps,h1⟩,h2⟩=>List.pairwise_cons.2 ⟨fun b hb e=>by
      have:=List.all_eq_true.1 h1.hT b hb
      rw [e] at this;simp [Nat.beq_refl] at this,WF.pair h2⟩
def BackE (ops:Array Oper):Bool:=(List.range ops.size).all fun i=>match ops[i]? with|some o=>o.after.all fun e=> !Region.binds .any e||Nat.blt e.on i|none=>true
theorem ready_nil {L:Array Bool} (hb:BackE ops=true) (hr:Region.ready .any ops L=[]) (hsz:L.size=ops.size):∀i,i<ops.size→L.getD i false=true:=by
  intro i
  induction i using Nat.strongRecOn with
  |_ i ih=>
    intro hi
    cases hL:L.getD i false with
    |true=>rfl
    |false=>
      exfalso
      have ho:ops[i]? =some ops[i]:=Array.getElem?_eq_getElem hi
      have hLt:L.getD i true=false:=by
        have h':i<L.size:=hsz ▸ hi
        simp only [Array.getD_eq_getD_getElem?,Array.getElem?_eq_getElem h',Option.getD_some] at hL ⊢
        exact hL
      have hmem:i∈Region.ready .any ops L:=mem_ready.2 ⟨hLt,ops[i],ho,fun e he hbn=>by
        have:=List.all_eq_true.1 hb i (List.mem_range.2 hi)
        rw [ho] at this
        have h2:=Array.all_eq_true_iff_forall_mem.1 this e he
        rw [hbn] at h2
        have h3:e.on<i:=by simpa using h2
        exact ih e.on h3 (Nat.lt_trans h3 hi)⟩
      rw [hr] at hmem;cases hmem
def mark (M:Array Bool) (o:Oper):Array Bool:=o.after.foldl (fun M e=>if Region.binds .any e then M.setIfInBounds e.on true else M) M
def marks (ops:Array Oper) (q:Nat):Array Bool:=((List.range q).reverse).foldl (fun M i=>if M.getD i false then (match ops[i]? with|some o=>mark M o|none=>M) else M) (match ops[q]? with|some o=>mark (Array.replicate ops.size false) o|none=>Array.replicate ops.size false)
theorem getD_set_or {M:Array Bool} {i j:Nat} (h:(M.setIfInBounds i true).getD j false=true):j=i∨M.getD j false=true:=by
  by_cases e:i=j
  · exact .inl e.symm
  · rw [getD_set_ne false e] at h;exact .inr h
theorem mark_ok {o:Oper} {D:Nat→Prop} {M:Array Bool} (hM:∀i,M.getD i false=true→D i) (ho:∀e∈o.after,Region.binds .any e=true→D e.on):∀i,(mark M o).getD i false=true→D i:=by
  unfold mark
  rw [← Array.foldl_toList]
  have:∀(l:List Edge) (M:Array Bool),(∀e∈l,Region.binds .any e=true→D e.on)→(∀i,M.getD i false=true→D i)→∀i,(l.foldl (fun M e=>if Region.binds .any e then M.setIfInBounds e.on true else M) M).getD i false=true→D i:=by
    intro l
    induction l with
    |nil=>exact fun M _ h=>h
    |cons e l ih=>
      intro M hl hM
      refine ih _ (fun e' he'=>hl e' (List.mem_cons_of_mem _ he')) (fun i hi=> ?_)
      dsimp only at hi
      split at hi
      · rename_i hb
        rcases getD_set_or hi with h|h
        · rw [h];exact hl e (List.mem_cons_self ..) hb
        · exact hM i h
      · exact hM i hi
  exact this _ _ (fun e he=>ho e (Array.mem_toList_iff.1 he)) hM
theorem marks_ok {q:Nat} {o:Oper} {D:Nat→Prop} (hq:ops[q]? =some o) (h0:∀e∈o.after,Region.binds .any e=true→D e.on) (hD:∀i oi,ops[i]? =some oi→D i→∀e∈oi.after,Region.binds .any e=true→D e.on):
    ∀i,(marks ops q).getD i false=true→D i:=by
  unfold marks
  rw [hq]
  have key:∀(l:List Nat) (M:Array Bool),(∀i,M.getD i false=true→D i)→∀i,(l.foldl (fun M i=>if M.getD i false then (match ops[i]? with|some o=>mark M o|none=>M) else M) M).getD i false=true→D i:=by
    intro l
    induction l with
    |nil=>exact fun M h=>h
    |cons x l ih=>
      intro M hM
      refine ih _ (fun i hi=> ?_)
      dsimp only at hi
      split at hi
      · rename_i hx
        cases hox:ops[x]? with
        |none=>rw [hox] at hi;exact hM i hi
        |some ox=>rw [hox] at hi;exact mark_ok hM (hD x ox hox (hM x hx)) i hi
      · exact hM i hi
  refine key _ _ (mark_ok (fun i hi=> ?_) h0)
  rw [Array.getD_eq_getD_getElem?,Array.getElem?_replicate] at hi
  split at hi <;> simp at hi
def Later (ops:Array Oper) (L':Array Bool) (T:List OpS):Bool:=(List.range ops.size).all fun q=>L'.getD q true||T.all fun e=>(marks ops q).getD e.i false
def CovL (ops:Array Oper) (L L':Array Bool) (T:List OpS):Bool:=(List.range ops.size).all fun i=>L'.getD i false == (L.getD i false||T.any fun e=>Nat.beq e.i i)
def undone (T:List OpS) (L:Array Bool):Nat:=(T.filter fun e=> !L.getD e.i false).length
theorem wpAnyI_fuel {S:Array Bool→World→Prop}:∀(k:Nat) (L:Array Bool) (a:Act) (w:World),wpAnyI P ops Q S k L a w→wpAnyI P ops Q S (k+1) L a w
  |0,_,_,_,h=>⟨fun _=>h.2,fun i hi=>by rw [h.1] at hi;cases hi⟩
  |k+1,_,_,_,h=>⟨h.1,fun i hi=>wpOp_mono (fun a' w' h'=>⟨h'.1,wpAnyI_fuel k _ a' w' h'.2⟩) (h.2 i hi)⟩
theorem wpAnyI_fuels {S:Array Bool→World→Prop} {k:Nat} {L:Array Bool} {a:Act} {w:World} (h:wpAnyI P ops Q S k L a w):∀j,wpAnyI P ops Q S (k+j) L a w
  |0=>h
  |j+1=>wpAnyI_fuel _ _ _ _ (wpAnyI_fuels h j)
theorem undone_set {T:List OpS} {L:Array Bool} {e:OpS} (he:e∈T) (hu:L.getD e.i true=false):undone T (L.setIfInBounds e.i true)+1≤undone T L:=by
  have hsz:e.i<L.size:=by
    rcases Nat.lt_or_ge e.i L.size with h|h
    · exact h
    · simp [Array.getElem?_eq_none h] at hu
  have huf:L.getD e.i false=false:=by
    simp only [Array.getD_eq_getD_getElem?,Array.getElem?_eq_getElem hsz,Option.getD_some] at hu ⊢;exact hu
  have hmon:∀l:List OpS,undone l (L.setIfInBounds e.i true)≤undone l L:=by
    intro l
    induction l with
    |nil=>exact Nat.le_refl _
    |cons d l ih=>
      unfold undone at ih ⊢
      rw [List.filter_cons,List.filter_cons]
      by_cases hd:e.i=d.i
      · have h1 : (L.setIfInBounds e.i true).getD d.i false = true := by rw [← hd]; simp [Array.getD_eq_getD_getElem?, hsz]
        rw [h1]
        simp only [Bool.not_true,Bool.false_eq_true,if_false]
        split <;> (try simp only [List.length_cons]) <;> omega
      · rw [getD_set_ne false hd]
        split <;> (try simp only [List.length_cons]) <;> omega
  clear hu
  induction T with
  |nil=>cases he
  |cons d l ih=>
    unfold undone at ih ⊢
    rw [List.filter_cons,List.filter_cons]
    by_cases hd:e.i=d.i
    · have h1 : (L.setIfInBounds e.i true).getD d.i false = true := by rw [← hd]; simp [Array.getD_eq_getD_getElem?, hsz]
      rw [h1,←hd,huf]
      have:=hmon l
      unfold undone at this
      simp only [Bool.not_true,Bool.not_false,Bool.false_eq_true,if_false,if_true,List.length_cons]
      omega
    · have he':e∈l:=by
        rcases List.mem_cons.1 he with h|h
        · subst h;exact absurd rfl hd
        · exact h
      have:=ih he'
      rw [getD_set_ne false hd]
      split <;> (try simp only [List.length_cons]) <;> omega
theorem zJg {m0:Fm} {R0:List Fa} {T:List OpS} {L':Array Bool} {k':Nat} (hwf:WF P ops n m0 R0 T) (hb:BackE ops=true) (hlat:Later ops L' T=true) (hsz':L'.size=ops.size) (hTL:∀e∈T,L'.getD e.i false=true)
    (hw hr g0:Hp)
    (hfin:∀(a:Act) (w:World) (g hA:Hp) (A:List As),g0.le g→Closed ops wi L'→Fr n a m0→Sep g A hA→hA.apart (hw.join hr)→MemAt c w (A++(OW++O)) R0 (hA.join (hw.join hr)) g→Own L' a g T A→wpAnyI P ops Q (SL wi (hA.join hw) hr g) k' L' a w) (ap:hw.apart hr) (s0:Sep g0 OW hw) (s1:Sep g0 O hr):
    ∀(j:Nat) (L:Array Bool) (a:Act) (w:World) (g hA:Hp) (A:List As),g0.le g→L.size=ops.size→Closed ops wi L→undone T L≤j→(∀i,L.getD i false=true→L'.getD i false=true)→(∀i,L'.getD i false=true→L.getD i false=true∨∃e∈T,e.i=i)→Fr n a m0→Sep g A hA→hA.apart (hw.join hr)→MemAt c w (A++(OW++O)) R0 (hA.join (hw.join hr)) g→
      Own L a g T A→wpAnyI P ops Q (SL wi (hA.join hw) hr g) (k'+j) L a w:=by
  have hsz:∀e∈T,e.i<ops.size:=fun e he=>by
    obtain ⟨T',o,ps,s,_⟩:=hwf.get he
    exact (Array.getElem?_eq_some_iff.1 s.hi).1
  have done:∀(L:Array Bool) (a:Act) (w:World) (g hA:Hp) (A:List As) (j:Nat),g0.le g→L.size=ops.size→Closed ops wi L→(∀e∈T,L.getD e.i false=true)→(∀i,L.getD i false=true→L'.getD i false=true)→(∀i,L'.getD i false=true→L.getD i false=true∨∃e∈T,e.i=i)→Fr n a m0→Sep g A hA→hA.apart (hw.join hr)→MemAt c w (A++(OW++O)) R0 (hA.join (hw.join hr)) g→
      Own L a g T A→wpAnyI P ops Q (SL wi (hA.join hw) hr g) (k'+j) L a w:=by
    intro L a w g hA A j hg0 hs hcl hall h1 h2 f sA apA mm hI
    have hL:L=L':=by
      apply Array.ext
      · rw [hs,hsz']
      · intro i hi hi'
        have e1:L.getD i false=L[i]:=by simp [Array.getD_eq_getD_getElem?,hi]
        have e2:L'.getD i false=L'[i]:=by simp [Array.getD_eq_getD_getElem?,hi']
        rw [← e1,←e2]
        cases h3:L.getD i false with
        |true=>exact (h1 i h3).symm
        |false=>
          cases h4:L'.getD i false with
          |false=>rfl
          |true=>
            rcases h2 i h4 with h5|⟨e,he,rfl⟩
            · rw [h3] at h5;cases h5
            · rw [hall e he] at h3;cases h3
    subst hL
    exact wpAnyI_fuels (hfin a w g hA A hg0 hcl f sA apA mm hI) j
  intro j
  induction j with
  |zero=>
    intro L a w g hA A hg0 hs hcl hc h1 h2 f sA apA mm hI
    refine done L a w g hA A 0 hg0 hs hcl (fun e he=> ?_) h1 h2 f sA apA mm hI
    cases hd:L.getD e.i false with
    |true=>rfl
    |false=>
      exfalso
      have:e∈T.filter fun e=> !L.getD e.i false:=List.mem_filter.2 ⟨he,by rw [hd];rfl⟩
      have h0:(T.filter fun e=> !L.getD e.i false)=[]:=List.eq_nil_of_length_eq_zero (by unfold undone at hc;omega)
      rw [h0] at this;cases this
  |succ j ih=>
    intro L a w g hA A hg0 hs hcl hc h1 h2 f sA apA mm hI
    by_cases hall:∀e∈T,L.getD e.i false=true
    · exact done L a w g hA A (j+1) hg0 hs hcl hall h1 h2 f sA apA mm hI
    · refine ⟨fun h0 => absurd (fun e he => ready_nil hb h0 hs _ (hsz e he)) hall, fun i hi => ?_⟩
      obtain ⟨hu,o,ho,hbef⟩:=mem_ready.1 hi
      have hlt:=(Array.getElem?_eq_some_iff.1 ho).1
      have hcl2:∀i oi,ops[i]? =some oi→L.getD i false=true→∀e∈oi.after,Region.binds .any e=true→L.getD e.on false=true:=fun i oi hoi hL=>hcl i oi hoi (getD_false_true hL)
      have hT:∃e∈T,e.i=i:=by
        cases hL':L'.getD i true with
        |true=>
          have hi':L'.getD i false=true:=by
            have h':i<L'.size:=hsz' ▸ hlt
            simp only [Array.getD_eq_getD_getElem?,Array.getElem?_eq_getElem h',Option.getD_some] at hL' ⊢;exact hL'
          rcases h2 i hi' with h|h
          · have := getD_false_true h
            rw [hu] at this;cases this
          · exact h
        |false=>
          exfalso
          have:=List.all_eq_true.1 hlat i (List.mem_range.2 hlt)
          rw [hL',Bool.false_or] at this
          exact hall fun e he=>marks_ok (D:=fun i=>L.getD i false=true) ho hbef hcl2 e.i (List.all_eq_true.1 this e he)
      obtain ⟨e,he,rfl⟩:=hT
      obtain ⟨T',o',ps,s,hsub⟩:=hwf.get he
      have ho':o'=o:=by have:=s.hi;rw [ho] at this;exact (Option.some.inj this).symm
      subst ho'
      have huf:L.getD e.i false=false:=by
        have h':e.i<L.size:=hs ▸ hlt
        simp only [Array.getD_eq_getD_getElem?,Array.getElem?_eq_getElem h',Option.getD_some] at hu ⊢;exact hu
      refine s.run f mm (fun p hp=> ?_) (fun x w' g' h' f' le' ap' sO' sF mm' hR htv=> ?_)
      · have := List.all_eq_true.1 s.hp p hp
        simp only [Bool.and_eq_true] at this
        obtain ⟨hpl,hany⟩:=this
        have hpl':p<T'.length:=by simpa using hpl
        obtain ⟨ed,hed,hed2⟩:=Array.any_eq_true'.1 hany
        simp only [Bool.and_eq_true] at hed2
        have hon:ed.on=(T'.getD p default).i:=Nat.eq_of_beq_eq_true hed2.2
        have hmem:T'.getD p default∈T':=by
          rw [List.getD_eq_getElem?_getD,List.getElem?_eq_getElem hpl']
          exact List.getElem_mem _
        exact hI.left (hsub _ hmem) (by rw [← hon];exact hbef ed hed hed2.1)
      · have hdist:∀d∈T,d=e∨(d.i≠e.i∧d.t≠e.t):=fun d hd=>by
          by_cases hde:d=e
          · exact .inl hde
          · refine .inr ⟨fun h => ?_, fun h => hde (hwf.dist hd he h)⟩
            obtain ⟨_,o2,_,s2,_⟩:=hwf.get hd
            have h3:=s2.hi
            rw [h,s.hi] at h3
            have:o'=o2:=Option.some.inj h3
            subst this
            have h4:=s.hd
            rw [s2.hd] at h4
            exact hde (hwf.dist hd he (Option.some.inj h4))
        obtain ⟨A2,hI2,hperm⟩:=Own.step le' (by rw [hs];exact hlt) htv hR huf hI he hdist hwf.pair
        have apq:=Hp.apart_joinR.1 ap'
        have sAO:Sep g' (e.O x++A) (h'.join hA):=Sep.app sO' (Sep.mono le' sA) apq.1
        have sA2:Sep g' A2 (h'.join hA):=Sep.perm hperm sAO
        have apn:(h'.join hA).apart (hw.join hr):=Hp.apart_join.2 ⟨apq.2,apA⟩
        have mm2:MemAt c w' (A2++(OW++O)) R0 ((h'.join hA).join (hw.join hr)) g':=by
          rw [Hp.join_assoc]
          refine ⟨?_,mm'.holds,mm'.apart,mm'.hasH,mm'.hasG,mm'.le,mm'.newG,mm'.newH,mm'.kept⟩
          rw [← Hp.join_assoc]
          exact Sep.app sA2 (Sep.app (Sep.mono (Hp.le_trans hg0 le') s0) (Sep.mono (Hp.le_trans hg0 le') s1) ap) apn
        have hasAll:Has w' (hA.join (hw.join hr)):=Has.mono mm'.hasH (Hp.le_joinR ap')
        have hasR:Has w' hr:=Has.mono hasAll (Hp.le_trans (Hp.le_joinR ap) (Hp.le_joinR apA))
        have hasW:Has w' (hA.join hw):=Has.mono hasAll (by rw [← Hp.join_assoc];exact Hp.le_joinL _ _)
        have hSL:SL wi (hA.join hw) hr g (L.setIfInBounds e.i true) w':=⟨hasR,Has.mono mm'.hasG le',fun _=>hasW⟩
        refine ⟨hSL,wpAnyI_strong (S':=SL wi ((h'.join hA).join hw) hr g') (fun L w2 ⟨x1,x2,x3⟩=>⟨x1,Has.mono x2 le',fun k=>Has.mono (x3 k) (by rw [Hp.join_assoc];exact Hp.le_joinR (Hp.apart_joinR.2 ⟨apq.1,(Hp.apart_joinR.1 apq.2).1⟩))⟩) _ _ _ _ (ih (L.setIfInBounds e.i true) _ w' g' (h'.join hA) A2 (Hp.le_trans hg0 le') (by simpa using hs) (hcl.step hi) ?_ ?_ ?_ f' sA2 apn mm2 hI2)⟩
        · have:=undone_set he hu;omega
        · intro q hq
          rcases getD_set_or hq with h|h
          · rw [h];exact hTL e he
          · exact h1 q h
        · intro q hq
          rcases h2 q hq with h|h
          · exact .inl (getD_set_mono h)
          · exact .inr h
def RunA (P:Program) (ops:Array Oper) (Q:Exit→Act→World→Prop) (c:Cx) (n:Sz) (wi k:Nat) (L:Array Bool) (m0:Fm) (OW O:List As) (R0:List Fa) (T:List OpS):Prop:=WF P ops n m0 R0 T→RunD P ops Q c n wi k L m0 OW O R0
theorem a_start (h:RunA P ops Q c n wi k L m OW O R []):RunD P ops Q c n wi k L m OW O R:=h trivial
theorem a_step (i:Nat) {t:Nat} {op:Op} {ty:TypeId} {pos:String} {af:Array Edge} {T:List OpS} (hi:ops[i]? =some ⟨some t,op,ty,pos,af,none⟩) {X:Type} (val:X→Value) (O':X→List As) (R':X→List Fa) (ps:List Nat)
    (hn:Region.noSelect #[⟨some t,op,ty,pos,#[],none⟩]=true) (ht:Nat.ble (t+1) n.sz=true) (hm:(lk m t).isNone=true) (hT:(T.all fun x=> !Nat.beq x.t t)=true)
    (hp:(ps.all fun p=>Nat.blt p T.length&&af.any fun ed=>Region.binds .any ed&&Nat.beq ed.on (T.getD p default).i)=true)
    (go:∀c,DP T ps (fun m1 R1=>RunD P #[⟨some t,op,ty,pos,#[],none⟩] (Exit.then (Some' c n (fun _:X=>True) (fun x=>[(t,val x)]) O' R') (fun _ _ _=>False)) c n 100000 1 #[false] (m1++m) [] [] (R1++R)))
    (h:RunA P ops Q c n wi k L m OW O R (⟨i,t,X,val,O',R'⟩ :: T)):RunA P ops Q c n wi k L m OW O R T:=
  fun hwf=>h ⟨⟨⟨some t,op,ty,pos,af,none⟩,ps,hi,rfl,rfl,hn,ht,hm,hT,hp,go⟩,hwf⟩
theorem a_fin {T:List OpS} {k':Nat} {L':Array Bool} (hsz:Nat.beq L.size ops.size=true) (hsz':Nat.beq L'.size ops.size=true) (hb:BackE ops=true) (hc:CovL ops L L' T=true) (hlat:Later ops L' T=true) (hk:Nat.ble (k'+T.length) k=true) (hL:(T.all fun e=> !L.getD e.i false)=true)
    (h:DA T (fun m1 A1 R1=>RunD P ops Q c n wi k' L' (m1++m) (A1++OW) O (R1++R))):RunA P ops Q c n wi k L m OW O R T:=fun hwf hQ hs hcl a w hw hr g f s1 s2 ap mm=>by
  have hz:L.size=ops.size:=Nat.eq_of_beq_eq_true hsz
  have hz':L'.size=ops.size:=Nat.eq_of_beq_eq_true hsz'
  have hcov:∀i,L'.getD i false=(L.getD i false||T.any fun e=>Nat.beq e.i i):=fun i=>by
    rcases Nat.lt_or_ge i ops.size with hi|hi
    · have := List.all_eq_true.1 hc i (List.mem_range.2 hi)
      exact beq_iff_eq.1 this
    · have e1 : L'.getD i false = false := by simp [Array.getElem?_eq_none (show L'.size ≤ i by omega)]
      have e2:L.getD i false=false:=by simp [Array.getElem?_eq_none (show L.size≤i by omega)]
      rw [e1,e2,Bool.false_or]
      symm
      cases hx:T.any fun e=>Nat.beq e.i i with
      |false=>rfl
      |true=>
        obtain ⟨e,he,h2⟩:=List.any_eq_true.1 hx
        obtain ⟨_,_,_,s,_⟩:=hwf.get he
        have:=(Array.getElem?_eq_some_iff.1 s.hi).1
        have h3:e.i=i:=Nat.eq_of_beq_eq_true h2
        omega
  have hLn:∀e∈T,L.getD e.i false=false:=fun e he=>by
    have:=List.all_eq_true.1 hL e he
    simpa using this
  have hTL:∀e∈T,L'.getD e.i false=true:=fun e he=>by
    rw [hcov,Bool.or_eq_true]
    exact .inr (List.any_eq_true.2 ⟨e,he,Nat.beq_refl _⟩)
  have hund:undone T L≤T.length:=List.length_filter_le ..
  have hk':k'+T.length≤k:=Nat.le_of_ble_eq_true hk
  have key:=zJg (P:=P) (Q:=Q) (c:=c) (n:=n) (ops:=ops) (OW:=OW) (O:=O) (wi:=wi) (k':=k') hwf hb hlat hz' hTL hw hr g (fun a w g' hA A hg' hcl' f sA apA mm hI=> ?_) ap s1 s2 T.length L a w g Hp.emp [] (Hp.le_refl _) hz hcl hund (fun i hi=>by rw [hcov,hi,Bool.true_or]) (fun i hi=>by
      rw [hcov,Bool.or_eq_true] at hi
      rcases hi with hi|hi
      · exact .inl hi
      · obtain ⟨e, he, h2⟩ := List.any_eq_true.1 hi
        exact .inr ⟨e,he,Nat.eq_of_beq_eq_true h2⟩) f rfl (Hp.emp_apart _) (by simpa [Hp.emp_join] using mm) (Own.none hLn)
  · have : k = k' + T.length + (k - (k' + T.length)) := by omega
    rw [this]
    rw [Hp.emp_join] at key
    exact wpAnyI_fuels key _
  · obtain ⟨m1, R1, hP, hm, hR⟩ := hI.all hTL h
    have apA':=Hp.apart_joinR.1 apA
    refine hP hQ hs hcl' a w (hA.join hw) hr g' ⟨f.defers,f.size,fun t v h=> ?_⟩ (Sep.app sA (Sep.mono hg' s1) apA'.1) (Sep.mono hg' s2) (Hp.apart_join.2 ⟨apA'.2,ap⟩) ?_
    · rw [lk_app] at h
      cases hl:lk m1 t with
      |some u=>rw [hl] at h;cases h;exact hm t _ hl
      |none=>rw [hl] at h;exact f.tmp t v h
    · rw [List.append_assoc, Hp.join_assoc]
      exact ⟨mm.sep,Holds.app hR mm.holds,mm.apart,mm.hasH,mm.hasG,mm.le,mm.newG,mm.newH,mm.kept⟩
end
end Go.Proofs.YtpdbimfnhglhpaaGreat.Sp
namespace Go.Proofs.YtpdbimfnhglhpaaGreat.Sp
open Go
set_option linter.unusedVariables false
set_option linter.unusedSectionVars false
section
variable {P : Program} {Q : Exit → Act → World → Prop} {c : Cx} {n : Sz} {ops : Array Oper} {o : Oper} {m : Fm} {OW O : List As} {R R' : List Fa} {k wi : Nat} {L : Array Bool}
theorem o_efwL {i:Nat} {A:List As} (hlw:(L.setIfInBounds i true).getD wi true=true) (hi:ops[i]? =some o) (hw':wnt ops m o=some true) (hd:okT n o.dst=true) {Y:Type} {φ:Y→Prop} {val:Y→Value} {A':Y→List As} {R1:Y→List Fa} (h:Ef P n o m A R φ val A' R1)
    (kont:∀y,φ y→RunD P ops Q c n wi k (L.setIfInBounds i true) (updM m o.dst (val y)) (A' y++OW) O (R1 y++R)):RunO P ops Q c n wi k L i m (A++OW) O R:=fun hQ hs hcl hrd a w hw hr g f s1 s2 ap mm=>by
  unfold wpOp
  simp only [hi]
  rw [if_pos (f.wanted hw')]
  obtain ⟨k1,k2,a12,e,sA,sW⟩:=Sep.split s1
  subst e
  have hapA:=Hp.apart_join.1 ap
  have hk1:k1.apart g:=(Hp.apart_join.1 (Hp.apart_join.1 mm.apart).1).1
  have hkw:Has w k1:=Has.mono mm.hasH (Hp.le_trans (Hp.le_joinL k1 k2) (Hp.le_joinL _ _))
  refine .inl<|WpB.wp (h a f w k1 g sA mm.holds hk1 hkw mm.hasG _ _ fun y w' hy hM=> ?_)
  have apF:k1.apart (k2.join hr):=Hp.apart_joinR.2 ⟨a12,hapA.1⟩
  have hsF:Sep g (OW++O) (k2.join hr):=Sep.app sW s2 hapA.2
  have mm0:MemAt c w (A++(OW++O)) R (k1.join (k2.join hr)) g:=by rw [← Hp.join_assoc,←List.append_assoc];exact mm
  obtain ⟨h',g',mm',sO',sF,ap',le'⟩:=MemAt.framed (O:=A) (F:=OW++O) sA hsF apF mm0 hM
  have ap2:=Hp.apart_joinR.1 ap'
  have hasj:Has w' (k2.join hr):=Has.mono mm'.hasH (Hp.le_joinR ap')
  have hasr:Has w' hr:=Has.mono hasj (Hp.le_joinR hapA.2)
  refine ⟨⟨hasr,Has.mono mm'.hasG le',fun e=>by rw [hlw] at e;cases e⟩,?_⟩
  have sW':Sep g' (A' y++OW) (h'.join k2):=Sep.app sO' (Sep.mono le' sW) ap2.1
  have apn:(h'.join k2).apart hr:=Hp.apart_join.2 ⟨ap2.2,hapA.2⟩
  have mm2:MemAt c w' ((A' y++OW)++O) (R1 y++R) ((h'.join k2).join hr) g':=by
    rw [Hp.join_assoc,List.append_assoc]
    exact mm'
  refine wpAnyI_swap (hw:=h'.join k2) _ _ _ _ hlw ?_
  exact wpAnyI_strong (S':=SL wi (h'.join k2) hr g') (fun L w2 ⟨x1,x2,x3⟩=>⟨x1,Has.mono x2 le',x3⟩) _ _ _ _ (kont y hy hQ hs (hcl.step hrd) _ w' (h'.join k2) hr g' (f.put hd _) sW' (Sep.mono le' s2) apn mm2)
theorem zjg {i:Nat} {ty:TypeId} {ps:String} {af:Array Edge} {gd:Option (Nat×Bool)} {A:List As} {t0:Tmp} {fo:Operand} {xs:List Operand} {ats:Array TypeId} {f:Nat} {first cap vs:List Value} {js:List Nat} {Y:Type} {φ:Y→Prop} {val:Y→Value} {A':Y→List As} {R1:Y→List Fa}
    (hlw:(L.setIfInBounds i true).getD wi true=true) (hi:ops[i]? =some ⟨some t0,.call ⟨.value fo,xs.toArray,ats⟩,ty,ps,af,gd⟩) (hw:wnt ops m ⟨some t0,.call ⟨.value fo,xs.toArray,ats⟩,ty,ps,af,gd⟩=some true) (hd:Nat.ble (t0+1) n.sz=true) (hf:evo m fo=some (.func (.func f) first.toArray cap.toArray)) (hx:evs m xs vs) (hc:CanEnter P f)
    (h:Con P f (first++vs++cap) A R' φ val A' R1) (hs:SelR js R R')
    (kont:∀y,φ y→RunD P ops Q c n wi k (L.setIfInBounds i true) ((t0,val y) :: m) (A' y++OW) O (R1 y++R)):RunO P ops Q c n wi k L i m (A++OW) O R:=
  o_efwL hlw hi hw hd (Ef.weakR hs (zqc hf hx hc h)) kont
end
end Go.Proofs.YtpdbimfnhglhpaaGreat.Sp
namespace Go.Proofs.YtpdbimfnhglhpaaGreat.Sp
open Go
set_option linter.unusedVariables false
def andI (k:IntKind) (a b:Int):Int:=k.wrap ((BitVec.ofInt k.bits a &&& BitVec.ofInt k.bits b).toNat:Nat)
theorem zAg {z:Int}:InK .i8 z↔ -128≤z∧z≤127:=by simp [InK,IntKind.min,IntKind.max,IntKind.bits,IntKind.signed]
section
variable {P : Program} {n : Sz} {m : Fm} {O : List As} {R : List Fa} {d : Option Tmp} {ty : TypeId} {ps : String} {af : Array Edge} {gd : Option (Nat × Bool)}
theorem pv_and {t t2:TypeId} {x y:Operand} {k:IntKind} {a b:Int} (h1:evo m x=some (.int k a)) (h2:evo m y=some (.int k b)):PV P n ⟨d,.binOp .and t x y t2,ty,ps,af,gd⟩ m (.int k (andI k a b)):=fun ac w f=>by
  simp [execOp,f.ev h1,f.ev h2,eqGuard_at_int,binOp_and,Op.intBits,andI]
end
end Go.Proofs.YtpdbimfnhglhpaaGreat.Sp
namespace Go.Proofs.YtpdbimfnhglhpaaGreat.Sp
open Go
set_option linter.unusedVariables false
section
variable {P : Program} {n : Sz} {m : Fm} {R : List Fa} {d : Option Tmp} {ty : TypeId} {ps : String} {af : Array Edge} {gd : Option (Nat × Bool)} {α : Type}
theorem zkg {dT sT T e:TypeId} {x y:Operand} {r:Rp α} {p q:Option Addr} {cap k cap2:Nat} {xs ys:List α} (j:Nat) (hj:R[j]? =some (slF r q cap2 ys)) (hu:P.underlying dT=some (.slice e)) (ht:(P.info? e).map (·.size)=some r.sz) (hs1:r.sz=1)
    (h1:evo m x=some (.slice p k cap)) (hk:xs.length=k) (h2:evo m y=some (.slice q k cap2)) (hk2:ys.length=k) (h0:0<k):
    Ef P n ⟨d,.call ⟨.builtin .copy,#[x,y],#[dT,sT]⟩,ty,ps,af,gd⟩ m [rowA T r p cap xs] R (Y:=Unit) (fun _=>True) (fun _=> .int .i64 (k:Int)) (fun _=>[rowA T r p cap ys]) (fun _=>[]):=by
  intro a f w hh g s rr ap hw hg K Q hK
  obtain ⟨k1,k2,a1,e1,hA,e2⟩:=s
  have hk2':k2=Hp.emp:=e2
  subst hk2'
  rw [Hp.join_emp] at e1
  subst e1
  have hs:Sl r g q cap2 ys:=Holds.get j hj rr
  have hne:ys≠[]:=fun e=>by rw [e] at hk2;simp at hk2;omega
  obtain ⟨b2,off2,news,hq,hnl,hnc,hn1,hne'⟩:=hs.flat hne
  subst hq
  have hA':RowOn T r p cap xs g hh:=hA
  rcases hA' with ⟨_,_,rfl,_⟩|⟨b,off,cells,rfl,hlc,hcm,hcl,rfl,hel⟩
  · simp at hk;omega
  · have hblk := hw _ _ (Hp.single_self _ _)
    have hnews:∀j u,news[j]? =some u→w.cell? ((⟨b2,off2,none⟩:Addr).add j)=some u:=fun j u e=>by rw [Addr.add_lit];exact hnc w hg j u e
    rw [hs1] at hcl hnl
    have hnk:news.length=k:=by omega
    have hfit:off+news.length≤cells.length:=by omega
    have hr:=run_copy_row P w dT sT ty e b off k cap ⟨b2,off2,none⟩ k cap2 cells.toArray T news hu (by rw [ht,hs1]) hblk (by rw [hnk];exact (Nat.min_self k).symm) hnews (by simpa using hfit) hn1
    have hrun:(execOp a.eval ⟨d,.call ⟨.builtin .copy,#[x,y],#[dT,sT]⟩,ty,ps,af,gd⟩).run P w= .ok (.value (.int .i64 (k:Int))) (w.setRow b (cells.take off++news++cells.drop (off+news.length)).toArray):=by
      simp only [execOp,resolve,invoke,builtin,Sem.run_bind,Sem.run_pure,Result.andThen_ok,List.map_toArray,List.map_cons,List.map_nil,f.ev h1,f.ev h2,hr,hnk]
      rfl
    refine op_value hrun ?_
    refine hK () _ trivial (mem_put ap hw hg (A:=rowA T r (some ⟨b,off,none⟩) cap ys) ?_ (setRow_heap w b _ _ T _ hblk) (fun k hk=>setRow_other w b k _ hk) (by simp) rfl rfl rfl)
    refine .inr ⟨b,off,_,rfl,by omega,hcm,?_,rfl,?_⟩
    · rw [hs1];simp only [List.length_append,List.length_take,List.length_drop] at hfit ⊢;omega
    · intro i x1 hi
      obtain ⟨γ,b1,b2'⟩:=hne' i x1 hi
      have hik:i<ys.length:=(List.getElem?_eq_some_iff.1 hi).1
      refine ⟨γ,⟨b1.1,fun z u hu=> ?_⟩,b2'⟩
      have hz:z<r.sz:=by have:=(List.getElem?_eq_some_iff.1 hu).1;rwa [r.len] at this
      have b3:=b1.2 z u hu
      rw [hs1] at b3 ⊢
      rw [splice_get hfit,if_pos (by omega)]
      rw [show off+i*1+z - off=i*1+z by omega];exact b3
theorem zqe {t t2:TypeId} {x y:Operand} {k:IntKind} {a b z:Int} (h1:evo m x=some (.int k a)) (h2:evo m y=some (.int k b)) (hz:andI k a b=z):PV P n ⟨d,.binOp .and t x y t2,ty,ps,af,gd⟩ m (.int k z):=by
  subst hz;exact pv_and h1 h2
theorem zOc {t t2:TypeId} {x y:Operand} {k k2:IntKind} {a b z:Int} (h1:evo m x=some (.int k a)) (h2:evo m y=some (.int k2 b)) (hb:0≤b) (hz:a / 2^min b.toNat k.bits=z):PV P n ⟨d,.binOp .shr t x y t2,ty,ps,af,gd⟩ m (.int k z):=fun ac w f=>by
  simp [execOp,f.ev h1,f.ev h2,eqGuard_at_int,binOp_shr,shift_shr_any _ _ _ _ hb,hz]
end
end Go.Proofs.YtpdbimfnhglhpaaGreat.Sp
namespace Go.Proofs.YtpdbimfnhglhpaaGreat.Sp
open Go
set_option linter.unusedVariables false
set_option maxRecDepth 100000
set_option maxHeartbeats 8000000
theorem zBb {p:Option Addr} {n:Nat} {cap:Nat} {l:List Int} (hn:l.length=n):Con yl 250 [.slice p n cap] [] [slF (rI .u32) p cap l] (Y:=Unit) (fun y=>True) (fun y=> .slice p ((ym l).length) cap) (fun y=>[]) (fun y=>[slF (rI .u32) p cap (ym l)]):=by
 refine zl Tryz.func250 rfl rfl rfl (fun c=> ?_)
 show RunC _ _ _ _ _ [(0,.slice p n cap)] [] [slF (rI .u32) p cap l]
 refine zX 0 rfl (fun hL0=> ?_)
 refine ze<|za<|e_p (zb rfl)<|zf<|zc<|ze<|zw<|zha (X:=Nat) (fun x:Nat=>x≤l.length∧ym (l.take x)=ym l) (fun x=>[(0,.slice p x cap),(2,.slice none 0 0)]) (fun x=>[]) (fun x=>[slF (rI .u32) p cap (l.take x),slF (rI .u32) p cap l]) (fun x:Nat=>x) n (show n≤l.length∧ym (l.take n)=ym l from by exact ⟨by omega,by rw [List.take_of_length_le om]⟩) ((.c rfl (.c rfl .n)):SubM _ _) (ho:=oN) ((.e (j:=0) rfl (by rw [List.take_of_length_le om]) (.c (j:=0) rfl .n)):SelR _ _ _) ?_
 rintro k hI
 replace hI:k≤l.length∧ym (l.take k)=ym l:=hI
 try dsimp only
 obtain ⟨hk,hT⟩:=hI
 have hlt:(l.take k).length=k:=by rw [List.length_take];omega
 refine ze<|zib (X:=Unit) (fun x=>True) (fun x=>[(14,.bool (decide (0<k∧l.getD (k - 1) 0=0))),(0,.slice p k cap),(2,.slice none 0 0)]) (fun x=>[]) (fun x=>[slF (rI .u32) p cap (l.take k),slF (rI .u32) p cap l]) ?_ ?_
 ·
  refine za<|e_mv rfl<|e_p (zG yh rfl)<|e_p (zpa rfl rfl)<|zja rfl rfl (zna rfl) (fun h1=> ?_) (fun h1=> ?_)
  ·
   refine e_mv rfl<|e_mv rfl<|e_p (zG yh rfl)<|e_p (zla (z:=(((k:Nat):Int) - 1)) rfl rfl (w64 om))<|zZ (x0:=((l.take k).getD ((((k:Nat):Int) - 1).toNat) 0)) 0 ((((k:Nat):Int) - 1).toNat) rfl yh sz133 rfl rfl rfl cbs rfl om (gD (d:=0) om) (fun b2 o3 hok4=> ?_)
   replace hok4:=zA.1 hok4
   refine e_ru (zi (j:=0) 0 ty133 rfl rfl rfl rfl)<|e_p (zxa rfl rfl)<|e_p (zC rfl rfl)<|zf ?_
   exact zka () tt9 ((.e rfl (congrArg Value.bool (by rw [Big.getD_take l om];have h1:0<k:=om;have h2:((k:Int) - 1).toNat=k - 1:=om;simp [h1,h2])) (.c rfl (.c rfl .n))):SubM _ _) (ho:=oN) ((.of [1,2] rfl):SelR _ _ _)
  ·
   refine e_no<|e_no<|e_no<|e_no<|e_no<|e_no<|e_no<|e_p (zC rfl rfl)<|zf ?_
   exact zka () tt9 ((.e rfl (congrArg Value.bool (by have h1:¬0<k:=om;simp [h1])) (.c rfl (.c rfl .n))):SubM _ _) (ho:=oN) ((.of [0,1] rfl):SelR _ _ _)
 ·
  rintro ⟨⟩ -
  try dsimp only
  refine zI rfl (fun hc=> ?_) (fun hc=> ?_)
  ·
   refine zx<|zc<|zw<|za<|e_mv rfl<|e_mv rfl<|e_p (zG yh rfl)<|e_p (zla (z:=(((k - 1):Nat):Int)) rfl rfl (w64 om))<|e_p (zKb (hi:=(k - 1)) yh sz133 rfl (.s rfl) (.inr ⟨_,rfl⟩) om)<|zZb (zHc 0 rfl (k - 1) om) (fun _ _=> ?_)
   refine e_p (zb rfl)<|zf<|zQ<|zca (k - 1) (show (k - 1)≤l.length∧ym (l.take (k - 1))=ym l from by exact ⟨by omega,by rw [← hT,Big.trim_go l hc.1 hk hc.2]⟩) (by show k - 1<k;omega) ((.e rfl cgs (.c rfl .n)):SubM _ _) (ho:=oN) ((.e (j:=0) rfl (by rw [List.take_take];congr 2;omega) (.c (j:=2) rfl .n)):SelR _ _ _)
  ·
   refine zda<|zj<|zj<|zu<|zc<|ze<|za<|e_mv rfl<|e_p (zb rfl)<|zf<|zc<|zE ?_
   have hfin:ym l=l.take k:=by rw [← hT];exact Big.trim_stop l hk hc
   exact zy Tryz.results250 () trivial (zp rfl) (by rw [hfin,hlt]) (ho:=oN) ((.e (j:=0) rfl (by rw [hfin]) .n):SelR _ _ _)
theorem zHe {p:Option Addr} {n:Nat} {cap:Nat} {l:List Int} {i:Nat} (hn:l.length=n) (hi:i≤4611686018427387904):Con yl 257 [.slice p n cap,yd ye ((i:Nat):Int)] [] [slF (rI .u32) p cap l] (Y:=Unit) (fun y=>True) (fun y=> .int .u32 (l.getD i 0)) (fun y=>[]) (fun y=>[]):=by
 refine zl Tryz.func257 rfl rfl rfl (fun c=> ?_)
 show RunC _ _ _ _ _ [(0,.slice p n cap),(1,yd ye ((i:Nat):Int))] [] [slF (rI .u32) p cap l]
 refine zX 0 rfl (fun hL0=> ?_)
 refine ze<|za<|e_p (zb rfl)<|zf<|zc<|ze<|ze<|za<|e_mv rfl<|e_mv rfl<|e_p (zG yh rfl)<|e_p (zV rfl rfl)<|zf<|zc<|zI rfl (fun h1=> ?_) (fun h1=> ?_)
 ·
  refine ze<|za<|e_mv rfl<|e_mv rfl<|zZ (x0:=(l.getD i 0)) 0 i rfl yh sz133 rfl rfl rfl cbs rfl rfl (gD (d:=0) om) (fun b2 o3 hok4=> ?_)
  replace hok4:=zA.1 hok4
  refine e_ru (zi (j:=0) 0 ty133 rfl rfl rfl rfl)<|e_p (zb rfl)<|zf<|zc<|zE<|zB ?_
  exact zy Tryz.results257 () trivial (zp rfl) rfl (ho:=oN) sN
 ·
  refine zx<|zc<|ze<|za<|e_p (zb rfl)<|zf<|zc<|zE ?_
  exact zy Tryz.results257 () trivial (zp rfl) (by rw [show l.getD i 0=0 by simp [List.getD,List.getElem?_eq_none (show l.length≤i by omega)]]) (ho:=oN) sN
theorem zlg {p1:Option Addr} {n1:Nat} {c1:Nat} {l1:List Int} {p2:Option Addr} {n2:Nat} {c2:Nat} {l2:List Int} (hn1:l1.length=n1) (hn2:l2.length=n2) (hb1:n1≤4398046511104) (hb2:n2≤4398046511104) (ho1:yr l1) (ho2:yr l2):Con yl 222 [.slice p1 n1 c1,.slice p2 n2 c2] [] [slF (rI .u32) p1 c1 l1,slF (rI .u32) p2 c2 l2] (Y:=(Option Addr)×Nat) (fun y=>True) (fun y=> .slice (y.1) ((yg (yi l1+yi l2).toNat).length) (y.2)) (fun y=>[]) (fun y=>[slF (rI .u32) (y.1) (y.2) (yg (yi l1+yi l2).toNat)]):=by
 refine zl Tryz.func222 rfl rfl rfl (fun c=> ?_)
 show RunC _ _ _ _ _ [(0,.slice p1 n1 c1),(1,.slice p2 n2 c2)] [] [slF (rI .u32) p1 c1 l1,slF (rI .u32) p2 c2 l2]
 refine zX 0 rfl (fun hL0=> ?_)
 refine zX 1 rfl (fun hL1=> ?_)
 refine ze<|za<|e_p (zb rfl)<|zf<|zc<|ze<|za<|e_mv rfl<|e_p (zG yh rfl)<|e_mv rfl<|e_p (zG yh rfl)<|e_p (v:= yd ye (((max n1 n2):Nat):Int)) (by rw [show ((((max n1 n2):Nat):Int):Int)=max ((n1:Nat):Int) ((n2:Nat):Int) by omega];exact pv_max rfl rfl)<|e_p (zK (z:=((((max n1 n2)+1):Nat):Int)) rfl rfl (w64 om))<|zva rfl rfl (zKa (r:=rI .u32) (k:=((max n1 n2)+1)) (x0:=0) (γ0:=()) yh inf133 rfl rfl rfl rfl om om rfl (fun g _=>by exact zA.2 dd) dd) (fun b1 _=> ?_)
 refine e_p (zb rfl)<|zf<|zc<|ze<|za<|e_p (zb rfl)<|zf<|zc<|ze<|ze<|za<|e_mv rfl<|e_p (zG yh rfl)<|e_mv rfl<|zf<|zc<|zw<|zha (X:=Nat×(List Int)×Int) (fun x:Nat×(List Int)×Int=>x.1≤max n1 n2+1∧x.2.1.length=x.1∧0≤x.2.2∧x.2.2≤1∧yr x.2.1∧yi x.2.1+yv x.1*x.2.2=yi (l1.take x.1)+yi (l2.take x.1)) (fun x=>[(6,.int .u32 (x.2.2)),(18,yd ye ((x.1:Nat):Int)),(17,yd ye ((((max n1 n2)+1):Nat):Int)),(5,.slice (some ⟨b1,0,none⟩) ((max n1 n2)+1) ((max n1 n2)+1)),(4,.slice none 0 0),(0,.slice p1 n1 c1),(1,.slice p2 n2 c2)]) (fun x=>[rowA 133 (rI .u32) (some ⟨b1,0,none⟩) ((max n1 n2)+1) (x.2.1++List.replicate (max n1 n2+1 - x.1) 0)]) (fun x=>[slF (rI .u32) p1 c1 l1,slF (rI .u32) p2 c2 l2]) (fun x:Nat×(List Int)×Int=>max n1 n2+1 - x.1) (0,[],0) (show 0≤max n1 n2+1∧([]).length=0∧0≤0∧0≤1∧yr ([])∧yi ([])+yv 0*0=yi (l1.take 0)+yi (l2.take 0) from by exact ⟨by omega,rfl,by decide,by decide,Big.okL_nil,by simp [yi]⟩) ((.c rfl (.e rfl cgs (.of rfl))):SubM _ _) (ho:=((.e (i:=0) rfl (by simp) .n):PickO _ _ _)) ((.of [0,1] rfl):SelR _ _ _) ?_
 rintro ⟨i,os,cy⟩ hI
 replace hI:i≤max n1 n2+1∧os.length=i∧0≤cy∧cy≤1∧yr os∧yi os+yv i*cy=yi (l1.take i)+yi (l2.take i):=hI
 try dsimp only
 obtain ⟨hi,hol,hc0,hc1,hok,hv⟩:=hI
 have hg1:=yn ho1 i
 have hg2:=yn ho2 i
 refine ze<|za<|e_p (zV rfl rfl)<|zf<|zc<|ze<|zI rfl (fun h2=> ?_) (fun h2=> ?_)
 ·
  refine zx<|zc<|ze<|zw<|ze<|za<|e_mv rfl<|e_p (zb rfl)<|zf<|zc<|ze<|za<|e_mv rfl<|e_mv rfl<|zJ rfl rfl (.c rfl (.c rfl .n)) ce257 (zHe (p:=p1) (n:=n1) (cap:=c1) (l:=l1) (i:=i) (hn:=ass) (hi:=cbb)) (.c (j:=0) rfl .n)<|e_mv rfl<|e_mv rfl<|zJ rfl rfl (.c rfl (.c rfl .n)) ce257 (zHe (p:=p2) (n:=n2) (cap:=c2) (l:=l2) (i:=i) (hn:=ass) (hi:=cbb)) (.c (j:=1) rfl .n)<|e_p (zK (z:=(l1.getD i 0+l2.getD i 0)) rfl rfl (wu32 om))<|e_mv rfl<|e_p (zK (z:=((l1.getD i 0+l2.getD i 0)+cy)) rfl rfl (wu32 om))<|e_p (zb rfl)<|zf<|zc<|ze<|za<|e_p (zb rfl)<|zf<|zc<|ze<|ze<|za<|e_mv rfl<|e_p (zMa rfl rfl)<|zf<|zc<|zI rfl (fun hc=> ?_) (fun hc=> ?_)
  ·
   refine za<|e_mv rfl<|e_p (zla (z:=(((l1.getD i 0+l2.getD i 0)+cy) - 1000000000)) rfl rfl (wu32 om))<|e_p (zb rfl)<|e_p (zb rfl)<|zf<|zc<|za<|e_mv rfl<|e_mv rfl<|e_mv rfl<|e_p (zS (j:=i) yh sz133 rfl rfl rfl om)<|zEa 0 rfl rfl rfl (zO (j:=i) (x0:=(((l1.getD i 0+l2.getD i 0)+cy) - 1000000000)) (γ0:=()) rfl rfl (by first|omega|(rw [List.length_map];omega)|(simp only [List.length_set];omega)|(simp;done)|(simp;omega)) rfl rfl sz133 (fun _ _=>by exact zA.2 om)) (fun _=> .z) (fun _ _=> ?_)
   refine zf<|zQ<|zc<|za<|e_p (zK (z:=(((i+1):Nat):Int)) rfl rfl (w64 om))<|e_mv rfl<|zf<|zca ((i+1),os++[l1.getD i 0+l2.getD i 0+cy - 1000000000],1) (show (i+1)≤max n1 n2+1∧(os++[l1.getD i 0+l2.getD i 0+cy - 1000000000]).length=(i+1)∧0≤1∧1≤1∧yr (os++[l1.getD i 0+l2.getD i 0+cy - 1000000000])∧yi (os++[l1.getD i 0+l2.getD i 0+cy - 1000000000])+yv (i+1)*1=yi (l1.take (i+1))+yi (l2.take (i+1)) from by exact ⟨by omega,by simp [hol],by decide,by decide,yB hok om om,Big.plus_step hol hv om⟩) (by show max n1 n2+1 - (i+1)<max n1 n2+1 - i;omega) (mR rfl) (ho:=((.e (i:=0) rfl (by rw [Big.set_pad hol om]) .n):PickO _ _ _)) ((.of [0,1] rfl):SelR _ _ _)
  ·
   refine zx<|zc<|za<|e_mv rfl<|e_mv rfl<|e_mv rfl<|e_p (zS (j:=i) yh sz133 rfl rfl rfl om)<|zEa 0 rfl rfl rfl (zO (j:=i) (x0:=((l1.getD i 0+l2.getD i 0)+cy)) (γ0:=()) rfl rfl (by first|omega|(rw [List.length_map];omega)|(simp only [List.length_set];omega)|(simp;done)|(simp;omega)) rfl rfl sz133 (fun _ _=>by exact zA.2 om)) (fun _=> .z) (fun _ _=> ?_)
   refine zf<|zQ<|zc<|za<|e_p (zK (z:=(((i+1):Nat):Int)) rfl rfl (w64 om))<|e_mv rfl<|zf<|zca ((i+1),os++[l1.getD i 0+l2.getD i 0+cy],0) (show (i+1)≤max n1 n2+1∧(os++[l1.getD i 0+l2.getD i 0+cy]).length=(i+1)∧0≤0∧0≤1∧yr (os++[l1.getD i 0+l2.getD i 0+cy])∧yi (os++[l1.getD i 0+l2.getD i 0+cy])+yv (i+1)*0=yi (l1.take (i+1))+yi (l2.take (i+1)) from by exact ⟨by omega,by simp [hol],by decide,by decide,yB hok om om,Big.plus_step hol hv om⟩) (by show max n1 n2+1 - (i+1)<max n1 n2+1 - i;omega) (mR rfl) (ho:=((.e (i:=0) rfl (by rw [Big.set_pad hol om]) .n):PickO _ _ _)) ((.of [0,1] rfl):SelR _ _ _)
 ·
  have e3:os++List.replicate (max n1 n2+1 - i) 0=os:=by rw [show max n1 n2+1 - i=0 by omega];simp
  rw [e3]
  have hfin:=Big.plus_fin ho1 ho2 hok hc0 hol om hv
  have htr:ym os=yg (yi l1+yi l2).toNat:=by rw [Big.digs_valL hok,hfin]
  refine zda<|zj<|zj<|zu<|zc<|ze<|za<|e_mv rfl<|zea 0 rfl .z<|zq rfl rfl (.c rfl .n) ce250 (zBb (p:=some ⟨b1,0,none⟩) (n:=((max n1 n2)+1)) (cap:=((max n1 n2)+1)) (l:=os) (hn:=cbb)) (.c (j:=0) rfl .n) ?_
  rintro ⟨⟩ -
  dsimp only [aq,nq,cq]
  refine e_p (zb rfl)<|zf<|zc<|zE ?_
  exact zy Tryz.results222 ((some ⟨b1,0,none⟩),((max n1 n2)+1)) trivial (zp rfl) (by rw [htr]) (ho:=oN) ((.e (j:=0) rfl (by rw [htr]) .n):SelR _ _ _)
theorem zRd {a:Nat} {b:Nat} {p1:Option Addr} {c1:Nat} {p2:Option Addr} {c2:Nat} (hb1:(yg (a)).length≤4398046511104) (hb2:(yg (b)).length≤4398046511104):Con yl 222 [.slice (p1) ((yg (a)).length) (c1),.slice (p2) ((yg (b)).length) (c2)] [] [slF (rI .u32) (p1) (c1) (yg (a)),slF (rI .u32) (p2) (c2) (yg (b))] (Y:=(Option Addr)×(Nat)) (fun y=>True) (fun y=> .slice (y.1) ((yg (a+b)).length) (y.2)) (fun y=>[]) (fun y=>[slF (rI .u32) (y.1) (y.2) (yg (a+b))]):=by
  have h:= @zlg p1 (yg a).length c1 (yg a) p2 (yg b).length c2 (yg b) rfl rfl hb1 hb2 (yp a) (yp b)
  rw [yu,yu,show ((a:Int)+(b:Int)).toNat=a+b by omega] at h
  exact h
theorem zfc {x:Int}:Con yl 259 [yd ye x] [] [] (Y:=Unit) (fun y=>True) (fun y=> .bool false) (fun y=>[]) (fun y=>[]):=by
 refine zl Tryz.func259 rfl rfl rfl (fun c=> ?_)
 show RunC _ _ _ _ _ [(0,yd ye x)] [] []
 refine ze<|za<|e_p (zb rfl)<|zf<|zc<|ze<|za<|e_mv rfl<|e_mv rfl<|e_p (zsa rfl rfl)<|e_p (zb rfl)<|zf<|zc<|zE ?_
 exact zy Tryz.results259 () trivial (zp rfl) (by simp) (ho:=oN) sN
theorem zgc {x:Int}:Con yl 265 [.int .u32 x] [] [] (Y:=Unit) (fun y=>True) (fun y=> .bool false) (fun y=>[]) (fun y=>[]):=by
 refine zl Tryz.func265 rfl rfl rfl (fun c=> ?_)
 show RunC _ _ _ _ _ [(0,.int .u32 x)] [] []
 refine ze<|za<|e_p (zb rfl)<|zf<|zc<|ze<|za<|e_mv rfl<|e_mv rfl<|e_p (zsa rfl rfl)<|e_p (zb rfl)<|zf<|zc<|zE ?_
 exact zy Tryz.results265 () trivial (zp rfl) (by simp) (ho:=oN) sN
theorem zPc {u:Int} {v:Int}:Con yl 230 [yd ye u,yd ye v] [] [] (Y:=Unit) (fun y=>True) (fun y=> yd ye (yE u v)) (fun y=>[]) (fun y=>[]):=by
 refine zl Tryz.func230 rfl rfl rfl (fun c=> ?_)
 show RunC _ _ _ _ _ [(0,yd ye u),(1,yd ye v)] [] []
 refine ze<|za<|e_p (zb rfl)<|zf<|zc<|ze<|za<|e_mv rfl<|zJ rfl rfl (.c rfl .n) ce259 (zfc (x:=u)) (.n)<|e_p (zb rfl)<|zf<|zc<|ze<|za<|e_mv rfl<|zJ rfl rfl (.c rfl .n) ce259 (zfc (x:=v)) (.n)<|e_p (zb rfl)<|zf<|zc<|ze<|ze<|za<|e_mv rfl<|zf<|zc<|zaa rfl rfl<|zx<|zc<|ze<|ze<|za<|e_mv rfl<|zf<|zc<|zaa rfl rfl<|zx<|zc<|ze<|ze<|za<|e_mv rfl<|e_mv rfl<|e_p (zV rfl rfl)<|zf<|zc<|zI rfl (fun h1=> ?_) (fun h1=> ?_)
 ·
  refine ze<|za<|e_p (zb rfl)<|zf<|zc<|zE<|zB ?_
  exact zy Tryz.results230 () trivial (zp rfl) (by rw [Big.cmp_lt om]) (ho:=oN) sN
 ·
  refine zx<|zc<|ze<|ze<|za<|e_mv rfl<|e_mv rfl<|e_p (zpa rfl rfl)<|zf<|zc<|zI rfl (fun h2=> ?_) (fun h2=> ?_)
  ·
   refine ze<|za<|e_p (zb rfl)<|zf<|zc<|zE<|zB ?_
   exact zy Tryz.results230 () trivial (zp rfl) (by rw [Big.cmp_gt om]) (ho:=oN) sN
  ·
   refine zx<|zc<|ze<|za<|e_p (zb rfl)<|zf<|zc<|zE ?_
   exact zy Tryz.results230 () trivial (zp rfl) (by rw [show yE u v=0 by simp [yE];omega]) (ho:=oN) sN
theorem zre {u:Int} {v:Int}:Con yl 260 [.int .u32 u,.int .u32 v] [] [] (Y:=Unit) (fun y=>True) (fun y=> yd ye (yE u v)) (fun y=>[]) (fun y=>[]):=by
 refine zl Tryz.func260 rfl rfl rfl (fun c=> ?_)
 show RunC _ _ _ _ _ [(0,.int .u32 u),(1,.int .u32 v)] [] []
 refine ze<|za<|e_p (zb rfl)<|zf<|zc<|ze<|za<|e_mv rfl<|zJ rfl rfl (.c rfl .n) ce265 (zgc (x:=u)) (.n)<|e_p (zb rfl)<|zf<|zc<|ze<|za<|e_mv rfl<|zJ rfl rfl (.c rfl .n) ce265 (zgc (x:=v)) (.n)<|e_p (zb rfl)<|zf<|zc<|ze<|ze<|za<|e_mv rfl<|zf<|zc<|zaa rfl rfl<|zx<|zc<|ze<|ze<|za<|e_mv rfl<|zf<|zc<|zaa rfl rfl<|zx<|zc<|ze<|ze<|za<|e_mv rfl<|e_mv rfl<|e_p (zV rfl rfl)<|zf<|zc<|zI rfl (fun h1=> ?_) (fun h1=> ?_)
 ·
  refine ze<|za<|e_p (zb rfl)<|zf<|zc<|zE<|zB ?_
  exact zy Tryz.results260 () trivial (zp rfl) (by rw [Big.cmp_lt om]) (ho:=oN) sN
 ·
  refine zx<|zc<|ze<|ze<|za<|e_mv rfl<|e_mv rfl<|e_p (zpa rfl rfl)<|zf<|zc<|zI rfl (fun h2=> ?_) (fun h2=> ?_)
  ·
   refine ze<|za<|e_p (zb rfl)<|zf<|zc<|zE<|zB ?_
   exact zy Tryz.results260 () trivial (zp rfl) (by rw [Big.cmp_gt om]) (ho:=oN) sN
  ·
   refine zx<|zc<|ze<|za<|e_p (zb rfl)<|zf<|zc<|zE ?_
   exact zy Tryz.results260 () trivial (zp rfl) (by rw [show yE u v=0 by simp [yE];omega]) (ho:=oN) sN
theorem back_u32 {b:Nat} {p:Option Addr} {n cap:Nat} {l:List Int} (hn:l.length=n):Back yl 220 [yf (some ⟨b,0,none⟩)] [atF b 0 [.slice p n cap],slF (rI .u32) p cap l] n (fun k=>[yd ye ((k:Nat):Int),.int .u32 (l.getD k 0)]):=by
  refine back_intro Tryz.func220 rfl rfl rfl (fun l0 c X Y φ ψ OO RR OS RS H x0 hx0=> ?_)
  show RunC _ _ _ _ _ [(0,.func (.yield l0) #[] #[]),(1,yf (some ⟨b,0,none⟩))] (OO x0) (atF b 0 [.slice p n cap] :: slF (rI .u32) p cap l :: RR x0)
  refine zX 1 rfl (fun hL=> ?_)
  refine ze<|za<|e_ru (zi (j:=0) 0 ty28 rfl rfl rfl rfl)<|e_p (zG yh rfl)<|e_p (zla (z:=(((n:Nat):Int) - 1)) rfl rfl (w64 om))<|e_p (zb rfl)<|zf<|zc<|zw<|zof (X:=X×Nat) (fun z=>φ z.1 z.2∧z.2≤n) (fun z=>[(3,yd ye (((z.2:Nat):Int) - 1)),(1,yf (some ⟨b,0,none⟩)),(0,.func (.yield l0) #[] #[])]) (fun z=>OO z.1) (fun z=>atF b 0 [.slice p n cap] :: slF (rI .u32) p cap l :: RR z.1) (fun z=>z.2) (x0,n) ⟨hx0,Nat.le_refl _⟩ (.c rfl (.c rfl (.c rfl .n)):SubM _ _) (fun w m=>m) ?_
  rintro ⟨x,k⟩ ⟨hx,hk⟩
  dsimp only at hx hk
  try dsimp only
  refine ze<|ze<|za<|e_mv rfl<|e_p (zMa rfl rfl)<|zf<|zc<|zI rfl (fun h=> ?_) (fun h=> ?_)
  · refine zx ?_
    refine zc ?_
    obtain ⟨j,rfl⟩:∃j,k=j+1:=⟨k - 1,by omega⟩
    rw [show (((j+1:Nat):Int) - 1)=(j:Int) by omega]
    refine ze<|zw<|ze<|za<|e_mv rfl<|e_mv rfl<|e_ru (zi (j:=0) 0 ty28 rfl rfl rfl rfl)<|e_mv rfl<|zZ (x0:=l.getD j 0) 1 j rfl yh sz133 rfl rfl rfl hn rfl rfl (gD (d:=0) om) (fun b2 o3 hok=> ?_)
    refine e_ru (zi (j:=0) 0 ty133 rfl rfl rfl rfl)<|zDg (X:=X) (Y:=Y) (φ:=fun x'=>φ x' j) (ψ:=ψ) (OO:=OO) (RR:=fun x'=>[atF b 0 [.slice p n cap],slF (rI .u32) p cap l]++RR x') (OS:=OS) (RS:=RS) (vs:=[yd ye ((j:Nat):Int),.int .u32 (l.getD j 0)]) rfl rfl rfl (.c rfl (.c rfl .n)) (fun w m=>H x j w om hx (m.weaken fun h g s r a=>⟨h,g,s,r.2,Hp.le_refl _,Hp.le_refl _,a,fun _ _ e=> .inl e⟩)) (fun x' hx'=> ?_) (fun y hy=> ?_)
    · refine e_p (zcb rfl) ?_
      refine zf<|zc<|zaa rfl rfl<|zx<|zQ<|zc<|za<|e_mv rfl<|e_p (zla (z:=((j:Int) - 1)) rfl rfl (w64 om))<|e_p (zb rfl)<|zf ?_
      exact zCg (x',j) ⟨hx',by show j≤n;omega⟩ (by show j<j+1;omega) (.c rfl (.c rfl (.c rfl .n)):SubM _ _) (fun w m=>m)
    · refine e_p (zcb rfl) ?_
      refine zf<|zc<|zNb rfl rfl<|zE<|zia<|zB<|zB<|zia ?_
      exact zme rfl y hy (fun w m=>m)
  · have hk0 : k = 0 := by omega
    subst hk0
    refine zda<|zj<|zj<|zu<|p_endI ?_
    exact zle rfl x hx (fun w m=>m)
theorem zqb {p:Option Addr} {n:Nat} {cap:Nat}:Con yl 156 [.slice p n cap] [] [] (Y:=Nat) (fun y=>True) (fun y=> .func (.func 220) #[] #[yf (some ⟨y,0,none⟩)]) (fun y=>[]) (fun y=>[atF y 0 [.slice p n cap]]):=by
 refine zl Tryz.func156 rfl rfl rfl (fun c=> ?_)
 show RunC _ _ _ _ _ [(0,.slice p n cap)] [] []
 refine ze<|za<|zD rfl rfl (zT rfl rfl) (fun b1=> ?_)
 refine e_p (zb rfl)<|zf<|zc<|ze<|za<|e_p (zZa .n (.c rfl .n))<|e_p (zb rfl)<|zf<|zc<|zE<|zrf 0 rfl .z ?_
 exact zy Tryz.results156 b1 trivial (zp rfl) rfl (ho:=oN) (s0 rfl)
theorem zWb {a:Nat} {b:Nat} {p1:Option Addr} {c1:Nat} {p2:Option Addr} {c2:Nat}:Con yl 231 [.slice p1 ((yg a).length) c1,.slice p2 ((yg b).length) c2] [] [slF (rI .u32) p1 c1 (yg a),slF (rI .u32) p2 c2 (yg b)] (Y:=Unit) (fun y=>True) (fun y=> yd ye (yE (a:Int) (b:Int))) (fun y=>[]) (fun y=>[]):=by
 refine zOb Tryz.func231 rfl rfl rfl (fun c=> ?_)
 show RunC _ _ _ _ _ [(0,.slice p1 ((yg a).length) c1),(1,.slice p2 ((yg b).length) c2)] [] [slF (rI .u32) p1 c1 (yg a),slF (rI .u32) p2 c2 (yg b)]
 refine zX 0 rfl (fun hL0=> ?_)
 refine zX 1 rfl (fun hL1=> ?_)
 refine ze<|za<|zD rfl rfl (zT rfl rfl) (fun b1=> ?_)
 refine zD rfl rfl (zo zr3 rfl) (fun b2=> ?_)
 refine zf<|zc<|ze<|ze<|za<|e_mv rfl<|e_p (zG yh rfl)<|e_ru (zg 1 ty28 rfl rfl rfl)<|e_p (zG yh rfl)<|e_p (zsa rfl rfl)<|zf<|zc<|zI rfl (fun hlen=> ?_) (fun hlen=> ?_)
 ·
  refine ze<|za<|e_mv rfl<|e_p (zG yh rfl)<|e_ru (zg 1 ty28 rfl rfl rfl)<|e_p (zG yh rfl)<|zJ rfl rfl (.c rfl (.c rfl .n)) ce230 (zPc (u:=(((yg a).length:Nat):Int)) (v:=(((yg b).length:Nat):Int))) (.n)<|zk 0 rfl rfl rfl rfl rfl sz3 rfl (.take .nil) .z<|zf<|zc<|zE<|zB<|zsf ?_
  exact zy Tryz.results231 () trivial (zgb 0 ty3 rfl rfl rfl) (by rw [Big.cmp_len om]) (ho:=oN) sN
 ·
  replace hlen:(yg a).length=(yg b).length:=by omega
  refine zx<|zc<|ze<|ze<|za<|e_mv rfl<|zq rfl rfl (.c rfl .n) ce156 (zqb (p:=p1) (n:=(yg a).length) (cap:=c1)) (.n) ?_
  rintro b3 -
  dsimp only [aq,nq,cq]
  refine zf<|zc<|zw<|ztd (fa:=[atF b3 0 [.slice p1 ((yg a).length) c1],slF (rI .u32) p1 c1 (yg a)]) (N:=((yg a).length)) (encs:=fun k=>[yd ye ((k:Nat):Int),.int .u32 ((yg a).getD k 0)]) rfl ce220 (back_u32 cbs) (fun _=>rfl) rfl (X:=Unit) (Y:=Unit) (fun x k=>k≤(yg a).length∧(yg a).drop k=(yg b).drop k) (fun y=>True) (fun x=>[boxA b2 3 [yd ye 0],boxA b1 28 [.slice p2 ((yg b).length) c2]]) (fun x=>[slF (rI .u32) p2 c2 (yg b)]) (fun y=>[boxA b2 3 [yd ye (yE (a:Int) (b:Int))],boxA b1 28 [.slice p2 ((yg b).length) c2]]) (fun y=>[atF b3 0 [.slice p1 ((yg a).length) c1],slF (rI .u32) p1 c1 (yg a),slF (rI .u32) p2 c2 (yg b)]) (fun k=>[(6,.int .u32 ((yg a).getD k 0)),(5,yd ye ((k:Nat):Int)),(20,.int .u32 ((yg a).getD k 0)),(19,yd ye ((k:Nat):Int)),(18,.func (.func 220) #[] #[yf (some ⟨b3,0,none⟩)]),(17,.slice p1 ((yg a).length) c1),(11,.bool (decide ((((yg a).length:Nat):Int)≠(((yg b).length:Nat):Int)))),(10,yd ye (((yg b).length:Nat):Int)),(9,.slice p2 ((yg b).length) c2),(8,yd ye (((yg a).length:Nat):Int)),(7,.slice p1 ((yg a).length) c1),(4,yf (some ⟨b2,0,none⟩)),(3,yf (some ⟨b1,0,none⟩)),(0,.slice p1 ((yg a).length) c1),(1,.slice p2 ((yg b).length) c2)]) () (show ((yg a).length)≤(yg a).length∧(yg a).drop ((yg a).length)=(yg b).drop ((yg a).length) from by exact ⟨Nat.le_refl _,by rw [List.drop_length,hlen,List.drop_length]⟩) (ho:=((.of [0,0] rfl):PickO _ _ _)) ((.of [0,1,2] rfl):SelR _ _ _) ?_ ?_ ?_ ?_
  ·
   intro l k O' R' Q' hP
   refine ze<|za<|e_p (zb rfl)<|zf<|zc<|za<|e_p (zb rfl)<|zf ?_
   exact hP
  ·
   rintro l4 D5 o6 o7 ⟨⟩ k hkN hI
   replace hI:(k+1)≤(yg a).length∧(yg a).drop (k+1)=(yg b).drop (k+1):=hI
   try dsimp only
   have hg1:=yn (yp a) k
   have hg2:=yn (yp b) k
   refine zw<|ze<|za<|e_mv rfl<|e_ru (zg 3 ty28 rfl rfl rfl)<|e_mv rfl<|zZ (x0:=((yg b).getD k 0)) 2 k rfl yh sz133 rfl rfl rfl cbs rfl rfl (gD (d:=0) om) (fun b8 o9 hok10=> ?_)
   replace hok10:=zA.1 hok10
   refine e_ru (zi (j:=0) 0 ty133 rfl rfl rfl rfl)<|e_p (zsa rfl rfl)<|zf<|zc<|zI rfl (fun hne=> ?_) (fun hne=> ?_)
   ·
    refine ze<|za<|e_mv rfl<|e_ru (zg 3 ty28 rfl rfl rfl)<|e_mv rfl<|zZ (x0:=((yg b).getD k 0)) 3 k rfl yh sz133 rfl rfl rfl cbs rfl rfl (gD (d:=0) om) (fun b11 o12 hok13=> ?_)
    replace hok13:=zA.1 hok13
    refine e_ru (zi (j:=0) 0 ty133 rfl rfl rfl rfl)<|zJ rfl rfl (.c rfl (.c rfl .n)) ce260 (zre (u:=((yg a).getD k 0)) (v:=((yg b).getD k 0))) (.n)<|zk 2 rfl rfl rfl rfl rfl sz3 rfl (.take .nil) (.s (.s .z))<|zf<|zc<|zE<|zia ?_
    exact zne () (show True from by first|trivial|omega) (ho:=((.c (i:=0) rfl (.c (i:=0) rfl (.e (i:=0) rfl (by rw [Big.cmp_at hlen om hI.2 hne]) (.c (i:=0) rfl .n)))):PickO _ _ _)) ((.of [2,3,4] rfl):SelR _ _ _)
   ·
    refine zx<|zQ ?_
    exact zsd () (show k≤(yg a).length∧(yg a).drop k=(yg b).drop k from by exact ⟨by omega,Big.drop_more om om hI.2 (Decidable.not_not.1 hne)⟩) (ho:=((.of [0,0,0,0] rfl):PickO _ _ _)) ((.of [1,2,3] rfl):SelR _ _ _)
  ·
   rintro D14 ⟨⟩ hI
   replace hI:0≤(yg a).length∧(yg a).drop 0=(yg b).drop 0:=hI
   try dsimp only
   have heq:(yg a)=(yg b):=by simpa using hI.2
   have hab:=Big.cmp_eq heq
   refine zQ<|zc<|ze<|za<|zk 1 rfl rfl rfl rfl rfl sz3 rfl (.take .nil) (.s .z)<|zf<|zc<|zE<|zNd 0 rfl rfl ?_
   exact zy Tryz.results231 () trivial (zgb 0 ty3 rfl rfl rfl) (by rw [hab];simp [yE]) (ho:=oN) sN
  ·
   rintro D15 ⟨⟩ hS
   replace hS:True:=hS
   try dsimp only
   refine zia<|zB<|zNd 0 rfl rfl ?_
   exact zy Tryz.results231 () trivial (zgb 0 ty3 rfl rfl rfl) rfl (ho:=oN) sN
theorem zSe {g:Int}:Con yl 229 [.int .u32 g] [] [] (Y:=Unit) (fun y=>True) (fun y=> .bool (decide (1000000000≤g))) (fun y=>[]) (fun y=>[]):=by
 refine zl Tryz.func229 rfl rfl rfl (fun c=> ?_)
 show RunC _ _ _ _ _ [(0,.int .u32 g)] [] []
 refine ze<|za<|e_p (zb rfl)<|zf<|zc<|ze<|za<|e_mv rfl<|e_p (zMa rfl rfl)<|e_p (zb rfl)<|zf<|zc<|zE ?_
 exact zy Tryz.results229 () trivial (zp rfl) rfl (ho:=oN) sN
theorem zbd {p:Option Addr} {n:Nat} {cap:Nat} {l:List Int} (hn:l.length=n):Con yl 258 [.slice p n cap,.func (.func 229) #[] #[]] [] [slF (rI .u32) p cap l] (Y:=Int) (fun y=>(0≤y↔∃g∈l,1000000000≤g)) (fun y=> yd ye y) (fun y=>[]) (fun y=>[]):=by
 refine zl Tryz.func258 rfl rfl rfl (fun c=> ?_)
 show RunC _ _ _ _ _ [(0,.slice p n cap),(1,.func (.func 229) #[] #[])] [] [slF (rI .u32) p cap l]
 refine zX 0 rfl (fun hL0=> ?_)
 refine ze<|za<|e_p (zb rfl)<|zf<|zc<|ze<|ze<|za<|e_mv rfl<|e_p (zG yh rfl)<|e_mv rfl<|zf<|zc<|zw<|zha (X:=Nat) (fun x:Nat=>x≤n∧∀j,j<x→l.getD j 0<1000000000) (fun x=>[(8,yd ye ((x:Nat):Int)),(7,yd ye ((n:Nat):Int)),(0,.slice p n cap),(1,.func (.func 229) #[] #[])]) (fun x=>[]) (fun x=>[slF (rI .u32) p cap l]) (fun x:Nat=>n - x) 0 (show 0≤n∧∀j,j<0→l.getD j 0<1000000000 from by exact ⟨by omega,fun j h=>by omega⟩) ((.e rfl cgs (.of rfl)):SubM _ _) (ho:=oN) (s0 rfl) ?_
 rintro i hI
 replace hI:i≤n∧∀j,j<i→l.getD j 0<1000000000:=hI
 try dsimp only
 obtain ⟨hi,hall⟩:=hI
 refine ze<|za<|e_p (zV rfl rfl)<|zf<|zc<|ze<|zI rfl (fun h1=> ?_) (fun h1=> ?_)
 ·
  refine zx<|zc<|ze<|zw<|ze<|za<|e_mv rfl<|e_p (zb rfl)<|zf<|zc<|ze<|za<|e_mv rfl<|e_mv rfl<|e_mv rfl<|zZ (x0:=(l.getD i 0)) 0 i rfl yh sz133 rfl rfl rfl cbs rfl rfl (gD (d:=0) om) (fun b2 o3 hok4=> ?_)
  replace hok4:=zA.1 hok4
  refine e_ru (zi (j:=0) 0 ty133 rfl rfl rfl rfl)<|zbc (first:=[]) (cap:=[]) rfl rfl rfl (.c rfl .n) ce229 (zSe (g:=(l.getD i 0))) (.n) ?_
  rintro ⟨⟩ -
  dsimp only [aq,nq,cq]
  refine zf<|zc<|zI rfl (fun hb=> ?_) (fun hb=> ?_)
  ·
   refine ze<|za<|e_mv rfl<|e_p (zb rfl)<|zf<|zc<|zE<|zia<|zB<|zB<|zia<|zB ?_
   exact zy Tryz.results258 ((i:Nat):Int) (⟨fun _=>⟨l.getD i 0,Big.getD_mem om,hb⟩,fun _=>by omega⟩) (zp rfl) rfl (ho:=oN) sN
  ·
   refine zx<|zQ<|zc<|za<|e_p (zK (z:=(((i+1):Nat):Int)) rfl rfl (w64 om))<|e_mv rfl<|zf<|zca (i+1) (show (i+1)≤n∧∀j,j<(i+1)→l.getD j 0<1000000000 from by refine ⟨by omega,fun j hj=> ?_⟩;by_cases e:j=i;subst e;omega;exact hall j om) (by show n - (i+1)<n - i;omega) (mR rfl) (ho:=oN) ((.c (j:=1) rfl .n):SelR _ _ _)
 ·
  refine zda<|zj<|zj<|zu<|zc<|ze<|za<|e_p (zb rfl)<|zf<|zc<|zE ?_
  exact zy Tryz.results258 (-1) (⟨fun h=>by omega,fun ⟨g,hg,hb⟩=>by obtain ⟨j,hj,e⟩:=Big.mem_getD hg;have:=hall j om;omega⟩) (zp rfl) rfl (ho:=oN) sN
theorem zsc {p:Option Addr} {n:Nat} {cap:Nat} {l:List Int} (hn:l.length=n):Con yl 228 [.slice p n cap,.func (.func 229) #[] #[]] [] [slF (rI .u32) p cap l] (Y:=Unit) (fun y=>True) (fun y=> .bool (decide (∃g∈l,1000000000≤g))) (fun y=>[]) (fun y=>[]):=by
 refine zl Tryz.func228 rfl rfl rfl (fun c=> ?_)
 show RunC _ _ _ _ _ [(0,.slice p n cap),(1,.func (.func 229) #[] #[])] [] [slF (rI .u32) p cap l]
 refine zX 0 rfl (fun hL0=> ?_)
 refine ze<|za<|e_p (zb rfl)<|zf<|zc<|ze<|za<|e_mv rfl<|e_mv rfl<|zq rfl rfl (.c rfl (.c rfl .n)) ce258 (zbd (p:=p) (n:=n) (cap:=cap) (l:=l) (hn:=ass)) (.c (j:=0) rfl .n) ?_
 rintro r1 hr
 dsimp only [aq,nq,cq]
 replace hr:(0≤r1↔∃g∈l,1000000000≤g):=hr
 refine e_p (zMa rfl rfl)<|e_p (zb rfl)<|zf<|zc<|zE ?_
 exact zy Tryz.results228 () trivial (zp rfl) (congrArg Value.bool (decide_eq_decide.2 hr.symm)) (ho:=oN) sN
theorem zhc {s:Bool} {p:Option Addr} {n:Nat} {cap:Nat} {l:List Int} (hn:l.length=n):Con yl 170 [.agg #[.bool s,.slice p n cap]] [] [slF (rI .u32) p cap l] (Y:=Unit) (fun y=>True) (fun y=> .bool (decide (Big.canon s l))) (fun y=>[]) (fun y=>[]):=by
 refine zl Tryz.func170 rfl rfl rfl (fun c=> ?_)
 show RunC _ _ _ _ _ [(0,.agg #[.bool s,.slice p n cap])] [] [slF (rI .u32) p cap l]
 refine zX 0 rfl (fun hL0=> ?_)
 refine ze<|za<|zD rfl rfl (zT rfl rfl) (fun b1=> ?_)
 refine e_p (zb rfl)<|zf<|zc<|ze<|za<|e_p (zh yo rfl sz28 rfl rfl)<|e_ru (zg 0 ty28 rfl rfl rfl)<|e_p (zG yh rfl)<|e_p (zb rfl)<|zf<|zc<|ze<|ze<|za<|e_mv rfl<|e_p (zxa rfl rfl)<|zf<|zc<|zI rfl (fun h0=> ?_) (fun h0=> ?_)
 ·
  refine ze<|za<|e_p (zh yo rfl sz4 rfl rfl)<|e_ru (zg 0 ty4 rfl rfl rfl)<|e_p (zcb rfl)<|e_p (zb rfl)<|zf<|zc<|zE<|zB ?_
  exact zy Tryz.results170 () trivial (zp rfl) (congrArg Value.bool (by have:l.length=0:=om;cases s <;> simp [Big.canon,this])) (ho:=oN) sN
 ·
  refine zx<|zc<|zib (X:=Unit) (fun x=>True) (fun x=>[(2,.bool (decide (((l.getD ((((n:Nat):Int) - 1).toNat) 0)≠0)∧(¬(∃g∈l,1000000000≤g)))))]) (fun x=>[boxA b1 30 [.bool s,.slice p n cap]]) (fun x=>[slF (rI .u32) p cap l]) ?_ ?_
  ·
   refine za<|e_p (zh yo rfl sz28 rfl rfl)<|e_ru (zg 0 ty28 rfl rfl rfl)<|e_mv rfl<|e_p (zla (z:=(((n:Nat):Int) - 1)) rfl rfl (w64 om))<|zZ (x0:=(l.getD ((((n:Nat):Int) - 1).toNat) 0)) 0 ((((n:Nat):Int) - 1).toNat) rfl yh sz133 rfl rfl rfl cbs rfl om (gD (d:=0) om) (fun b2 o3 hok4=> ?_)
   replace hok4:=zA.1 hok4
   refine e_ru (zi (j:=0) 0 ty133 rfl rfl rfl rfl)<|e_p (zsa rfl rfl)<|zja rfl rfl (zna rfl) (fun h5=> ?_) (fun h5=> ?_)
   ·
    refine e_p (zh yo rfl sz28 rfl rfl)<|e_ru (zg 0 ty28 rfl rfl rfl)<|zJ rfl rfl (.c rfl (.c rfl .n)) ce228 (zsc (p:=p) (n:=n) (cap:=cap) (l:=l) (hn:=ass)) (.c (j:=1) rfl .n)<|e_p (zUb rfl)<|e_p (zC rfl rfl)<|e_p (zb rfl)<|zf ?_
    exact zka () tt9 ((.e rfl (congrArg Value.bool (by simp_all)) .n):SubM _ _) (ho:=(o0 rfl)) ((.c (j:=1) rfl .n):SelR _ _ _)
   ·
    refine e_no<|e_no<|e_no<|e_no<|e_p (zC rfl rfl)<|e_p (zb rfl)<|zf ?_
    exact zka () tt9 ((.e rfl (congrArg Value.bool (by simp_all)) .n):SubM _ _) (ho:=(o0 rfl)) ((.c (j:=1) rfl .n):SelR _ _ _)
  ·
   rintro ⟨⟩ -
   try dsimp only
   refine zE ?_
   exact zy Tryz.results170 () trivial (zp rfl) (congrArg Value.bool (decide_eq_decide.2 (by rw [Big.canon_more om,hn];have e:((n:Int) - 1).toNat=n - 1:=om;simp [e]))) (ho:=oN) sN
theorem zTe {z:Int} {p:Option Addr} {cap:Nat}:Con yl 170 [.agg #[.bool (decide ((z)<0)),.slice (p) ((yg ((z).natAbs)).length) (cap)]] [] [slF (rI .u32) (p) (cap) (yg ((z).natAbs))] (Y:=Unit) (fun y=>True) (fun y=> .bool true) (fun y=>[]) (fun y=>[]):=by
  have h:= @zhc (decide ((z)<0)) p (yg (z).natAbs).length cap (yg (z).natAbs) rfl
  rw [decide_eq_true (Big.canon_digs z)] at h
  exact h
theorem zUe {w1:Wd} {x1:Int}:Con yl 170 [.agg #[w1.b,w1.l]] [] [zF w1 (x1)] (Y:=Unit) (fun y=>True) (fun y=> .bool true) (fun y=>[]) (fun y=>[]):=by
  exact zgd (fun p c=>zTe)
theorem zQa {s:Bool} {p:Option Addr} {n:Nat} {cap:Nat} {l:List Int} (hn:l.length=n):Con yl 155 [.agg #[.bool s,.slice p n cap]] [] [slF (rI .u32) p cap l] (Y:=(Option Addr)×Nat) (fun y=>True) (fun y=> .slice (y.1) ((yg ((yq s l).natAbs)).length) (y.2)) (fun y=>[]) (fun y=>[slF (rI .u32) (y.1) (y.2) (yg ((yq s l).natAbs))]):=by
 refine zl Tryz.func155 rfl rfl rfl (fun c=> ?_)
 show RunC _ _ _ _ _ [(0,.agg #[.bool s,.slice p n cap])] [] [slF (rI .u32) p cap l]
 refine zX 0 rfl (fun hL0=> ?_)
 refine zXa 0 rfl (fun hE0=> ?_)
 have hnn:Big.nn l:=fun g hg=>(zA.1 (hE0 g hg)).1
 refine ze<|za<|zD rfl rfl (zT rfl rfl) (fun b1=> ?_)
 refine e_p (zb rfl)<|zf<|zc<|ze<|ze<|za<|e_ru (zd 0 ty30 rfl rfl (.t2 .nil))<|zJ rfl rfl (.c rfl .n) ce170 (zhc (s:=s) (p:=p) (n:=n) (cap:=cap) (l:=l) (hn:=ass)) (.c (j:=0) rfl .n)<|e_p (zUb rfl)<|zf<|zc<|zI rfl (fun hc=> ?_) (fun hc=> ?_)
 ·
  refine ze<|za<|e_p (zb rfl)<|zf<|zc<|zE<|zB ?_
  have hd:yg (yq s l).natAbs=[]:=by rw [yA hnn,if_neg hc]
  refine zMd (rI .u32) ?_
  exact zy Tryz.results155 (none,0) trivial (zp rfl) (by rw [hd];rfl) (ho:=oN) ((.e (j:=0) rfl (by rw [hd]) .n):SelR _ _ _)
 ·
  refine zx<|zc<|ze<|za<|e_p (zh yo rfl sz28 rfl rfl)<|e_ru (zg 0 ty28 rfl rfl rfl)<|e_p (zb rfl)<|zf<|zc<|zE ?_
  have hd:yg (yq s l).natAbs=l:=by rw [yA hnn,if_pos (Decidable.not_not.1 hc)]
  exact zy Tryz.results155 (p,cap) trivial (zp rfl) (by rw [hd,hn]) (ho:=oN) ((.e (j:=0) rfl (by rw [hd]) .n):SelR _ _ _)
theorem zob {z:Int} {p:Option Addr} {cap:Nat}:Con yl 155 [.agg #[.bool (decide ((z)<0)),.slice (p) ((yg ((z).natAbs)).length) (cap)]] [] [slF (rI .u32) (p) (cap) (yg ((z).natAbs))] (Y:=(Option Addr)×(Nat)) (fun y=>True) (fun y=> .slice (y.1) ((yg ((z).natAbs)).length) (y.2)) (fun y=>[]) (fun y=>[slF (rI .u32) (y.1) (y.2) (yg ((z).natAbs))]):=by
  have h:= @zQa (decide ((z)<0)) p (yg (z).natAbs).length cap (yg (z).natAbs) rfl
  rw [yx] at h
  exact h
theorem zmg {s:Bool} {p:Option Addr} {n:Nat} {cap:Nat} {l:List Int} (hn:l.length=n) (ho:yr l):Con yl 208 [.bool s,.slice p n cap] [] [slF (rI .u32) p cap l] (Y:=(Option Addr)×Nat) (fun y=>True) (fun y=> .agg #[.bool (decide ((yw s (yi l))<0)),.slice (y.1) ((yg ((yw s (yi l)).natAbs)).length) (y.2)]) (fun y=>[]) (fun y=>[slF (rI .u32) (y.1) (y.2) (yg ((yw s (yi l)).natAbs))]):=by
 refine zl Tryz.func208 rfl rfl rfl (fun c=> ?_)
 show RunC _ _ _ _ _ [(0,.bool s),(1,.slice p n cap)] [] [slF (rI .u32) p cap l]
 refine zX 0 rfl (fun hL0=> ?_)
 have htr:ym l=yg (yw s (yi l)).natAbs:=by rw [Big.sg_abs (Big.valL_nonneg ho),Big.digs_valL ho]
 refine ze<|za<|zD rfl rfl (zo zr30 rfl) (fun b1=> ?_)
 refine zf<|zc<|ze<|za<|e_mv rfl<|zq rfl rfl (.c rfl .n) ce250 (zBb (p:=p) (n:=n) (cap:=cap) (l:=l) (hn:=ass)) (.c (j:=0) rfl .n) ?_
 rintro ⟨⟩ -
 dsimp only [aq,nq,cq]
 refine e_p (zb rfl)<|zf<|zc<|ze<|ze<|za<|e_mv rfl<|e_p (zG yh rfl)<|e_p (zxa rfl rfl)<|zf<|zc<|zI rfl (fun h0=> ?_) (fun h0=> ?_)
 ·
  refine ze<|za<|e_p (zR zr30 rfl yo (.c sz4 (.c sz28 .n)) .n .n)<|zk 0 rfl rfl rfl rfl rfl sz30 rfl (.t2 .nil) .z<|zf<|zc<|zE<|zB ?_
  have hz:yi l=0:=Big.trim_zero ho om
  refine zMd (rI .u32) ?_
  exact zy Tryz.results208 (none,0) trivial (zn 0 ty30 rfl rfl (.t2 .nil)) (by rw [hz,Big.sg_zero];rfl) (ho:=oN) ((.e (j:=0) rfl (by rw [hz,Big.sg_zero];rfl) .n):SelR _ _ _)
 ·
  refine zx<|zc<|ze<|za<|e_mv rfl<|e_mv rfl<|e_p (zR zr30 rfl yo (.c sz4 (.c sz28 .n)) (.c rfl (.c rfl .n)) (.c rfl rfl rfl (.take .nil) (.c rfl rfl rfl (.skip (.take .nil)) .n)))<|zk 0 rfl rfl rfl rfl rfl sz30 rfl (.t2 .nil) .z<|zf<|zc<|zE ?_
  have hp:0<yi l:=Big.valL_pos ho (fun e=>h0 (by rw [e];rfl))
  exact zy Tryz.results208 (p,cap) trivial (zn 0 ty30 rfl rfl (.t2 .nil)) (by rw [Big.sg_pos hp,htr]) (ho:=oN) ((.e (j:=0) rfl (by rw [htr]) .n):SelR _ _ _)
theorem zAa {s:Bool} {a:Nat} {p:Option Addr} {cap:Nat}:Con yl 208 [.bool (s),.slice (p) ((yg (a)).length) (cap)] [] [slF (rI .u32) (p) (cap) (yg (a))] (Y:=(Option Addr)×(Nat)) (fun y=>True) (fun y=> .agg #[.bool (decide ((yw s (a:Int))<0)),.slice (y.1) ((yg ((yw s (a:Int)).natAbs)).length) (y.2)]) (fun y=>[]) (fun y=>[slF (rI .u32) (y.1) (y.2) (yg ((yw s (a:Int)).natAbs))]):=by
  have h:= @zmg s p (yg a).length cap (yg a) rfl (yp a)
  rw [yu] at h
  exact h
theorem zyb {n0:Nat} (hn0:n0<18446744073709551616):Con yl 209 [.int .u64 ((n0:Nat):Int)] [] [] (Y:=(Option Addr)×Nat) (fun y=>True) (fun y=> .slice (y.1) ((yg n0).length) (y.2)) (fun y=>[]) (fun y=>[slF (rI .u32) (y.1) (y.2) (yg n0)]):=by
 refine zl Tryz.func209 rfl rfl rfl (fun c=> ?_)
 show RunC _ _ _ _ _ [(0,.int .u64 ((n0:Nat):Int))] [] []
 refine ze<|za<|e_p (zb rfl)<|zf<|zc<|ze<|za<|e_p (zb rfl)<|zf<|zc<|ze<|zw<|zGe 133 (rI .u32)<|zha (X:=Nat×(Option Addr)×Nat×(List Int)) (fun x:Nat×(Option Addr)×Nat×(List Int)=>x.1≤n0∧x.2.2.2++yg x.1=yg n0) (fun x=>[(3,.slice (x.2.1) (x.2.2.2.length) (x.2.2.1)),(0,.int .u64 ((x.1:Nat):Int)),(2,.slice none 0 0)]) (fun x=>[rowA 133 (rI .u32) (x.2.1) (x.2.2.1) (x.2.2.2)]) (fun x=>[]) (fun x:Nat×(Option Addr)×Nat×(List Int)=>x.1) (n0,none,0,[]) (show n0≤n0∧([])++yg n0=yg n0 from by exact ⟨Nat.le_refl _,rfl⟩) ((.e rfl cgs (.c rfl (.c rfl .n))):SubM _ _) (ho:=(o0 rfl)) sN ?_
 rintro ⟨n,p,c,os⟩ hI
 replace hI:n≤n0∧os++yg n=yg n0:=hI
 try dsimp only
 obtain ⟨hnn,hos⟩:=hI
 have hlen:os.length+(yg n).length≤3:=by have:=congrArg List.length hos;rw [List.length_append] at this;have:=Big.zzf hn0;omega
 refine ze<|ze<|za<|e_mv rfl<|e_p (zpa rfl rfl)<|zf<|zc<|zI rfl (fun hc=> ?_) (fun hc=> ?_)
 ·
  refine zx<|zc<|ze<|zw<|za<|e_mv rfl<|e_mv rfl<|e_p (zbb (z:=(((n%1000000000):Nat):Int)) rfl rfl om (remN om om))<|e_p (zt (z:=(((n%1000000000):Nat):Int)) rfl (by rw [yk];rfl) yj (wu32 om))<|zva rfl rfl (zH (enc:=fun z:Int=>[.int .u32 z]) (ok:=InK .u32) (h1:=fun _=>rfl) (h2:=fun _=>rfl) (k:=1) yh inf133 rfl dd dd dd (.c (x:=(((n%1000000000):Nat):Int)) rfl rfl (fun _ _=>by exact zA.2 om) .n)) (fun b1 _=> ?_)
  refine zea 0 rfl .z<|zEa 1 rfl rfl rfl (zCa 0 rfl yh inf133 dd rfl rfl cbs rfl cbs om om) (fun _=>(.s .z)) ?_
  rintro ⟨p2,c3⟩ -
  dsimp only [aq,nq,cq]
  refine e_p (zb rfl)<|zf<|zQ<|zc<|za<|e_mv rfl<|e_p (zfb (z:=(((n / 1000000000):Nat):Int)) rfl rfl om (by rw [quoN (z:=(((n / 1000000000):Nat):Int)) om om];exact wu64 om))<|e_p (zb rfl)<|zf<|zca ((n / 1000000000),p2,c3,os++[((n%1000000000:Nat):Int)]) (show (n / 1000000000)≤n0∧(os++[((n%1000000000:Nat):Int)])++yg (n / 1000000000)=yg n0 from by exact ⟨by omega,Big.split_step om hos⟩) (by show n / 1000000000<n;omega) ((.e rfl (by simp) (.c rfl (.c rfl .n))):SubM _ _) (ho:=((.e (i:=1) rfl cgs .n):PickO _ _ _)) sN
 ·
  refine zda<|zj<|zj<|zu<|zc<|ze<|za<|e_mv rfl<|e_p (zb rfl)<|zf<|zc<|zE ?_
  have hz:n=0:=by omega
  subst hz
  have hd:os=yg n0:=by simpa [Big.digs_zero] using hos
  refine zzb 0 rfl .z ?_
  exact zy Tryz.results209 (p,c) trivial (zp rfl) (by rw [hd]) (ho:=oN) ((.e (j:=0) rfl (by rw [hd]) .n):SelR _ _ _)
theorem zBg {z:Int} (hz: -9223372036854775808≤z∧z≤9223372036854775807):Con yl 130 [yd ye z] [] [] (Y:=(Option Addr)×Nat) (fun y=>True) (fun y=> .agg #[.bool (decide (z<0)),.slice (y.1) ((yg ((z).natAbs)).length) (y.2)]) (fun y=>[]) (fun y=>[slF (rI .u32) (y.1) (y.2) (yg ((z).natAbs))]):=by
 refine zl Tryz.func130 rfl rfl rfl (fun c=> ?_)
 show RunC _ _ _ _ _ [(0,yd ye z)] [] []
 refine ze<|za<|zD rfl rfl (zo zr30 rfl) (fun b1=> ?_)
 refine zf<|zc<|ze<|za<|e_mv rfl<|e_p (zt (z:=(z%18446744073709551616)) rfl (by rw [Tryz.underlying3];rfl) yk (wu64m om))<|e_p (zb rfl)<|zf<|zc<|ze<|ze<|za<|e_mv rfl<|e_p (zV rfl rfl)<|zf<|zc<|zI rfl (fun hs=> ?_) (fun hs=> ?_)
 ·
  refine za<|e_mv rfl<|e_p (zqf (z:=((z.natAbs:Nat):Int)) rfl (wu64m om))<|e_p (zb rfl)<|zf<|zc<|ze<|za<|e_mv rfl<|e_p (zV rfl rfl)<|e_mv rfl<|zq rfl rfl (.c rfl .n) ce209 (zyb (n0:=z.natAbs) (hn0:=om)) (.n) ?_
  rintro ⟨p22,c23⟩ -
  dsimp only [aq,nq,cq]
  refine zq rfl rfl (.c rfl (.c rfl .n)) ce208 (zAa (s:=decide (z<0)) (a:=z.natAbs) (p:=p22) (cap:=c23)) (.c (j:=0) rfl .n) ?_
  rintro ⟨p24,c25⟩ -
  dsimp only [aq,nq,cq]
  refine zk 0 rfl rfl rfl rfl rfl sz30 rfl (.t2 .nil) .z<|zf<|zc<|zE ?_
  have hsg:yw (decide (z<0)) (z.natAbs:Int)=z:=Big.sg_big z
  exact zy Tryz.results130 (p24,c25) trivial (zn 0 ty30 rfl rfl (.t2 .nil)) (by rw [hsg]) (ho:=oN) ((.e (j:=0) rfl (by rw [hsg]) .n):SelR _ _ _)
 ·
  have e6:((z%18446744073709551616):Int)=((z.natAbs:Nat):Int):=by omega
  rw [e6]
  refine zx<|zc<|ze<|za<|e_mv rfl<|e_p (zV rfl rfl)<|e_mv rfl<|zq rfl rfl (.c rfl .n) ce209 (zyb (n0:=z.natAbs) (hn0:=om)) (.n) ?_
  rintro ⟨p27,c28⟩ -
  dsimp only [aq,nq,cq]
  refine zq rfl rfl (.c rfl (.c rfl .n)) ce208 (zAa (s:=decide (z<0)) (a:=z.natAbs) (p:=p27) (cap:=c28)) (.c (j:=0) rfl .n) ?_
  rintro ⟨p29,c210⟩ -
  dsimp only [aq,nq,cq]
  refine zk 0 rfl rfl rfl rfl rfl sz30 rfl (.t2 .nil) .z<|zf<|zc<|zE ?_
  have hsg:yw (decide (z<0)) (z.natAbs:Int)=z:=Big.sg_big z
  exact zy Tryz.results130 (p29,c210) trivial (zn 0 ty30 rfl rfl (.t2 .nil)) (by rw [hsg]) (ho:=oN) ((.e (j:=0) rfl (by rw [hsg]) .n):SelR _ _ _)
theorem zwd {z:Int} (hz: -9223372036854775808≤z∧z≤9223372036854775807):Con yl 130 [yd ye (z)] [] [] (Y:=(Wd)) (fun y=>True) (fun y=> .agg #[y.b,y.l]) (fun y=>[]) (fun y=>[zF y (z)]):=by
  exact zSb (zBg hz)
theorem zQc {a:Nat} {b:Nat} {p1:Option Addr} {c1:Nat} {p2:Option Addr} {c2:Nat} (hb1:(yg a).length≤4398046511104) (hb2:(yg b).length≤4398046511104) (hab:b≤a):Con yl 223 [.slice p1 ((yg a).length) c1,.slice p2 ((yg b).length) c2] [] [slF (rI .u32) p1 c1 (yg a),slF (rI .u32) p2 c2 (yg b)] (Y:=(Option Addr)×Nat) (fun y=>True) (fun y=> .slice (y.1) ((yg (a - b)).length) (y.2)) (fun y=>[]) (fun y=>[slF (rI .u32) (y.1) (y.2) (yg (a - b))]):=by
 refine zl Tryz.func223 rfl rfl rfl (fun c=> ?_)
 show RunC _ _ _ _ _ [(0,.slice p1 ((yg a).length) c1),(1,.slice p2 ((yg b).length) c2)] [] [slF (rI .u32) p1 c1 (yg a),slF (rI .u32) p2 c2 (yg b)]
 refine zX 0 rfl (fun hL0=> ?_)
 refine zX 1 rfl (fun hL1=> ?_)
 refine ze<|za<|e_p (zb rfl)<|zf<|zc<|ze<|za<|e_mv rfl<|e_p (zG yh rfl)<|zva rfl rfl (zKa (r:=rI .u32) (k:=(yg a).length) (x0:=0) (γ0:=()) yh inf133 rfl rfl rfl rfl om om rfl (fun g _=>by exact zA.2 dd) dd) (fun b1 _=> ?_)
 refine e_p (zb rfl)<|zf<|zc<|ze<|za<|e_p (zb rfl)<|zf<|zc<|ze<|ze<|za<|e_mv rfl<|e_p (zG yh rfl)<|e_mv rfl<|zf<|zc<|zw<|zha (X:=Nat×(List Int)×Int) (fun x:Nat×(List Int)×Int=>x.1≤(yg a).length∧x.2.1.length=x.1∧0≤x.2.2∧x.2.2≤1∧yr x.2.1∧yi x.2.1+yi ((yg b).take x.1)=yi ((yg a).take x.1)+yv x.1*x.2.2) (fun x=>[(6,.int .u32 (x.2.2)),(14,yd ye ((x.1:Nat):Int)),(13,yd ye (((yg a).length:Nat):Int)),(5,.slice (some ⟨b1,0,none⟩) ((yg a).length) ((yg a).length)),(4,.slice none 0 0),(0,.slice p1 ((yg a).length) c1),(1,.slice p2 ((yg b).length) c2)]) (fun x=>[rowA 133 (rI .u32) (some ⟨b1,0,none⟩) ((yg a).length) (x.2.1++List.replicate ((yg a).length - x.1) 0)]) (fun x=>[slF (rI .u32) p1 c1 (yg a),slF (rI .u32) p2 c2 (yg b)]) (fun x:Nat×(List Int)×Int=>(yg a).length - x.1) (0,[],0) (show 0≤(yg a).length∧([]).length=0∧0≤0∧0≤1∧yr ([])∧yi ([])+yi ((yg b).take 0)=yi ((yg a).take 0)+yv 0*0 from by exact ⟨by omega,rfl,by decide,by decide,Big.okL_nil,by simp [yi]⟩) ((.c rfl (.e rfl cgs (.of rfl))):SubM _ _) (ho:=((.e (i:=0) rfl (by simp) .n):PickO _ _ _)) ((.of [0,1] rfl):SelR _ _ _) ?_
 rintro ⟨i,os,bo⟩ hI
 replace hI:i≤(yg a).length∧os.length=i∧0≤bo∧bo≤1∧yr os∧yi os+yi ((yg b).take i)=yi ((yg a).take i)+yv i*bo:=hI
 try dsimp only
 obtain ⟨hi,hol,hc0,hc1,hok,hv⟩:=hI
 have hg1:=yn (yp a) i
 have hg2:=yn (yp b) i
 refine ze<|za<|e_p (zV rfl rfl)<|zf<|zc<|ze<|zI rfl (fun h2=> ?_) (fun h2=> ?_)
 ·
  refine zx<|zc<|ze<|zw<|ze<|za<|e_mv rfl<|e_p (zb rfl)<|zf<|zc<|ze<|za<|e_mv rfl<|e_mv rfl<|zJ rfl rfl (.c rfl (.c rfl .n)) ce257 (zHe (p:=p2) (n:=(yg b).length) (cap:=c2) (l:=yg b) (i:=i) (hn:=cbb) (hi:=cbb)) (.c (j:=1) rfl .n)<|e_mv rfl<|e_p (zK (z:=((yg b).getD i 0+bo)) rfl rfl (wu32 om))<|e_p (zb rfl)<|zf<|zc<|ze<|za<|e_p (zb rfl)<|zf<|zc<|ze<|za<|e_mv rfl<|e_mv rfl<|zZ (x0:=((yg a).getD i 0)) 0 i rfl yh sz133 rfl rfl rfl (by first|rfl|assumption|(simp;omega)) rfl rfl (gD (d:=0) om) (fun b3 o4 hok5=> ?_)
  replace hok5:=zA.1 hok5
  refine e_ru (zi (j:=0) 0 ty133 rfl rfl rfl rfl)<|e_mv rfl<|e_p (zV rfl rfl)<|zf<|zc<|zI rfl (fun hc=> ?_) (fun hc=> ?_)
  ·
   refine za<|e_mv rfl<|e_mv rfl<|e_mv rfl<|e_mv rfl<|zZ (x0:=((yg a).getD i 0)) 1 i rfl yh sz133 rfl rfl rfl (by first|rfl|assumption|(simp;omega)) rfl rfl (gD (d:=0) om) (fun b6 o7 hok8=> ?_)
   replace hok8:=zA.1 hok8
   refine e_ru (zi (j:=0) 0 ty133 rfl rfl rfl rfl)<|e_p (zK (z:=(((yg a).getD i 0)+1000000000)) rfl rfl (wu32 om))<|e_mv rfl<|e_p (zla (z:=((((yg a).getD i 0)+1000000000) - ((yg b).getD i 0+bo))) rfl rfl (wu32 om))<|e_p (zS (j:=i) yh sz133 rfl rfl rfl om)<|zEa 0 rfl rfl rfl (zO (j:=i) (x0:=((((yg a).getD i 0)+1000000000) - ((yg b).getD i 0+bo))) (γ0:=()) rfl rfl (by first|omega|(rw [List.length_map];omega)|(simp only [List.length_set];omega)|(simp;done)|(simp;omega)) rfl rfl sz133 (fun _ _=>by exact zA.2 om)) (fun _=> .z) (fun _ _=> ?_)
   refine e_p (zb rfl)<|zf<|zQ<|zc<|za<|e_p (zK (z:=(((i+1):Nat):Int)) rfl rfl (w64 om))<|e_mv rfl<|zf<|zca ((i+1),os++[(yg a).getD i 0+1000000000 - ((yg b).getD i 0+bo)],1) (show (i+1)≤(yg a).length∧(os++[(yg a).getD i 0+1000000000 - ((yg b).getD i 0+bo)]).length=(i+1)∧0≤1∧1≤1∧yr (os++[(yg a).getD i 0+1000000000 - ((yg b).getD i 0+bo)])∧yi (os++[(yg a).getD i 0+1000000000 - ((yg b).getD i 0+bo)])+yi ((yg b).take (i+1))=yi ((yg a).take (i+1))+yv (i+1)*1 from by exact ⟨by omega,by simp [hol],by decide,by decide,yB hok om om,Big.minus_step hol hv om⟩) (by show (yg a).length - (i+1)<(yg a).length - i;omega) (mR rfl) (ho:=((.e (i:=0) rfl (by rw [Big.set_pad hol om]) .n):PickO _ _ _)) ((.of [2,3] rfl):SelR _ _ _)
  ·
   refine za<|e_mv rfl<|e_mv rfl<|e_mv rfl<|e_mv rfl<|zZ (x0:=((yg a).getD i 0)) 1 i rfl yh sz133 rfl rfl rfl (by first|rfl|assumption|(simp;omega)) rfl rfl (gD (d:=0) om) (fun b9 o10 hok11=> ?_)
   replace hok11:=zA.1 hok11
   refine e_ru (zi (j:=0) 0 ty133 rfl rfl rfl rfl)<|e_mv rfl<|e_p (zla (z:=(((yg a).getD i 0) - ((yg b).getD i 0+bo))) rfl rfl (wu32 om))<|e_p (zS (j:=i) yh sz133 rfl rfl rfl om)<|zEa 0 rfl rfl rfl (zO (j:=i) (x0:=(((yg a).getD i 0) - ((yg b).getD i 0+bo))) (γ0:=()) rfl rfl (by first|omega|(rw [List.length_map];omega)|(simp only [List.length_set];omega)|(simp;done)|(simp;omega)) rfl rfl sz133 (fun _ _=>by exact zA.2 om)) (fun _=> .z) (fun _ _=> ?_)
   refine zf<|zQ<|zc<|za<|e_p (zK (z:=(((i+1):Nat):Int)) rfl rfl (w64 om))<|e_mv rfl<|zf<|zca ((i+1),os++[(yg a).getD i 0 - ((yg b).getD i 0+bo)],0) (show (i+1)≤(yg a).length∧(os++[(yg a).getD i 0 - ((yg b).getD i 0+bo)]).length=(i+1)∧0≤0∧0≤1∧yr (os++[(yg a).getD i 0 - ((yg b).getD i 0+bo)])∧yi (os++[(yg a).getD i 0 - ((yg b).getD i 0+bo)])+yi ((yg b).take (i+1))=yi ((yg a).take (i+1))+yv (i+1)*0 from by exact ⟨by omega,by simp [hol],by decide,by decide,yB hok om om,Big.minus_step hol hv om⟩) (by show (yg a).length - (i+1)<(yg a).length - i;omega) (mR rfl) (ho:=((.e (i:=0) rfl (by rw [Big.set_pad hol om]) .n):PickO _ _ _)) ((.of [2,3] rfl):SelR _ _ _)
 ·
  have e12:os++List.replicate ((yg a).length - i) 0=os:=by rw [show (yg a).length - i=0 by omega];simp
  rw [e12]
  have htr:ym os=yg (a - b):=Big.minus_fin hab hok hc0 hol om hv
  refine zda<|zj<|zj<|zu<|zc<|ze<|za<|e_mv rfl<|zea 0 rfl .z<|zq rfl rfl (.c rfl .n) ce250 (zBb (p:=some ⟨b1,0,none⟩) (n:=(yg a).length) (cap:=(yg a).length) (l:=os) (hn:=cbb)) (.c (j:=0) rfl .n) ?_
  rintro ⟨⟩ -
  dsimp only [aq,nq,cq]
  refine e_p (zb rfl)<|zf<|zc<|zE ?_
  exact zy Tryz.results223 ((some ⟨b1,0,none⟩),((yg a).length)) trivial (zp rfl) (by rw [htr]) (ho:=oN) ((.e (j:=0) rfl (by rw [htr]) .n):SelR _ _ _)
theorem zKg {s:Bool} {t:Bool} {a:Nat} {b:Nat} {p1:Option Addr} {c1:Nat} {p2:Option Addr} {c2:Nat} (hb1:(yg a).length≤4398046511104) (hb2:(yg b).length≤4398046511104):Con yl 215 [.bool s,.slice p1 ((yg a).length) c1,.bool t,.slice p2 ((yg b).length) c2] [] [slF (rI .u32) p1 c1 (yg a),slF (rI .u32) p2 c2 (yg b)] (Y:=(Option Addr)×Nat) (fun y=>True) (fun y=> .agg #[.bool (decide ((yw s (a:Int)+yw t (b:Int))<0)),.slice (y.1) ((yg ((yw s (a:Int)+yw t (b:Int)).natAbs)).length) (y.2)]) (fun y=>[]) (fun y=>[slF (rI .u32) (y.1) (y.2) (yg ((yw s (a:Int)+yw t (b:Int)).natAbs))]):=by
 refine zl Tryz.func215 rfl rfl rfl (fun c=> ?_)
 show RunC _ _ _ _ _ [(0,.bool s),(1,.slice p1 ((yg a).length) c1),(2,.bool t),(3,.slice p2 ((yg b).length) c2)] [] [slF (rI .u32) p1 c1 (yg a),slF (rI .u32) p2 c2 (yg b)]
 refine zX 0 rfl (fun hL0=> ?_)
 refine zX 1 rfl (fun hL1=> ?_)
 refine ze<|za<|zD rfl rfl (zo zr30 rfl) (fun b1=> ?_)
 refine zf<|zc<|ze<|zw<|ze<|za<|e_mv rfl<|e_mv rfl<|e_p (zKc Tryz.underlying4 rfl rfl)<|e_p (zb rfl)<|zf<|zc<|zI rfl (fun hst=> ?_) (fun hst=> ?_)
 ·
  refine ze<|za<|e_mv rfl<|e_mv rfl<|e_mv rfl<|zq rfl rfl (.c rfl (.c rfl .n)) ce222 (zRd (a:=a) (b:=b) (p1:=p1) (c1:=c1) (p2:=p2) (c2:=c2) (hb1:=ass) (hb2:=ass)) (.c (j:=0) rfl (.c (j:=1) rfl .n)) ?_
  rintro ⟨p32,c33⟩ -
  dsimp only [aq,nq,cq]
  refine zq rfl rfl (.c rfl (.c rfl .n)) ce208 (zAa (s:=s) (a:=a+b) (p:=p32) (cap:=c33)) (.c (j:=0) rfl .n) ?_
  rintro ⟨p24,c25⟩ -
  dsimp only [aq,nq,cq]
  refine zk 0 rfl rfl rfl rfl rfl sz30 rfl (.t2 .nil) .z<|zf<|zc<|zE<|zia<|zB ?_
  have hz:yw s ((a+b:Nat):Int)=yw s (a:Int)+yw t (b:Int):=by rw [← hst];unfold yw;split <;> omega
  exact zy Tryz.results215 (p24,c25) trivial (zn 0 ty30 rfl rfl (.t2 .nil)) (by rw [hz]) (ho:=oN) ((.e (j:=0) rfl (by rw [hz]) .n):SelR _ _ _)
 ·
  refine ze<|za<|e_mv rfl<|e_mv rfl<|zJ rfl rfl (.c rfl (.c rfl .n)) ce231 (zWb (a:=a) (b:=b) (p1:=p1) (c1:=c1) (p2:=p2) (c2:=c2)) (.c (j:=0) rfl (.c (j:=1) rfl .n))<|e_p (zMa rfl rfl)<|e_p (zb rfl)<|zf<|zc<|zI rfl (fun hcmp=> ?_) (fun hcmp=> ?_)
  ·
   have hab:b≤a:=by have:=Big.cmp_ge.1 hcmp;omega
   refine ze<|za<|e_mv rfl<|e_mv rfl<|e_mv rfl<|zq rfl rfl (.c rfl (.c rfl .n)) ce223 (zQc (a:=a) (b:=b) (p1:=p1) (c1:=c1) (p2:=p2) (c2:=c2) (hb1:=ass) (hb2:=ass) (hab:=cbb)) (.c (j:=0) rfl (.c (j:=1) rfl .n)) ?_
   rintro ⟨p36,c37⟩ -
   dsimp only [aq,nq,cq]
   refine zq rfl rfl (.c rfl (.c rfl .n)) ce208 (zAa (s:=s) (a:=a - b) (p:=p36) (cap:=c37)) (.c (j:=0) rfl .n) ?_
   rintro ⟨p28,c29⟩ -
   dsimp only [aq,nq,cq]
   refine zk 0 rfl rfl rfl rfl rfl sz30 rfl (.t2 .nil) .z<|zf<|zc<|zE<|zia<|zB ?_
   have hz:yw s ((a - b:Nat):Int)=yw s (a:Int)+yw t (b:Int):=by revert hst;unfold yw;cases s <;> cases t <;> simp <;> omega
   exact zy Tryz.results215 (p28,c29) trivial (zn 0 ty30 rfl rfl (.t2 .nil)) (by rw [hz]) (ho:=oN) ((.e (j:=0) rfl (by rw [hz]) .n):SelR _ _ _)
  ·
   have hab:a≤b:=by have:¬(b:Int)≤a:=fun h=>hcmp (Big.cmp_ge.2 h);omega
   refine zx<|zQ<|zc<|ze<|za<|e_mv rfl<|e_mv rfl<|e_mv rfl<|zq rfl rfl (.c rfl (.c rfl .n)) ce223 (zQc (a:=b) (b:=a) (p1:=p2) (c1:=c2) (p2:=p1) (c2:=c1) (hb1:=ass) (hb2:=ass) (hab:=cbb)) (.c (j:=1) rfl (.c (j:=0) rfl .n)) ?_
   rintro ⟨p310,c311⟩ -
   dsimp only [aq,nq,cq]
   refine zq rfl rfl (.c rfl (.c rfl .n)) ce208 (zAa (s:=t) (a:=b - a) (p:=p310) (cap:=c311)) (.c (j:=0) rfl .n) ?_
   rintro ⟨p212,c213⟩ -
   dsimp only [aq,nq,cq]
   refine zk 0 rfl rfl rfl rfl rfl sz30 rfl (.t2 .nil) .z<|zf<|zc<|zE ?_
   have hz:yw t ((b - a:Nat):Int)=yw s (a:Int)+yw t (b:Int):=by revert hst;unfold yw;cases s <;> cases t <;> simp <;> omega
   exact zy Tryz.results215 (p212,c213) trivial (zn 0 ty30 rfl rfl (.t2 .nil)) (by rw [hz]) (ho:=oN) ((.e (j:=0) rfl (by rw [hz]) .n):SelR _ _ _)
theorem zSd {a:Nat} {b:Nat} {p1:Option Addr} {c1:Nat} {p2:Option Addr} {c2:Nat} (hb1:(yg a).length≤4398046511104) (hb2:(yg b).length≤4398046511104):Con yl 214 [.slice p1 ((yg a).length) c1,.slice p2 ((yg b).length) c2] [] [slF (rI .u32) p1 c1 (yg a),slF (rI .u32) p2 c2 (yg b)] (Y:=(Option Addr)×Nat) (fun y=>True) (fun y=> .slice (y.1) ((yg (a*b)).length) (y.2)) (fun y=>[]) (fun y=>[slF (rI .u32) (y.1) (y.2) (yg (a*b))]):=by
 refine zl Tryz.func214 rfl rfl rfl (fun c=> ?_)
 show RunC _ _ _ _ _ [(0,.slice p1 ((yg a).length) c1),(1,.slice p2 ((yg b).length) c2)] [] [slF (rI .u32) p1 c1 (yg a),slF (rI .u32) p2 c2 (yg b)]
 refine zX 0 rfl (fun hL0=> ?_)
 refine zX 1 rfl (fun hL1=> ?_)
 have hoa:=yp a
 have hob:=yp b
 refine ze<|za<|e_p (zb rfl)<|zf<|zc<|ze<|za<|e_mv rfl<|e_p (zG yh rfl)<|e_mv rfl<|e_p (zG yh rfl)<|e_p (zK (z:=(((((yg a).length)+((yg b).length)):Nat):Int)) rfl rfl (w64 om))<|zva rfl rfl (zKa (r:=rI .u32) (k:=(((yg a).length)+((yg b).length))) (x0:=0) (γ0:=()) yh inf133 rfl rfl rfl rfl om om rfl (fun g _=>by exact zA.2 dd) dd) (fun b1 _=> ?_)
 refine e_p (zb rfl)<|zf<|zc<|ze<|ze<|za<|e_mv rfl<|e_p (zG yh rfl)<|e_mv rfl<|zf<|zc<|zw<|zha (X:=Nat×(List Int)) (fun x:Nat×(List Int)=>x.1≤(yg a).length∧x.2.length=(yg a).length+(yg b).length∧yr x.2∧(∀k,x.1+(yg b).length≤k→x.2.getD k 0=0)∧yi x.2=yi ((yg a).take x.1)*yi (yg b)) (fun x=>[(20,yd ye ((x.1:Nat):Int)),(19,yd ye (((yg a).length:Nat):Int)),(18,.slice p1 ((yg a).length) c1),(5,.slice (some ⟨b1,0,none⟩) (((yg a).length)+((yg b).length)) (((yg a).length)+((yg b).length))),(4,.slice none 0 0),(1,.slice p2 ((yg b).length) c2)]) (fun x=>[rowA 133 (rI .u32) (some ⟨b1,0,none⟩) (((yg a).length)+((yg b).length)) (x.2)]) (fun x=>[slF (rI .u32) p1 c1 (yg a),slF (rI .u32) p2 c2 (yg b)]) (fun x:Nat×(List Int)=>(yg a).length - x.1) (0,List.replicate ((yg a).length+(yg b).length) 0) (show 0≤(yg a).length∧(List.replicate ((yg a).length+(yg b).length) 0).length=(yg a).length+(yg b).length∧yr (List.replicate ((yg a).length+(yg b).length) 0)∧(∀k,0+(yg b).length≤k→(List.replicate ((yg a).length+(yg b).length) 0).getD k 0=0)∧yi (List.replicate ((yg a).length+(yg b).length) 0)=yi ((yg a).take 0)*yi (yg b) from by exact ⟨by omega,by simp,Big.okL_zeros _,fun k _=>Big.getD_zeros _ k,by simp [Big.valL_zeros,yi]⟩) ((.e rfl cgs (.of rfl)):SubM _ _) (ho:=((.e (i:=0) rfl cgs .n):PickO _ _ _)) ((.of [0,1] rfl):SelR _ _ _) ?_
 rintro ⟨i,os⟩ hI
 replace hI:i≤(yg a).length∧os.length=(yg a).length+(yg b).length∧yr os∧(∀k,i+(yg b).length≤k→os.getD k 0=0)∧yi os=yi ((yg a).take i)*yi (yg b):=hI
 try dsimp only
 obtain ⟨hi,hol,hok,hz,hv⟩:=hI
 have hg1:=yn hoa i
 refine ze<|za<|e_p (zV rfl rfl)<|zf<|zc<|ze<|zI rfl (fun h2=> ?_) (fun h2=> ?_)
 ·
  refine zx<|zc<|ze<|zw<|ze<|za<|e_mv rfl<|zZ (x0:=((yg a).getD i 0)) 0 i rfl yh sz133 rfl rfl rfl (by first|rfl|assumption|(simp;omega)|omega) rfl rfl (gD (d:=0) om) (fun b3 o4 hok5=> ?_)
  replace hok5:=zA.1 hok5
  refine e_ru (zi (j:=0) 0 ty133 rfl rfl rfl rfl)<|e_p (zb rfl)<|e_p (zb rfl)<|zf<|zc<|ze<|za<|e_p (zb rfl)<|zf<|zc<|ze<|ze<|za<|e_mv rfl<|e_p (zG yh rfl)<|e_mv rfl<|zf<|zc<|zw<|zha (X:=Nat×(List Int)×Int) (fun x:Nat×(List Int)×Int=>x.1≤(yg b).length∧x.2.1.length=(yg a).length+(yg b).length∧yr x.2.1∧0≤x.2.2∧x.2.2<1000000000∧(∀k,i+(yg b).length≤k→x.2.1.getD k 0=0)∧yi x.2.1+yv (i+x.1)*x.2.2=yi ((yg a).take i)*yi (yg b)+yv i*(yg a).getD i 0*yi ((yg b).take x.1)) (fun x=>[(8,.int .u64 (x.2.2)),(27,yd ye ((x.1:Nat):Int)),(26,yd ye (((yg b).length:Nat):Int)),(25,.slice p2 ((yg b).length) c2),(7,.int .u32 ((yg a).getD i 0)),(6,yd ye ((i:Nat):Int)),(20,yd ye ((i:Nat):Int)),(19,yd ye (((yg a).length:Nat):Int)),(18,.slice p1 ((yg a).length) c1),(5,.slice (some ⟨b1,0,none⟩) (((yg a).length)+((yg b).length)) (((yg a).length)+((yg b).length))),(4,.slice none 0 0),(1,.slice p2 ((yg b).length) c2)]) (fun x=>[rowA 133 (rI .u32) (some ⟨b1,0,none⟩) (((yg a).length)+((yg b).length)) (x.2.1)]) (fun x=>[atF b3 o4 [.int .u32 ((yg a).getD i 0)],slF (rI .u32) p1 c1 (yg a),slF (rI .u32) p2 c2 (yg b)]) (fun x:Nat×(List Int)×Int=>(yg b).length - x.1) (0,os,0) (show 0≤(yg b).length∧os.length=(yg a).length+(yg b).length∧yr os∧0≤0∧0<1000000000∧(∀k,i+(yg b).length≤k→os.getD k 0=0)∧yi os+yv (i+0)*0=yi ((yg a).take i)*yi (yg b)+yv i*(yg a).getD i 0*yi ((yg b).take 0) from by exact ⟨by omega,hol,hok,by decide,by decide,hz,by rw [hv];simp [yi]⟩) ((.c rfl (.e rfl cgs (.of rfl))):SubM _ _) (ho:=(o0 rfl)) ((.of [0,1,2] rfl):SelR _ _ _) ?_
  rintro ⟨j,os2,cy⟩ hJ
  replace hJ:j≤(yg b).length∧os2.length=(yg a).length+(yg b).length∧yr os2∧0≤cy∧cy<1000000000∧(∀k,i+(yg b).length≤k→os2.getD k 0=0)∧yi os2+yv (i+j)*cy=yi ((yg a).take i)*yi (yg b)+yv i*(yg a).getD i 0*yi ((yg b).take j):=hJ
  try dsimp only
  obtain ⟨hj,hol2,hok2,hcy0,hcy1,hz2,hv2⟩:=hJ
  have hg2:=yn hob j
  have hg3:=yn hok2 (i+j)
  have hpq:=Big.mul_lim hg1 hg2
  refine ze<|za<|e_p (zV rfl rfl)<|zf<|zc<|ze<|zI rfl (fun h6=> ?_) (fun h6=> ?_)
  ·
   refine zx<|zc<|ze<|zw<|ze<|za<|e_mv rfl<|zZ (x0:=((yg b).getD j 0)) 2 j rfl yh sz133 rfl rfl rfl (by first|rfl|assumption|(simp;omega)|omega) rfl rfl (gD (d:=0) om) (fun b7 o8 hok9=> ?_)
   replace hok9:=zA.1 hok9
   refine e_ru (zi (j:=0) 0 ty133 rfl rfl rfl rfl)<|e_p (zb rfl)<|e_p (zb rfl)<|zf<|zc<|ze<|za<|e_mv rfl<|e_mv rfl<|e_mv rfl<|e_p (zK (z:=(((i+j):Nat):Int)) rfl rfl (w64 om))<|e_p (zS (j:=(i+j)) yh sz133 rfl rfl rfl om)<|r_vl rfl rfl (zL 0 (i+j) rfl ty133 rfl rfl (gD (d:=0) om) rfl) (fun _ hok10=> ?_)
   replace hok10:=zA.1 hok10
   refine e_p (zt (z:=(os2.getD (i+j) 0)) rfl (by rw [yj];rfl) yk (wu64 om))<|e_mv rfl<|e_p (zt (z:=((yg a).getD i 0)) rfl (by rw [yj];rfl) yk (wu64 om))<|e_mv rfl<|e_p (zt (z:=((yg b).getD j 0)) rfl (by rw [yj];rfl) yk (wu64 om))<|e_p (zua (z:=(((yg a).getD i 0)*((yg b).getD j 0))) rfl rfl (wu64 om))<|e_p (zK (z:=((os2.getD (i+j) 0)+(((yg a).getD i 0)*((yg b).getD j 0)))) rfl rfl (wu64 om))<|e_mv rfl<|e_p (zK (z:=(((os2.getD (i+j) 0)+(((yg a).getD i 0)*((yg b).getD j 0)))+cy)) rfl rfl (wu64 om))<|e_p (zb rfl)<|zf<|zc<|za<|e_mv rfl<|e_mv rfl<|e_mv rfl<|e_p (zK (z:=(((i+j):Nat):Int)) rfl rfl (w64 om))<|e_mv rfl<|e_p (zbb (z:=((((os2.getD (i+j) 0)+(((yg a).getD i 0)*((yg b).getD j 0)))+cy)%1000000000)) rfl rfl om (remN om om))<|e_p (zt (z:=((((os2.getD (i+j) 0)+(((yg a).getD i 0)*((yg b).getD j 0)))+cy)%1000000000)) rfl (by rw [yk];rfl) yj (wu32 om))<|e_mv rfl<|e_p (zfb (z:=((((os2.getD (i+j) 0)+(((yg a).getD i 0)*((yg b).getD j 0)))+cy) / 1000000000)) rfl rfl om (by rw [quoN (z:=((((os2.getD (i+j) 0)+(((yg a).getD i 0)*((yg b).getD j 0)))+cy) / 1000000000)) om om];exact wu64 om))<|e_p (zS (j:=(i+j)) yh sz133 rfl rfl rfl om)<|zEa 0 rfl rfl rfl (zO (j:=(i+j)) (x0:=((((os2.getD (i+j) 0)+(((yg a).getD i 0)*((yg b).getD j 0)))+cy)%1000000000)) (γ0:=()) rfl rfl (by first|omega|(rw [List.length_map];omega)|(simp only [List.length_set];omega)|(simp;done)|(simp;omega)) rfl rfl sz133 (fun _ _=>by exact zA.2 om)) (fun _=> .z) (fun _ _=> ?_)
   refine e_p (zb rfl)<|zf<|zQ<|zc<|za<|e_p (zK (z:=(((j+1):Nat):Int)) rfl rfl (w64 om))<|e_mv rfl<|zf<|zca ((j+1),os2.set (i+j) ((os2.getD (i+j) 0+(yg a).getD i 0*(yg b).getD j 0+cy)%1000000000),(os2.getD (i+j) 0+(yg a).getD i 0*(yg b).getD j 0+cy) / 1000000000) (show (j+1)≤(yg b).length∧(os2.set (i+j) ((os2.getD (i+j) 0+(yg a).getD i 0*(yg b).getD j 0+cy)%1000000000)).length=(yg a).length+(yg b).length∧yr (os2.set (i+j) ((os2.getD (i+j) 0+(yg a).getD i 0*(yg b).getD j 0+cy)%1000000000))∧0≤((os2.getD (i+j) 0+(yg a).getD i 0*(yg b).getD j 0+cy) / 1000000000)∧((os2.getD (i+j) 0+(yg a).getD i 0*(yg b).getD j 0+cy) / 1000000000)<1000000000∧(∀k,i+(yg b).length≤k→(os2.set (i+j) ((os2.getD (i+j) 0+(yg a).getD i 0*(yg b).getD j 0+cy)%1000000000)).getD k 0=0)∧yi (os2.set (i+j) ((os2.getD (i+j) 0+(yg a).getD i 0*(yg b).getD j 0+cy)%1000000000))+yv (i+(j+1))*((os2.getD (i+j) 0+(yg a).getD i 0*(yg b).getD j 0+cy) / 1000000000)=yi ((yg a).take i)*yi (yg b)+yv i*(yg a).getD i 0*yi ((yg b).take (j+1)) from by exact ⟨by omega,by simpa using hol2,yD hok2 om om,by omega,by omega,fun k hk=>by rw [yz om];exact hz2 k om,Big.mul_step hv2 om om⟩) (by show (yg b).length - (j+1)<(yg b).length - j;omega) ((.e rfl cgs (.of rfl)):SubM _ _) (ho:=((.e (i:=0) rfl cgs .n):PickO _ _ _)) ((.of [1,2,3] rfl):SelR _ _ _)
  ·
   have hjb:j=(yg b).length:=by omega
   subst hjb
   have hv3:=hv2
   refine zda<|zj<|zj<|zu<|zc<|za<|e_mv rfl<|e_mv rfl<|e_mv rfl<|e_p (zG yh rfl)<|e_p (zK (z:=(((i+((yg b).length)):Nat):Int)) rfl rfl (w64 om))<|e_mv rfl<|e_p (zt (z:=cy) rfl (by rw [yk];rfl) yj (wu32 om))<|e_p (zS (j:=(i+((yg b).length))) yh sz133 rfl rfl rfl om)<|zEa 0 rfl rfl rfl (zO (j:=(i+((yg b).length))) (x0:=cy) (γ0:=()) rfl rfl (by first|omega|(rw [List.length_map];omega)|(simp only [List.length_set];omega)|(simp;done)|(simp;omega)) rfl rfl sz133 (fun _ _=>by exact zA.2 om)) (fun _=> .z) (fun _ _=> ?_)
   refine zf<|zQ<|zc<|za<|e_p (zK (z:=(((i+1):Nat):Int)) rfl rfl (w64 om))<|e_mv rfl<|zf<|zca ((i+1),os2.set (i+(yg b).length) cy) (show (i+1)≤(yg a).length∧(os2.set (i+(yg b).length) cy).length=(yg a).length+(yg b).length∧yr (os2.set (i+(yg b).length) cy)∧(∀k,(i+1)+(yg b).length≤k→(os2.set (i+(yg b).length) cy).getD k 0=0)∧yi (os2.set (i+(yg b).length) cy)=yi ((yg a).take (i+1))*yi (yg b) from by exact ⟨by omega,by simpa using hol2,yD hok2 om om,fun k hk=>by rw [yz om];exact hz2 k om,Big.mul_round hv3 om (hz2 _ (Nat.le_refl _))⟩) (by show (yg a).length - (i+1)<(yg a).length - i;omega) (mR rfl) (ho:=((.e (i:=0) rfl cgs .n):PickO _ _ _)) ((.of [1,2] rfl):SelR _ _ _)
 ·
  have hia:i=(yg a).length:=by omega
  have hfin:ym os=yg (a*b):=Big.trimL_of hok (by rw [hv,hia,List.take_length,yu,yu,Int.natCast_mul])
  refine zda<|zj<|zj<|zu<|zc<|ze<|za<|e_mv rfl<|zea 0 rfl .z<|zq rfl rfl (.c rfl .n) ce250 (zBb (p:=some ⟨b1,0,none⟩) (n:=(((yg a).length)+((yg b).length))) (cap:=(((yg a).length)+((yg b).length))) (l:=os) (hn:=cbb)) (.c (j:=0) rfl .n) ?_
  rintro ⟨⟩ -
  dsimp only [aq,nq,cq]
  refine e_p (zb rfl)<|zf<|zc<|zE ?_
  exact zy Tryz.results214 ((some ⟨b1,0,none⟩),(((yg a).length)+((yg b).length))) trivial (zp rfl) (by rw [hfin]) (ho:=oN) ((.e (j:=0) rfl (by rw [hfin]) .n):SelR _ _ _)
theorem zIe {s:Bool} {p:Option Addr} {n:Nat} {cap:Nat} {l:List Int} (hn:l.length=n):Con yl 167 [.agg #[.bool s,.slice p n cap]] [] [slF (rI .u32) p cap l] (Y:=Unit) (fun y=>True) (fun y=> yd ye ((yq s l).sign)) (fun y=>[]) (fun y=>[]):=by
 refine zl Tryz.func167 rfl rfl rfl (fun c=> ?_)
 show RunC _ _ _ _ _ [(0,.agg #[.bool s,.slice p n cap])] [] [slF (rI .u32) p cap l]
 refine zX 0 rfl (fun hL0=> ?_)
 refine zXa 0 rfl (fun hE0=> ?_)
 have hnn:Big.nn l:=fun g hg=>(zA.1 (hE0 g hg)).1
 refine ze<|za<|zD rfl rfl (zT rfl rfl) (fun b1=> ?_)
 refine e_p (zb rfl)<|zf<|zc<|ze<|zw<|ze<|za<|e_ru (zd 0 ty30 rfl rfl (.t2 .nil))<|zq rfl rfl (.c rfl .n) ce155 (zQa (s:=s) (p:=p) (n:=n) (cap:=cap) (l:=l) (hn:=ass)) (.c (j:=0) rfl .n) ?_
 rintro ⟨p22,c23⟩ -
 dsimp only [aq,nq,cq]
 refine e_p (zG yh rfl)<|e_p (zxa rfl rfl)<|e_p (zb rfl)<|zf<|zc<|zI rfl (fun h0=> ?_) (fun h0=> ?_)
 ·
  refine ze<|za<|e_p (zb rfl)<|zf<|zc<|zE<|zia<|zB ?_
  exact zy Tryz.results167 () trivial (zp rfl) (by rw [show yq s l=0 by have:=Big.len_digs_nil.1 (show (yg (yq s l).natAbs).length=0 by omega);omega];rfl) (ho:=oN) sN
 ·
  refine ze<|za<|e_p (zh yo rfl sz4 rfl rfl)<|e_ru (zg 0 ty4 rfl rfl rfl)<|e_p (zb rfl)<|zf<|zc<|zpc rfl (fun hs=> ?_) (fun hs=> ?_)
  ·
   refine ze<|za<|e_p (zb rfl)<|zf<|zc<|zE<|zia<|zB ?_
   exact zy Tryz.results167 () trivial (zp rfl) (by rw [Big.sign_neg hnn hs (by intro e;rw [e] at h0;exact h0 rfl)]) (ho:=oN) sN
  ·
   refine zx<|zQ<|zc<|ze<|za<|e_p (zb rfl)<|zf<|zc<|zE ?_
   exact zy Tryz.results167 () trivial (zp rfl) (by rw [Big.sign_pos hnn hs (by intro e;rw [e] at h0;exact h0 rfl)]) (ho:=oN) sN
theorem zRc {z:Int} {p:Option Addr} {cap:Nat}:Con yl 167 [.agg #[.bool (decide ((z)<0)),.slice (p) ((yg ((z).natAbs)).length) (cap)]] [] [slF (rI .u32) (p) (cap) (yg ((z).natAbs))] (Y:=Unit) (fun y=>True) (fun y=> yd ye ((z).sign)) (fun y=>[]) (fun y=>[]):=by
  have h:= @zIe (decide ((z)<0)) p (yg (z).natAbs).length cap (yg (z).natAbs) rfl
  rw [yx] at h
  exact h
theorem zic {w1:Wd} {x1:Int}:Con yl 167 [.agg #[w1.b,w1.l]] [] [zF w1 (x1)] (Y:=Unit) (fun y=>True) (fun y=> yd ye ((x1).sign)) (fun y=>[]) (fun y=>[]):=by
  exact zgd (fun p c=>zRc)
theorem zLg {s:Bool} {p1:Option Addr} {n1:Nat} {c1:Nat} {l1:List Int} {t:Bool} {p2:Option Addr} {n2:Nat} {c2:Nat} {l2:List Int} (hn1:l1.length=n1) (hn2:l2.length=n2) (hb1:yC (yq s l1)≤4398046511104) (hb2:yC (yq t l2)≤4398046511104):Con yl 142 [.agg #[.bool s,.slice p1 n1 c1],.agg #[.bool t,.slice p2 n2 c2]] [] [slF (rI .u32) p1 c1 l1,slF (rI .u32) p2 c2 l2] (Y:=(Option Addr)×Nat) (fun y=>True) (fun y=> .agg #[.bool (decide ((yq s l1+yq t l2)<0)),.slice (y.1) ((yg ((yq s l1+yq t l2).natAbs)).length) (y.2)]) (fun y=>[]) (fun y=>[slF (rI .u32) (y.1) (y.2) (yg ((yq s l1+yq t l2).natAbs))]):=by
 refine zl Tryz.func142 rfl rfl rfl (fun c=> ?_)
 show RunC _ _ _ _ _ [(0,.agg #[.bool s,.slice p1 n1 c1]),(1,.agg #[.bool t,.slice p2 n2 c2])] [] [slF (rI .u32) p1 c1 l1,slF (rI .u32) p2 c2 l2]
 refine zX 0 rfl (fun hL0=> ?_)
 refine zXa 0 rfl (fun hE0=> ?_)
 refine zX 1 rfl (fun hL1=> ?_)
 refine zXa 1 rfl (fun hE1=> ?_)
 have hnn1:Big.nn l1:=fun g hg=>(zA.1 (hE0 g hg)).1
 have hnn2:Big.nn l2:=fun g hg=>(zA.1 (hE1 g hg)).1
 refine ze<|za<|zD rfl rfl (zT rfl rfl) (fun b1=> ?_)
 refine zD rfl rfl (zT rfl rfl) (fun b2=> ?_)
 refine zD rfl rfl (zo zr30 rfl) (fun b3=> ?_)
 refine zf<|zc<|ze<|zW (OW:=[boxA b3 30 [wz.b,wz.l]]) (O:=[boxA b2 30 [.bool t,.slice p2 n2 c2],boxA b1 30 [.bool s,.slice p1 n1 c1]]) 9 mixed (.then .ret) kr<|e_pv 0 rfl rfl (zh yo rfl sz4 rfl rfl)<|e_uw 1 rfl rfl (zg 2 ty4 rfl rfl rfl)<|e_uw 2 rfl rfl (zd 2 ty30 rfl rfl (.t2 .nil))<|e_pv 4 rfl rfl (zh yo rfl sz4 rfl rfl)<|e_uw 5 rfl rfl (zg 1 ty4 rfl rfl rfl)<|e_uw 6 rfl rfl (zd 1 ty30 rfl rfl (.t2 .nil))<|e_one 3 (zv rfl rfl rfl rfl (.c rfl .n) ce155 (zQa (s:=s) (p:=p1) (n:=n1) (cap:=c1) (l:=l1) (hn:=ass)) (.c (j:=0) rfl .n) ?_)
 rintro ⟨p24,c25⟩ -
 dsimp only [aq,nq,cq]
 refine e_one 7 (zv rfl rfl rfl rfl (.c rfl .n) ce155 (zQa (s:=t) (p:=p2) (n:=n2) (cap:=c2) (l:=l2) (hn:=ass)) (.c (j:=2) rfl .n) ?_)
 rintro ⟨p26,c27⟩ -
 dsimp only [aq,nq,cq]
 refine e_one 8 (zv rfl rfl rfl rfl (.c rfl (.c rfl (.c rfl (.c rfl .n)))) ce215 (zKg (s:=s) (t:=t) (a:=(yq s l1).natAbs) (b:=(yq t l2).natAbs) (p1:=p24) (c1:=c25) (p2:=p26) (c2:=c27) (hb1:=cbb) (hb2:=cbb)) (.c (j:=1) rfl (.c (j:=0) rfl .n)) ?_)
 rintro ⟨p38,c39⟩ -
 dsimp only [aq,nq,cq]
 refine e_one 9 (zr kr rfl rfl rfl rfl rfl sz30 rfl (.t2 .nil) ?_)
 refine zN kr<|zc<|zE ?_
 have hz:yw s ((yq s l1).natAbs:Int)+yw t ((yq t l2).natAbs:Int)=yq s l1+yq t l2:=by rw [Big.sg_raw hnn1,Big.sg_raw hnn2]
 exact zy Tryz.results142 (p38,c39) trivial (zn 0 ty30 rfl rfl (.t2 .nil)) (by rw [hz]) (ho:=oN) ((.e (j:=0) rfl (by rw [hz]) .n):SelR _ _ _)
theorem zng {x1:Int} {x2:Int} {p1:Option Addr} {c1:Nat} {p2:Option Addr} {c2:Nat} (hb1:yC x1≤4398046511104) (hb2:yC x2≤4398046511104):Con yl 142 [.agg #[.bool (decide ((x1)<0)),.slice (p1) ((yg ((x1).natAbs)).length) (c1)],.agg #[.bool (decide ((x2)<0)),.slice (p2) ((yg ((x2).natAbs)).length) (c2)]] [] [slF (rI .u32) (p1) (c1) (yg ((x1).natAbs)),slF (rI .u32) (p2) (c2) (yg ((x2).natAbs))] (Y:=(Option Addr)×(Nat)) (fun y=>True) (fun y=> .agg #[.bool (decide ((x1+x2)<0)),.slice (y.1) ((yg ((x1+x2).natAbs)).length) (y.2)]) (fun y=>[]) (fun y=>[slF (rI .u32) (y.1) (y.2) (yg ((x1+x2).natAbs))]):=by
  have h:= @zLg (decide ((x1)<0)) p1 (yg (x1).natAbs).length c1 (yg (x1).natAbs) (decide ((x2)<0)) p2 (yg (x2).natAbs).length c2 (yg (x2).natAbs) rfl rfl (by rw [yx];exact hb1) (by rw [yx];exact hb2)
  rw [yx,yx] at h
  exact h
theorem zog {w1:Wd} {w2:Wd} {x1:Int} {x2:Int} (hb1:yC x1≤4398046511104) (hb2:yC x2≤4398046511104):Con yl 142 [.agg #[w1.b,w1.l],.agg #[w2.b,w2.l]] [] [zF w1 (x1),zF w2 (x2)] (Y:=(Wd)) (fun y=>True) (fun y=> .agg #[y.b,y.l]) (fun y=>[]) (fun y=>[zF y (x1+x2)]):=by
  exact zSb (zAc (fun p1 c1 p2 c2=>zng hb1 hb2))
theorem zMg {s:Bool} {p1:Option Addr} {n1:Nat} {c1:Nat} {l1:List Int} {t:Bool} {p2:Option Addr} {n2:Nat} {c2:Nat} {l2:List Int} (hn1:l1.length=n1) (hn2:l2.length=n2) (hb1:yC (yq s l1)≤4398046511104) (hb2:yC (yq t l2)≤4398046511104):Con yl 141 [.agg #[.bool s,.slice p1 n1 c1],.agg #[.bool t,.slice p2 n2 c2]] [] [slF (rI .u32) p1 c1 l1,slF (rI .u32) p2 c2 l2] (Y:=(Option Addr)×Nat) (fun y=>True) (fun y=> .agg #[.bool (decide ((yq s l1*yq t l2)<0)),.slice (y.1) ((yg ((yq s l1*yq t l2).natAbs)).length) (y.2)]) (fun y=>[]) (fun y=>[slF (rI .u32) (y.1) (y.2) (yg ((yq s l1*yq t l2).natAbs))]):=by
 refine zl Tryz.func141 rfl rfl rfl (fun c=> ?_)
 show RunC _ _ _ _ _ [(0,.agg #[.bool s,.slice p1 n1 c1]),(1,.agg #[.bool t,.slice p2 n2 c2])] [] [slF (rI .u32) p1 c1 l1,slF (rI .u32) p2 c2 l2]
 refine zX 0 rfl (fun hL0=> ?_)
 refine zXa 0 rfl (fun hE0=> ?_)
 refine zX 1 rfl (fun hL1=> ?_)
 refine zXa 1 rfl (fun hE1=> ?_)
 have hnn1:Big.nn l1:=fun g hg=>(zA.1 (hE0 g hg)).1
 have hnn2:Big.nn l2:=fun g hg=>(zA.1 (hE1 g hg)).1
 refine ze<|za<|zD rfl rfl (zT rfl rfl) (fun b1=> ?_)
 refine zD rfl rfl (zT rfl rfl) (fun b2=> ?_)
 refine zD rfl rfl (zo zr30 rfl) (fun b3=> ?_)
 refine zf<|zc<|ze<|zW (OW:=[boxA b3 30 [wz.b,wz.l]]) (O:=[boxA b2 30 [.bool t,.slice p2 n2 c2],boxA b1 30 [.bool s,.slice p1 n1 c1]]) 11 mixed (.then .ret) kr<|e_pv 0 rfl rfl (zh yo rfl sz4 rfl rfl)<|e_uw 1 rfl rfl (zg 2 ty4 rfl rfl rfl)<|e_pv 2 rfl rfl (zh yo rfl sz4 rfl rfl)<|e_uw 3 rfl rfl (zg 1 ty4 rfl rfl rfl)<|e_pv 4 rfl rfl (zNa Tryz.underlying4 rfl rfl)<|e_uw 5 rfl rfl (zd 2 ty30 rfl rfl (.t2 .nil))<|e_uw 7 rfl rfl (zd 1 ty30 rfl rfl (.t2 .nil))<|e_one 6 (zv rfl rfl rfl rfl (.c rfl .n) ce155 (zQa (s:=s) (p:=p1) (n:=n1) (cap:=c1) (l:=l1) (hn:=ass)) (.c (j:=0) rfl .n) ?_)
 rintro ⟨p24,c25⟩ -
 dsimp only [aq,nq,cq]
 refine e_one 8 (zv rfl rfl rfl rfl (.c rfl .n) ce155 (zQa (s:=t) (p:=p2) (n:=n2) (cap:=c2) (l:=l2) (hn:=ass)) (.c (j:=2) rfl .n) ?_)
 rintro ⟨p26,c27⟩ -
 dsimp only [aq,nq,cq]
 refine e_one 9 (zv rfl rfl rfl rfl (.c rfl (.c rfl .n)) ce214 (zSd (a:=(yq s l1).natAbs) (b:=(yq t l2).natAbs) (p1:=p24) (c1:=c25) (p2:=p26) (c2:=c27) (hb1:=cbb) (hb2:=cbb)) (.c (j:=1) rfl (.c (j:=0) rfl .n)) ?_)
 rintro ⟨p38,c39⟩ -
 dsimp only [aq,nq,cq]
 refine e_one 10 (zv rfl rfl rfl rfl (.c rfl (.c rfl .n)) ce208 (zAa (s:=decide (s≠t)) (a:=((yq s l1).natAbs)*((yq t l2).natAbs)) (p:=p38) (cap:=c39)) (.c (j:=0) rfl .n) ?_)
 rintro ⟨p210,c211⟩ -
 dsimp only [aq,nq,cq]
 refine e_one 11 (zr kr rfl rfl rfl rfl rfl sz30 rfl (.t2 .nil) ?_)
 refine zN kr<|zc<|zE ?_
 have hz:yw (decide (s≠t)) (((yq s l1).natAbs*(yq t l2).natAbs:Nat):Int)=yq s l1*yq t l2:=by rw [Big.sg_mul,Big.sg_raw hnn1,Big.sg_raw hnn2]
 exact zy Tryz.results141 (p210,c211) trivial (zn 0 ty30 rfl rfl (.t2 .nil)) (by rw [hz]) (ho:=oN) ((.e (j:=0) rfl (by rw [hz]) .n):SelR _ _ _)
theorem zpg {x1:Int} {x2:Int} {p1:Option Addr} {c1:Nat} {p2:Option Addr} {c2:Nat} (hb1:yC x1≤4398046511104) (hb2:yC x2≤4398046511104):Con yl 141 [.agg #[.bool (decide ((x1)<0)),.slice (p1) ((yg ((x1).natAbs)).length) (c1)],.agg #[.bool (decide ((x2)<0)),.slice (p2) ((yg ((x2).natAbs)).length) (c2)]] [] [slF (rI .u32) (p1) (c1) (yg ((x1).natAbs)),slF (rI .u32) (p2) (c2) (yg ((x2).natAbs))] (Y:=(Option Addr)×(Nat)) (fun y=>True) (fun y=> .agg #[.bool (decide ((x1*x2)<0)),.slice (y.1) ((yg ((x1*x2).natAbs)).length) (y.2)]) (fun y=>[]) (fun y=>[slF (rI .u32) (y.1) (y.2) (yg ((x1*x2).natAbs))]):=by
  have h:= @zMg (decide ((x1)<0)) p1 (yg (x1).natAbs).length c1 (yg (x1).natAbs) (decide ((x2)<0)) p2 (yg (x2).natAbs).length c2 (yg (x2).natAbs) rfl rfl (by rw [yx];exact hb1) (by rw [yx];exact hb2)
  rw [yx,yx] at h
  exact h
theorem zCb {w1:Wd} {w2:Wd} {x1:Int} {x2:Int} (hb1:yC x1≤4398046511104) (hb2:yC x2≤4398046511104):Con yl 141 [.agg #[w1.b,w1.l],.agg #[w2.b,w2.l]] [] [zF w1 (x1),zF w2 (x2)] (Y:=(Wd)) (fun y=>True) (fun y=> .agg #[y.b,y.l]) (fun y=>[]) (fun y=>[zF y (x1*x2)]):=by
  exact zSb (zAc (fun p1 c1 p2 c2=>zpg hb1 hb2))
end Go.Proofs.YtpdbimfnhglhpaaGreat.Sp
namespace Go.Proofs.YtpdbimfnhglhpaaGreat.Sp
open Go
set_option linter.unusedVariables false
set_option maxRecDepth 100000
set_option maxHeartbeats 8000000
theorem zNg {p:Option Addr} {n:Nat} {cap:Nat} {l:List Int} (hn:l.length=n) (hb:n≤8796093022208):Con yl 213 [.slice p n cap] [] [slF (rI .u32) p cap l] (Y:=(Option Addr)×Nat) (fun y=>True) (fun y=> .slice (y.1) (l.length) (y.2)) (fun y=>[]) (fun y=>[slF (rI .u32) (y.1) (y.2) l]):=by
 refine zl Tryz.func213 rfl rfl rfl (fun c=> ?_)
 show RunC _ _ _ _ _ [(0,.slice p n cap)] [] [slF (rI .u32) p cap l]
 refine zX 0 rfl (fun hL0=> ?_)
 refine c_nil 0 rfl (fun hnil=> ?_)
 refine ze<|za<|e_p (zb rfl)<|zf<|zc<|ze<|ze<|za<|e_mv rfl<|e_p (zPd yh rfl rfl)<|zf<|zc<|zpc rfl (fun h0=> ?_) (fun h0=> ?_)
 ·
  refine ze<|za<|e_p (zb rfl)<|zf<|zc<|zE<|zB ?_
  obtain rfl:l=[]:=hnil (by simpa using h0)
  refine zMd (rI .u32) ?_
  exact zy Tryz.results213 (none,0) trivial (zp rfl) rfl (ho:=oN) (s0 rfl)
 ·
  refine zx<|zc<|ze<|za<|zva rfl rfl (zta (rI .u32) yh inf133) (fun b1 _=> ?_)
  refine e_mv rfl<|zEa 0 rfl rfl rfl (zCa 0 rfl yh inf133 dd rfl rfl cbs rfl cbs (by first|omega|(simp;omega)) (by first|omega|(simp;omega))) (fun _=> .z) ?_
  rintro ⟨p2,c3⟩ -
  dsimp only [aq,nq,cq]
  refine e_p (zb rfl)<|zf<|zc<|zE<|zzb 0 rfl .z ?_
  exact zy Tryz.results213 (p2,c3) trivial (zp rfl) (by simp [hn]) (ho:=oN) (s0 rfl)
theorem zxd {a:Nat} {p:Option Addr} {cap:Nat} (hb:(yg (a)).length≤8796093022208):Con yl 213 [.slice (p) ((yg (a)).length) (cap)] [] [slF (rI .u32) (p) (cap) (yg (a))] (Y:=(Option Addr)×(Nat)) (fun y=>True) (fun y=> .slice (y.1) ((yg (a)).length) (y.2)) (fun y=>[]) (fun y=>[slF (rI .u32) (y.1) (y.2) (yg (a))]):=by
  exact zNg rfl hb
theorem zIc {a:Nat} {p:Option Addr} {cap:Nat}:Con yl 232 [.slice p ((yg a).length) cap] [] [slF (rI .u32) p cap (yg a)] (Y:=Unit) (fun y=>True) (fun y=> .tuple #[.int .u64 (((if (yg a).length≤2 then a else 0):Nat):Int),.bool (decide ((yg a).length≤2))]) (fun y=>[]) (fun y=>[]):=by
 refine zOb Tryz.func232 rfl rfl rfl (fun c=> ?_)
 show RunC _ _ _ _ _ [(0,.slice p ((yg a).length) cap)] [] [slF (rI .u32) p cap (yg a)]
 refine zX 0 rfl (fun hL0=> ?_)
 refine ze<|za<|e_p (zb rfl)<|e_p (zb rfl)<|zf<|zc<|ze<|ze<|za<|e_mv rfl<|e_p (zG yh rfl)<|e_p (zpa rfl rfl)<|zf<|zc<|zI rfl (fun hgt=> ?_) (fun hgt=> ?_)
 ·
  refine ze<|za<|e_p (zb rfl)<|e_p (zb rfl)<|zf<|zc<|zE<|zB<|zsf ?_
  exact zBa Tryz.results232 () trivial (zp rfl) (zp rfl) (by rw [if_neg om,decide_eq_false (show ¬(yg a).length≤2 by omega)];rfl) (ho:=oN) sN
 ·
  have hle:(yg a).length≤2:=by omega
  have h18:=Big.two_lt hle
  refine zx<|zc<|ze<|za<|zD rfl rfl (zo zr182 rfl) (fun b1=> ?_)
  refine zk 0 rfl rfl rfl rfl rfl sz182 rfl (.take .nil) .z<|zf<|zc<|ze<|ze<|za<|e_mv rfl<|zq rfl rfl (.c rfl .n) ce156 (zqb (p:=p) (n:=(yg a).length) (cap:=cap)) (.n) ?_
  rintro b2 -
  dsimp only [aq,nq,cq]
  refine zf<|zc<|zw<|ztd (fa:=[atF b2 0 [.slice p ((yg a).length) cap],slF (rI .u32) p cap (yg a)]) (N:=((yg a).length)) (encs:=fun k=>[yd ye ((k:Nat):Int),.int .u32 ((yg a).getD k 0)]) rfl ce220 (back_u32 cbs) (fun _=>rfl) rfl (X:=Int) (Y:=Unit) (fun x k=>k≤(yg a).length∧x=yi ((yg a).drop k)∧0≤x∧x*yv k≤(a:Int)) (fun y=>False) (fun x=>[boxA b1 182 [.int .u64 x]]) (fun x=>[]) (fun y=>[]) (fun y=>[]) (fun k=>[(6,.int .u32 ((yg a).getD k 0)),(13,.int .u32 ((yg a).getD k 0)),(12,yd ye ((k:Nat):Int)),(11,.func (.func 220) #[] #[yf (some ⟨b2,0,none⟩)]),(10,.slice p ((yg a).length) cap),(4,yf (some ⟨b1,0,none⟩)),(9,.bool (decide (2<(((yg a).length:Nat):Int)))),(8,yd ye (((yg a).length:Nat):Int)),(7,.slice p ((yg a).length) cap),(3,.bool false),(2,.int .u64 0),(0,.slice p ((yg a).length) cap)]) (0:Int) (show ((yg a).length)≤(yg a).length∧(0:Int)=yi ((yg a).drop ((yg a).length))∧0≤(0:Int)∧(0:Int)*yv ((yg a).length)≤(a:Int) from by exact ⟨Nat.le_refl _,by simp [yi],Int.le_refl _,by simp⟩) (ho:=((.e (i:=0) rfl cgs .n):PickO _ _ _)) ((.of [0,1] rfl):SelR _ _ _) ?_ ?_ ?_ ?_
  ·
   intro l k O' R' Q' hP
   refine za<|e_p (zb rfl)<|zf ?_
   exact hP
  ·
   rintro l3 D4 o5 o6 z k hkN hI
   replace hI:(k+1)≤(yg a).length∧z=yi ((yg a).drop (k+1))∧0≤z∧z*yv (k+1)≤(a:Int):=hI
   try dsimp only
   obtain ⟨hk,hz,hz0,hzp⟩:=hI
   have hg:=yn (yp a) k
   have hlim:=Big.word_lim hle (show k+1≤(yg a).length by omega) hz0 hzp
   refine zw<|za<|e_ru (zg 2 ty182 rfl rfl rfl)<|e_p (zua (z:=(z*1000000000)) rfl rfl (wu64 om))<|e_mv rfl<|e_p (zt (z:=((yg a).getD k 0)) rfl (by rw [yj];rfl) yk (wu64 om))<|e_p (zK (z:=((z*1000000000)+((yg a).getD k 0))) rfl rfl (wu64 om))<|zk 2 rfl rfl rfl rfl rfl sz182 rfl (.take .nil) (.s (.s .z))<|zf<|zQ ?_
   exact zsd (z*1000000000+(yg a).getD k 0) (show k≤(yg a).length∧(z*1000000000+(yg a).getD k 0)=yi ((yg a).drop k)∧0≤(z*1000000000+(yg a).getD k 0)∧(z*1000000000+(yg a).getD k 0)*yv k≤(a:Int) from by exact ⟨by omega,by rw [hz];exact Big.word_step k,by omega,Big.word_keep (show k+1≤(yg a).length by omega) hz⟩) (ho:=((.c (i:=0) rfl (.c (i:=0) rfl (.e (i:=0) rfl cgs .n))):PickO _ _ _)) ((.of [0,1] rfl):SelR _ _ _)
  ·
   rintro D7 z hI
   replace hI:0≤(yg a).length∧z=yi ((yg a).drop 0)∧0≤z∧z*yv 0≤(a:Int):=hI
   try dsimp only
   have hz9:z=(a:Int):=by rw [hI.2.1,List.drop_zero,yu]
   refine zQ<|zc<|ze<|za<|e_ru (zg 1 ty182 rfl rfl rfl)<|e_p (zb rfl)<|e_p (zb rfl)<|zf<|zc<|zE<|zNd 0 rfl rfl ?_
   exact zBa Tryz.results232 () trivial (zp rfl) (zp rfl) (by rw [if_pos hle,decide_eq_true hle,hz9]) (ho:=oN) sN
  ·
   intro _ _ h;exact h.elim
theorem zTd {a:Nat} {mm:Nat} {p:Option Addr} {cap:Nat} (hb:(yg a).length≤4398046511104) (hm0:0<mm) (hm1:mm<4294967296):Con yl 255 [.slice p ((yg a).length) cap,.int .u32 ((mm:Nat):Int)] [] [slF (rI .u32) p cap (yg a)] (Y:=(Option Addr)×Nat) (fun y=>True) (fun y=> .tuple #[.slice (y.1) ((yg (a / mm)).length) (y.2),.int .u32 (((a%mm):Nat):Int)]) (fun y=>[]) (fun y=>[slF (rI .u32) (y.1) (y.2) (yg (a / mm))]):=by
 refine zOb Tryz.func255 rfl rfl rfl (fun c=> ?_)
 show RunC _ _ _ _ _ [(0,.slice p ((yg a).length) cap),(1,.int .u32 ((mm:Nat):Int))] [] [slF (rI .u32) p cap (yg a)]
 refine zX 0 rfl (fun hL0=> ?_)
 refine ze<|za<|zD rfl rfl (zT rfl rfl) (fun b1=> ?_)
 refine zD rfl rfl (zo zr28 rfl) (fun b2=> ?_)
 refine e_p (zb rfl)<|zf<|zc<|ze<|za<|e_mv rfl<|e_p (zG yh rfl)<|zva rfl rfl (zKa (r:=rI .u32) (k:=(yg a).length) (x0:=0) (γ0:=()) yh inf133 rfl rfl rfl rfl om om rfl (fun g _=>by exact zA.2 dd) dd) (fun b3 _=> ?_)
 refine zk 1 rfl rfl rfl rfl rfl sz28 rfl (.take .nil) (.s .z)<|zf<|zc<|ze<|za<|zD rfl rfl (zo zr182 rfl) (fun b4=> ?_)
 refine zk 0 rfl rfl rfl rfl rfl sz182 rfl (.take .nil) .z<|zf<|zc<|ze<|ze<|za<|e_mv rfl<|zq rfl rfl (.c rfl .n) ce156 (zqb (p:=p) (n:=(yg a).length) (cap:=cap)) (.n) ?_
 rintro b5 -
 dsimp only [aq,nq,cq]
 refine zf<|zc<|zw<|ztd (fa:=[atF b5 0 [.slice p ((yg a).length) cap],slF (rI .u32) p cap (yg a)]) (N:=((yg a).length)) (encs:=fun k=>[yd ye ((k:Nat):Int),.int .u32 ((yg a).getD k 0)]) rfl ce220 (back_u32 (by first|rfl|assumption|(simp;done)|omega)) (fun _=>rfl) rfl (X:=(List Int)×(List Int)×Int) (Y:=Unit) (fun x k=>x.1=List.replicate k 0++x.2.1∧Big.ShI (yg a) (mm:Int) k x.2.1 x.2.2) (fun y=>False) (fun x=>[boxA b4 182 [.int .u64 (x.2.2)],rowA 133 (rI .u32) (some ⟨b3,0,none⟩) ((yg a).length) (x.1),boxA b2 28 [.slice (some ⟨b3,0,none⟩) ((yg a).length) ((yg a).length)],boxA b1 133 [.int .u32 ((mm:Nat):Int)]]) (fun x=>[]) (fun y=>[]) (fun y=>[]) (fun k=>[(8,.int .u32 ((yg a).getD k 0)),(7,yd ye ((k:Nat):Int)),(16,.int .u32 ((yg a).getD k 0)),(15,yd ye ((k:Nat):Int)),(14,.func (.func 220) #[] #[yf (some ⟨b5,0,none⟩)]),(13,.slice p ((yg a).length) cap),(6,yf (some ⟨b4,0,none⟩)),(12,.slice (some ⟨b3,0,none⟩) ((yg a).length) ((yg a).length)),(11,yd ye (((yg a).length:Nat):Int)),(10,.slice p ((yg a).length) cap),(5,.int .u32 0),(4,yf (some ⟨b2,0,none⟩)),(3,yf (some ⟨b1,0,none⟩)),(0,.slice p ((yg a).length) cap),(1,.int .u32 ((mm:Nat):Int))]) ((List.replicate (yg a).length 0),([]:List Int),(0:Int)) (show (List.replicate (yg a).length 0)=List.replicate ((yg a).length) 0++([]:List Int)∧Big.ShI (yg a) (mm:Int) ((yg a).length) ([]:List Int) (0:Int) from by exact ⟨by simp,Big.ShI.start om⟩) (ho:=((.e (i:=0) rfl cgs (.e (i:=0) rfl cgs (.of [0,0] rfl))):PickO _ _ _)) ((.of [0,1] rfl):SelR _ _ _) ?_ ?_ ?_ ?_
 ·
  intro l k O' R' Q' hP
  refine ze<|za<|e_p (zb rfl)<|zf<|zc<|za<|e_p (zb rfl)<|zf ?_
  exact hP
 ·
  rintro l6 D7 o8 o9 ⟨os,qs,z⟩ k hkN hI
  replace hI:os=List.replicate (k+1) 0++qs∧Big.ShI (yg a) (mm:Int) (k+1) qs z:=hI
  try dsimp only
  obtain ⟨hos,hS⟩:=hI
  have hz0:=hS.r0
  have hz1:=hS.r1
  have hkle:=hS.le
  have hosl:os.length=(yg a).length:=by rw [hos,List.length_append,List.length_replicate,hS.len];omega
  have hg:=yn (yp a) k
  have hdg:=Big.sh_digit hz0 hz1 hg
  have hrm:=Int.emod_lt_of_pos (z*1000000000+(yg a).getD k 0) (show 0<(mm:Int) by omega)
  have hrm0:=Int.emod_nonneg (z*1000000000+(yg a).getD k 0) (show (mm:Int)≠0 by omega)
  refine zw<|ze<|za<|e_ru (zg 2 ty182 rfl rfl rfl)<|e_p (zua (z:=(z*1000000000)) rfl rfl (wu64 om))<|e_mv rfl<|e_p (zt (z:=((yg a).getD k 0)) rfl (by rw [yj];rfl) yk (wu64 om))<|e_p (zK (z:=((z*1000000000)+((yg a).getD k 0))) rfl rfl (wu64 om))<|e_p (zb rfl)<|zf<|zc<|zoa (.c (i:=3) rfl (.c (i:=2) rfl (.c (i:=0) rfl (.c (i:=0) rfl (.c (i:=0) rfl (.c (i:=0) rfl .n))))))<|zwf (OW:=[rowA 133 (rI .u32) (some ⟨b3,0,none⟩) ((yg a).length) os,boxA b4 182 [.int .u64 z]]) (O:=[objA l6 o8,objA D7 o9,boxA b2 28 [.slice (some ⟨b3,0,none⟩) ((yg a).length) ((yg a).length)],boxA b1 133 [.int .u32 ((mm:Nat):Int)]]) 12 mixed kr kr<|e_uw 0 rfl rfl (zg 4 ty28 rfl rfl rfl)<|e_dm 1 rfl rfl rfl<|e_dm 2 rfl rfl rfl<|e_uw 3 rfl rfl (zg 5 ty133 rfl rfl rfl)<|e_pv 4 rfl rfl (zt (z:=((mm:Nat):Int)) rfl (by rw [yj];rfl) yk (wu64 om))<|e_pv 5 rfl rfl (zfb (z:=(((z*1000000000)+((yg a).getD k 0)) / ((mm:Nat):Int))) rfl rfl om (by rw [quoN (z:=(((z*1000000000)+((yg a).getD k 0)) / ((mm:Nat):Int))) om om];exact wu64 om))<|e_pv 6 rfl rfl (zt (z:=(((z*1000000000)+((yg a).getD k 0)) / ((mm:Nat):Int))) rfl (by rw [yk];rfl) yj (wu32 om))<|e_dm 7 rfl rfl rfl<|e_u 8 rfl rfl (zg 3 ty133 rfl rfl rfl)<|e_pv 9 rfl rfl (zt (z:=((mm:Nat):Int)) rfl (by rw [yj];rfl) yk (wu64 om))<|e_pv 10 rfl rfl (zbb (z:=(((z*1000000000)+((yg a).getD k 0))%((mm:Nat):Int))) rfl rfl om (remN om om))<|e_pv 11 rfl rfl (zS (j:=k) yh sz133 rfl rfl rfl om)<|e_one 12 (zcc (A':=fun _=>rowA 133 (rI .u32) (some ⟨b3,0,none⟩) ((yg a).length) (os.set k (((z*1000000000)+((yg a).getD k 0)) / ((mm:Nat):Int)))) kr rfl rfl rfl (zO (j:=k) (x0:=(((z*1000000000)+((yg a).getD k 0)) / ((mm:Nat):Int))) (γ0:=()) rfl rfl (by first|omega|(rw [List.length_map];omega)|(simp only [List.length_set];omega)|(simp;done)|(simp;omega)) rfl rfl sz133 (fun _ _=>by exact zA.2 om)) (fun _ _=> ?_))
  refine zDa (zba (i:=1) rfl)<|e_one 13 (zr kr rfl rfl rfl rfl rfl sz182 rfl (.take .nil) ?_)
  refine zxf kr<|zQ ?_
  exact zsd ((os.set k (((z*1000000000)+((yg a).getD k 0)) / ((mm:Nat):Int))),((z*1000000000+(yg a).getD k 0) / (mm:Int) :: qs),((z*1000000000+(yg a).getD k 0)%(mm:Int))) (show (os.set k (((z*1000000000)+((yg a).getD k 0)) / ((mm:Nat):Int)))=List.replicate k 0++((z*1000000000+(yg a).getD k 0) / (mm:Int) :: qs)∧Big.ShI (yg a) (mm:Int) k ((z*1000000000+(yg a).getD k 0) / (mm:Int) :: qs) ((z*1000000000+(yg a).getD k 0)%(mm:Int)) from by exact ⟨by rw [hos];exact Big.pad_set _,hS.step (yp a)⟩) (ho:=((.c (i:=2) rfl (.c (i:=2) rfl (.e (i:=0) rfl cgs (.of [0,0,0] rfl)))):PickO _ _ _)) ((.of [0,1] rfl):SelR _ _ _)
 ·
  rintro D10 ⟨os,qs,z⟩ hI
  replace hI:os=List.replicate 0 0++qs∧Big.ShI (yg a) (mm:Int) 0 qs z:=hI
  try dsimp only
  obtain ⟨hos,hS⟩:=hI
  obtain ⟨hf1,hf2⟩:=hS.fin
  have hoq:os=qs:=by simpa using hos
  have htr:ym os=yg (a / mm):=by rw [hoq];exact hf1
  have hosl:os.length=(yg a).length:=by rw [hoq,hS.len];omega
  have hzr:=hS.r1
  have hzr0:=hS.r0
  refine zQ<|zc<|ze<|zoa (.c (i:=3) rfl (.c (i:=0) rfl (.c (i:=0) rfl (.c (i:=0) rfl (.c (i:=0) rfl .n)))))<|zwf (OW:=[boxA b2 28 [.slice (some ⟨b3,0,none⟩) ((yg a).length) ((yg a).length)]]) (O:=[objA D10 (.deferred (some [])),boxA b4 182 [.int .u64 z],rowA 133 (rI .u32) (some ⟨b3,0,none⟩) ((yg a).length) os,boxA b1 133 [.int .u32 ((mm:Nat):Int)]]) 4 mixed kr kr<|e_uw 0 rfl rfl (zg 0 ty28 rfl rfl rfl)<|e_u 2 rfl rfl (zg 1 ty182 rfl rfl rfl)<|e_pv 3 rfl rfl (zt (z:=z) rfl (by rw [yk];rfl) yj (wu32 om))<|zLa 2 rfl (.s (.s .z))<|e_one 1 (zv rfl rfl rfl rfl (.c rfl .n) ce250 (zBb (p:=some ⟨b3,0,none⟩) (n:=(yg a).length) (cap:=(yg a).length) (l:=os) (hn:=cbb)) (.c (j:=0) rfl .n) ?_)
  rintro ⟨⟩ -
  dsimp only [aq,nq,cq]
  refine e_one 4 (zr kr rfl rfl rfl rfl rfl sz28 rfl (.take .nil) ?_)
  refine e_pv 5 rfl rfl (zb rfl)<|zxf kr<|zc<|zE<|zNd 1 rfl rfl ?_
  exact zBa Tryz.results255 ((some ⟨b3,0,none⟩),((yg a).length)) trivial (zgb 0 ty28 rfl rfl rfl) (zp rfl) (by rw [htr,hf2]) (ho:=oN) ((.e (j:=0) rfl (by rw [htr]) .n):SelR _ _ _)
 ·
  intro _ _ h;exact h.elim
theorem zEf {p:Option Addr} {n:Nat} {cap:Nat} {l:List Int} (hn:l.length=n):Con yl 250 [.slice p n cap] [rowA 133 (rI .u32) p cap l] [] (Y:=Unit) (fun y=>True) (fun y=> .slice p ((ym l).length) cap) (fun y=>[rowA 133 (rI .u32) p cap (ym l)]) (fun y=>[]):=by
 refine zl Tryz.func250 rfl rfl rfl (fun c=> ?_)
 show RunC _ _ _ _ _ [(0,.slice p n cap)] [rowA 133 (rI .u32) p cap l] []
 refine zhg 0 rfl (fun hcl=> ?_)
 refine ze<|za<|e_p (zb rfl)<|zf<|zc<|ze<|zw<|zha (X:=Nat) (fun x:Nat=>x≤l.length∧ym (l.take x)=ym l) (fun x=>[(0,.slice p x cap),(2,.slice none 0 0)]) (fun x=>[rowA 133 (rI .u32) p cap l]) (fun x=>[]) (fun x:Nat=>x) n (show n≤l.length∧ym (l.take n)=ym l from by exact ⟨by omega,by rw [List.take_of_length_le om]⟩) ((.c rfl (.c rfl .n)):SubM _ _) (ho:=(o0 rfl)) sN ?_
 rintro k hI
 replace hI:k≤l.length∧ym (l.take k)=ym l:=hI
 try dsimp only
 obtain ⟨hk,hT⟩:=hI
 refine ze<|zib (X:=Unit) (fun x=>True) (fun x=>[(14,.bool (decide (0<k∧l.getD (k - 1) 0=0))),(0,.slice p k cap),(2,.slice none 0 0)]) (fun x=>[rowA 133 (rI .u32) p cap l]) (fun x=>[]) ?_ ?_
 ·
  refine za<|e_mv rfl<|e_p (zG yh rfl)<|e_p (zpa rfl rfl)<|zja rfl rfl (zna rfl) (fun h1=> ?_) (fun h1=> ?_)
  ·
   refine e_mv rfl<|e_mv rfl<|e_p (zG yh rfl)<|e_p (zla (z:=(((k - 1):Nat):Int)) rfl rfl (w64 om))<|e_ru (zvd 0 (k - 1) rfl yh sz133 rfl cbo rfl rfl om)<|r_vl rfl rfl (zL 0 (k - 1) rfl ty133 rfl rfl (gD (d:=0) om) rfl) (fun _ hok2=> ?_)
   replace hok2:=zA.1 hok2
   refine e_p (zxa rfl rfl)<|e_p (zC rfl rfl)<|zf ?_
   exact zka () tt9 ((.e rfl (congrArg Value.bool (by have h1:0<k:=om;have h2:((k:Int) - 1).toNat=k - 1:=om;simp [h1,h2])) (.c rfl (.c rfl .n))):SubM _ _) (ho:=(o0 rfl)) sN
  ·
   refine e_no<|e_no<|e_no<|e_no<|e_no<|e_no<|e_no<|e_p (zC rfl rfl)<|zf ?_
   exact zka () tt9 ((.e rfl (congrArg Value.bool (by have h1:¬0<k:=om;simp [h1])) (.c rfl (.c rfl .n))):SubM _ _) (ho:=(o0 rfl)) sN
 ·
  rintro ⟨⟩ -
  try dsimp only
  refine zI rfl (fun hc=> ?_) (fun hc=> ?_)
  ·
   refine zx<|zc<|zw<|za<|e_mv rfl<|e_mv rfl<|e_p (zG yh rfl)<|e_p (zla (z:=(((k - 1):Nat):Int)) rfl rfl (w64 om))<|e_p (zKb (hi:=(k - 1)) yh sz133 rfl (.s rfl) (.inr ⟨_,rfl⟩) om)<|e_p (zb rfl)<|zf<|zQ<|zca (k - 1) (show (k - 1)≤l.length∧ym (l.take (k - 1))=ym l from by exact ⟨by omega,by rw [← hT,Big.trim_go l hc.1 hk hc.2]⟩) (by show k - 1<k;omega) ((.e rfl cgs (.c rfl .n)):SubM _ _) (ho:=(o0 rfl)) sN
  ·
   refine zda<|zj<|zj<|zu<|zc<|ze<|za<|e_mv rfl<|e_p (zb rfl)<|zf<|zc<|zE ?_
   have hfin:l.take k=ym l:=by rw [← hT];exact (Big.trim_stop l hk hc).symm
   have hlk:(l.take k).length=k:=by rw [List.length_take];omega
   refine zad (fun w mm=>mm.rowTake 0 rfl k) ?_
   dsimp only [List.set]
   have e3:l.take k=ym l:=by exact hfin
   rw [e3]
   exact zy Tryz.results250 () trivial (zp rfl) (by rw [← hfin,hlk]) (ho:=(o0 rfl)) sN
theorem zVe {a:Nat} {b:Nat} {p1:Option Addr} {c1:Nat} {p2:Option Addr} {c2:Nat} (hb1:(yg a).length≤4398046511104) (hb2:(yg b).length≤4398046511104):Con yl 214 [.slice p1 ((yg a).length) c1,.slice p2 ((yg b).length) c2] [] [slF (rI .u32) p1 c1 (yg a),slF (rI .u32) p2 c2 (yg b)] (Y:=(Option Addr)×Nat) (fun y=>True) (fun y=> .slice (y.1) ((yg (a*b)).length) (y.2)) (fun y=>[rowA 133 (rI .u32) (y.1) (y.2) (yg (a*b))]) (fun y=>[]):=by
 refine zl Tryz.func214 rfl rfl rfl (fun c=> ?_)
 show RunC _ _ _ _ _ [(0,.slice p1 ((yg a).length) c1),(1,.slice p2 ((yg b).length) c2)] [] [slF (rI .u32) p1 c1 (yg a),slF (rI .u32) p2 c2 (yg b)]
 refine zX 0 rfl (fun hL0=> ?_)
 refine zX 1 rfl (fun hL1=> ?_)
 have hoa:=yp a
 have hob:=yp b
 refine ze<|za<|e_p (zb rfl)<|zf<|zc<|ze<|za<|e_mv rfl<|e_p (zG yh rfl)<|e_mv rfl<|e_p (zG yh rfl)<|e_p (zK (z:=(((((yg a).length)+((yg b).length)):Nat):Int)) rfl rfl (w64 om))<|zva rfl rfl (zKa (r:=rI .u32) (k:=(((yg a).length)+((yg b).length))) (x0:=0) (γ0:=()) yh inf133 rfl rfl rfl rfl om om rfl (fun g _=>by exact zA.2 dd) dd) (fun b1 _=> ?_)
 refine e_p (zb rfl)<|zf<|zc<|ze<|ze<|za<|e_mv rfl<|e_p (zG yh rfl)<|e_mv rfl<|zf<|zc<|zw<|zha (X:=Nat×(List Int)) (fun x:Nat×(List Int)=>x.1≤(yg a).length∧x.2.length=(yg a).length+(yg b).length∧yr x.2∧(∀k,x.1+(yg b).length≤k→x.2.getD k 0=0)∧yi x.2=yi ((yg a).take x.1)*yi (yg b)) (fun x=>[(20,yd ye ((x.1:Nat):Int)),(19,yd ye (((yg a).length:Nat):Int)),(18,.slice p1 ((yg a).length) c1),(5,.slice (some ⟨b1,0,none⟩) (((yg a).length)+((yg b).length)) (((yg a).length)+((yg b).length))),(4,.slice none 0 0),(1,.slice p2 ((yg b).length) c2)]) (fun x=>[rowA 133 (rI .u32) (some ⟨b1,0,none⟩) (((yg a).length)+((yg b).length)) (x.2)]) (fun x=>[slF (rI .u32) p1 c1 (yg a),slF (rI .u32) p2 c2 (yg b)]) (fun x:Nat×(List Int)=>(yg a).length - x.1) (0,List.replicate ((yg a).length+(yg b).length) 0) (show 0≤(yg a).length∧(List.replicate ((yg a).length+(yg b).length) 0).length=(yg a).length+(yg b).length∧yr (List.replicate ((yg a).length+(yg b).length) 0)∧(∀k,0+(yg b).length≤k→(List.replicate ((yg a).length+(yg b).length) 0).getD k 0=0)∧yi (List.replicate ((yg a).length+(yg b).length) 0)=yi ((yg a).take 0)*yi (yg b) from by exact ⟨by omega,by simp,Big.okL_zeros _,fun k _=>Big.getD_zeros _ k,by simp [Big.valL_zeros,yi]⟩) ((.e rfl cgs (.of rfl)):SubM _ _) (ho:=((.e (i:=0) rfl cgs .n):PickO _ _ _)) ((.of [0,1] rfl):SelR _ _ _) ?_
 rintro ⟨i,os⟩ hI
 replace hI:i≤(yg a).length∧os.length=(yg a).length+(yg b).length∧yr os∧(∀k,i+(yg b).length≤k→os.getD k 0=0)∧yi os=yi ((yg a).take i)*yi (yg b):=hI
 try dsimp only
 obtain ⟨hi,hol,hok,hz,hv⟩:=hI
 have hg1:=yn hoa i
 refine ze<|za<|e_p (zV rfl rfl)<|zf<|zc<|ze<|zI rfl (fun h2=> ?_) (fun h2=> ?_)
 ·
  refine zx<|zc<|ze<|zw<|ze<|za<|e_mv rfl<|zZ (x0:=((yg a).getD i 0)) 0 i rfl yh sz133 rfl rfl rfl (by first|rfl|assumption|(simp;omega)|omega) rfl rfl (gD (d:=0) om) (fun b3 o4 hok5=> ?_)
  replace hok5:=zA.1 hok5
  refine e_ru (zi (j:=0) 0 ty133 rfl rfl rfl rfl)<|e_p (zb rfl)<|e_p (zb rfl)<|zf<|zc<|ze<|za<|e_p (zb rfl)<|zf<|zc<|ze<|ze<|za<|e_mv rfl<|e_p (zG yh rfl)<|e_mv rfl<|zf<|zc<|zw<|zha (X:=Nat×(List Int)×Int) (fun x:Nat×(List Int)×Int=>x.1≤(yg b).length∧x.2.1.length=(yg a).length+(yg b).length∧yr x.2.1∧0≤x.2.2∧x.2.2<1000000000∧(∀k,i+(yg b).length≤k→x.2.1.getD k 0=0)∧yi x.2.1+yv (i+x.1)*x.2.2=yi ((yg a).take i)*yi (yg b)+yv i*(yg a).getD i 0*yi ((yg b).take x.1)) (fun x=>[(8,.int .u64 (x.2.2)),(27,yd ye ((x.1:Nat):Int)),(26,yd ye (((yg b).length:Nat):Int)),(25,.slice p2 ((yg b).length) c2),(7,.int .u32 ((yg a).getD i 0)),(6,yd ye ((i:Nat):Int)),(20,yd ye ((i:Nat):Int)),(19,yd ye (((yg a).length:Nat):Int)),(18,.slice p1 ((yg a).length) c1),(5,.slice (some ⟨b1,0,none⟩) (((yg a).length)+((yg b).length)) (((yg a).length)+((yg b).length))),(4,.slice none 0 0),(1,.slice p2 ((yg b).length) c2)]) (fun x=>[rowA 133 (rI .u32) (some ⟨b1,0,none⟩) (((yg a).length)+((yg b).length)) (x.2.1)]) (fun x=>[atF b3 o4 [.int .u32 ((yg a).getD i 0)],slF (rI .u32) p1 c1 (yg a),slF (rI .u32) p2 c2 (yg b)]) (fun x:Nat×(List Int)×Int=>(yg b).length - x.1) (0,os,0) (show 0≤(yg b).length∧os.length=(yg a).length+(yg b).length∧yr os∧0≤0∧0<1000000000∧(∀k,i+(yg b).length≤k→os.getD k 0=0)∧yi os+yv (i+0)*0=yi ((yg a).take i)*yi (yg b)+yv i*(yg a).getD i 0*yi ((yg b).take 0) from by exact ⟨by omega,hol,hok,by decide,by decide,hz,by rw [hv];simp [yi]⟩) ((.c rfl (.e rfl cgs (.of rfl))):SubM _ _) (ho:=(o0 rfl)) ((.of [0,1,2] rfl):SelR _ _ _) ?_
  rintro ⟨j,os2,cy⟩ hJ
  replace hJ:j≤(yg b).length∧os2.length=(yg a).length+(yg b).length∧yr os2∧0≤cy∧cy<1000000000∧(∀k,i+(yg b).length≤k→os2.getD k 0=0)∧yi os2+yv (i+j)*cy=yi ((yg a).take i)*yi (yg b)+yv i*(yg a).getD i 0*yi ((yg b).take j):=hJ
  try dsimp only
  obtain ⟨hj,hol2,hok2,hcy0,hcy1,hz2,hv2⟩:=hJ
  have hg2:=yn hob j
  have hg3:=yn hok2 (i+j)
  have hpq:=Big.mul_lim hg1 hg2
  refine ze<|za<|e_p (zV rfl rfl)<|zf<|zc<|ze<|zI rfl (fun h6=> ?_) (fun h6=> ?_)
  ·
   refine zx<|zc<|ze<|zw<|ze<|za<|e_mv rfl<|zZ (x0:=((yg b).getD j 0)) 2 j rfl yh sz133 rfl rfl rfl (by first|rfl|assumption|(simp;omega)|omega) rfl rfl (gD (d:=0) om) (fun b7 o8 hok9=> ?_)
   replace hok9:=zA.1 hok9
   refine e_ru (zi (j:=0) 0 ty133 rfl rfl rfl rfl)<|e_p (zb rfl)<|e_p (zb rfl)<|zf<|zc<|ze<|za<|e_mv rfl<|e_mv rfl<|e_mv rfl<|e_p (zK (z:=(((i+j):Nat):Int)) rfl rfl (w64 om))<|e_p (zS (j:=(i+j)) yh sz133 rfl rfl rfl om)<|r_vl rfl rfl (zL 0 (i+j) rfl ty133 rfl rfl (gD (d:=0) om) rfl) (fun _ hok10=> ?_)
   replace hok10:=zA.1 hok10
   refine e_p (zt (z:=(os2.getD (i+j) 0)) rfl (by rw [yj];rfl) yk (wu64 om))<|e_mv rfl<|e_p (zt (z:=((yg a).getD i 0)) rfl (by rw [yj];rfl) yk (wu64 om))<|e_mv rfl<|e_p (zt (z:=((yg b).getD j 0)) rfl (by rw [yj];rfl) yk (wu64 om))<|e_p (zua (z:=(((yg a).getD i 0)*((yg b).getD j 0))) rfl rfl (wu64 om))<|e_p (zK (z:=((os2.getD (i+j) 0)+(((yg a).getD i 0)*((yg b).getD j 0)))) rfl rfl (wu64 om))<|e_mv rfl<|e_p (zK (z:=(((os2.getD (i+j) 0)+(((yg a).getD i 0)*((yg b).getD j 0)))+cy)) rfl rfl (wu64 om))<|e_p (zb rfl)<|zf<|zc<|za<|e_mv rfl<|e_mv rfl<|e_mv rfl<|e_p (zK (z:=(((i+j):Nat):Int)) rfl rfl (w64 om))<|e_mv rfl<|e_p (zbb (z:=((((os2.getD (i+j) 0)+(((yg a).getD i 0)*((yg b).getD j 0)))+cy)%1000000000)) rfl rfl om (remN om om))<|e_p (zt (z:=((((os2.getD (i+j) 0)+(((yg a).getD i 0)*((yg b).getD j 0)))+cy)%1000000000)) rfl (by rw [yk];rfl) yj (wu32 om))<|e_mv rfl<|e_p (zfb (z:=((((os2.getD (i+j) 0)+(((yg a).getD i 0)*((yg b).getD j 0)))+cy) / 1000000000)) rfl rfl om (by rw [quoN (z:=((((os2.getD (i+j) 0)+(((yg a).getD i 0)*((yg b).getD j 0)))+cy) / 1000000000)) om om];exact wu64 om))<|e_p (zS (j:=(i+j)) yh sz133 rfl rfl rfl om)<|zEa 0 rfl rfl rfl (zO (j:=(i+j)) (x0:=((((os2.getD (i+j) 0)+(((yg a).getD i 0)*((yg b).getD j 0)))+cy)%1000000000)) (γ0:=()) rfl rfl (by first|omega|(rw [List.length_map];omega)|(simp only [List.length_set];omega)|(simp;done)|(simp;omega)) rfl rfl sz133 (fun _ _=>by exact zA.2 om)) (fun _=> .z) (fun _ _=> ?_)
   refine e_p (zb rfl)<|zf<|zQ<|zc<|za<|e_p (zK (z:=(((j+1):Nat):Int)) rfl rfl (w64 om))<|e_mv rfl<|zf<|zca ((j+1),os2.set (i+j) ((os2.getD (i+j) 0+(yg a).getD i 0*(yg b).getD j 0+cy)%1000000000),(os2.getD (i+j) 0+(yg a).getD i 0*(yg b).getD j 0+cy) / 1000000000) (show (j+1)≤(yg b).length∧(os2.set (i+j) ((os2.getD (i+j) 0+(yg a).getD i 0*(yg b).getD j 0+cy)%1000000000)).length=(yg a).length+(yg b).length∧yr (os2.set (i+j) ((os2.getD (i+j) 0+(yg a).getD i 0*(yg b).getD j 0+cy)%1000000000))∧0≤((os2.getD (i+j) 0+(yg a).getD i 0*(yg b).getD j 0+cy) / 1000000000)∧((os2.getD (i+j) 0+(yg a).getD i 0*(yg b).getD j 0+cy) / 1000000000)<1000000000∧(∀k,i+(yg b).length≤k→(os2.set (i+j) ((os2.getD (i+j) 0+(yg a).getD i 0*(yg b).getD j 0+cy)%1000000000)).getD k 0=0)∧yi (os2.set (i+j) ((os2.getD (i+j) 0+(yg a).getD i 0*(yg b).getD j 0+cy)%1000000000))+yv (i+(j+1))*((os2.getD (i+j) 0+(yg a).getD i 0*(yg b).getD j 0+cy) / 1000000000)=yi ((yg a).take i)*yi (yg b)+yv i*(yg a).getD i 0*yi ((yg b).take (j+1)) from by exact ⟨by omega,by simpa using hol2,yD hok2 om om,by omega,by omega,fun k hk=>by rw [yz om];exact hz2 k om,Big.mul_step hv2 om om⟩) (by show (yg b).length - (j+1)<(yg b).length - j;omega) ((.e rfl cgs (.of rfl)):SubM _ _) (ho:=((.e (i:=0) rfl cgs .n):PickO _ _ _)) ((.of [1,2,3] rfl):SelR _ _ _)
  ·
   have hjb:j=(yg b).length:=by omega
   subst hjb
   have hv3:=hv2
   refine zda<|zj<|zj<|zu<|zc<|za<|e_mv rfl<|e_mv rfl<|e_mv rfl<|e_p (zG yh rfl)<|e_p (zK (z:=(((i+((yg b).length)):Nat):Int)) rfl rfl (w64 om))<|e_mv rfl<|e_p (zt (z:=cy) rfl (by rw [yk];rfl) yj (wu32 om))<|e_p (zS (j:=(i+((yg b).length))) yh sz133 rfl rfl rfl om)<|zEa 0 rfl rfl rfl (zO (j:=(i+((yg b).length))) (x0:=cy) (γ0:=()) rfl rfl (by first|omega|(rw [List.length_map];omega)|(simp only [List.length_set];omega)|(simp;done)|(simp;omega)) rfl rfl sz133 (fun _ _=>by exact zA.2 om)) (fun _=> .z) (fun _ _=> ?_)
   refine zf<|zQ<|zc<|za<|e_p (zK (z:=(((i+1):Nat):Int)) rfl rfl (w64 om))<|e_mv rfl<|zf<|zca ((i+1),os2.set (i+(yg b).length) cy) (show (i+1)≤(yg a).length∧(os2.set (i+(yg b).length) cy).length=(yg a).length+(yg b).length∧yr (os2.set (i+(yg b).length) cy)∧(∀k,(i+1)+(yg b).length≤k→(os2.set (i+(yg b).length) cy).getD k 0=0)∧yi (os2.set (i+(yg b).length) cy)=yi ((yg a).take (i+1))*yi (yg b) from by exact ⟨by omega,by simpa using hol2,yD hok2 om om,fun k hk=>by rw [yz om];exact hz2 k om,Big.mul_round hv3 om (hz2 _ (Nat.le_refl _))⟩) (by show (yg a).length - (i+1)<(yg a).length - i;omega) (mR rfl) (ho:=((.e (i:=0) rfl cgs .n):PickO _ _ _)) ((.of [1,2] rfl):SelR _ _ _)
 ·
  have hia:i=(yg a).length:=by omega
  have hfin:ym os=yg (a*b):=Big.trimL_of hok (by rw [hv,hia,List.take_length,yu,yu,Int.natCast_mul])
  refine zda<|zj<|zj<|zu<|zc<|ze<|za<|e_mv rfl<|zGg (A:=[rowA 133 (rI .u32) (some ⟨b1,0,none⟩) (((yg a).length)+((yg b).length)) os]) (F:=[]) (first:=[]) (cap:=[]) rfl rfl rfl (.c rfl .n) ce250 (zEf (p:=some ⟨b1,0,none⟩) (n:=(((yg a).length)+((yg b).length))) (cap:=(((yg a).length)+((yg b).length))) (l:=os) (hn:=cbb)) (.n) ?_
  rintro ⟨⟩ -
  dsimp only [aq,nq,cq]
  refine e_p (zb rfl)<|zf<|zc<|zE ?_
  have e11:ym os=yg (a*b):=by exact hfin
  rw [e11]
  exact zy Tryz.results214 ((some ⟨b1,0,none⟩),(((yg a).length)+((yg b).length))) trivial (zp rfl) rfl (ho:=(o0 rfl)) sN
end Go.Proofs.YtpdbimfnhglhpaaGreat.Sp
namespace Go.Proofs.YtpdbimfnhglhpaaGreat.Sp
open Go
set_option linter.unusedVariables false
set_option maxRecDepth 100000
set_option maxHeartbeats 8000000
theorem zqg {a:Nat} {b:Nat} {p1:Option Addr} {c1:Nat} {p2:Option Addr} {c2:Nat} (hb1:(yg a).length≤4398046511104) (hb2:(yg b).length≤4398046511104) (hb3:2≤(yg b).length) (hab:b≤a):Con yl 256 [.slice p1 ((yg a).length) c1,.slice p2 ((yg b).length) c2] [] [slF (rI .u32) p1 c1 (yg a),slF (rI .u32) p2 c2 (yg b)] (Y:=(Option Addr)×Nat×(Option Addr)×Nat) (fun y=>True) (fun y=> .tuple #[.slice (y.1) ((yg (a / b)).length) (y.2.1),.slice (y.2.2.1) ((yg (a%b)).length) (y.2.2.2)]) (fun y=>[]) (fun y=>[slF (rI .u32) (y.1) (y.2.1) (yg (a / b)),slF (rI .u32) (y.2.2.1) (y.2.2.2) (yg (a%b))]):=by
 refine zl Tryz.func256 rfl rfl rfl (fun c=> ?_)
 show RunC _ _ _ _ _ [(0,.slice p1 ((yg a).length) c1),(1,.slice p2 ((yg b).length) c2)] [] [slF (rI .u32) p1 c1 (yg a),slF (rI .u32) p2 c2 (yg b)]
 refine zX 0 rfl (fun hL0=> ?_)
 refine zX 1 rfl (fun hL1=> ?_)
 have hob:=yp b
 have htop:=yn hob ((yg b).length - 1)
 have hdt:=Big.digs_top (b:=b) (n:=(yg b).length - 1) om
 have hab2:=Big.ln_mono' hab
 have hq1:0≤1000000000 / ((yg b).getD ((yg b).length - 1) 0+1):=Int.ediv_nonneg om om
 have hq2:1000000000 / ((yg b).getD ((yg b).length - 1) 0+1)≤500000000:=Int.ediv_le_of_le_mul om om
 refine ze<|za<|e_p (zb rfl)<|e_p (zb rfl)<|zf<|zc<|ze<|za<|e_mv rfl<|e_mv rfl<|e_p (zG yh rfl)<|e_p (zla (z:=((((yg b).length - 1):Nat):Int)) rfl rfl (w64 om))<|zZ (x0:=((yg b).getD ((yg b).length - 1) 0)) 1 ((yg b).length - 1) rfl yh sz133 rfl rfl rfl (by first|rfl|assumption|(simp;done)|omega) rfl rfl (gD (d:=0) om) (fun b1 o2 hok3=> ?_)
 replace hok3:=zA.1 hok3
 refine e_ru (zi (j:=0) 0 ty133 rfl rfl rfl rfl)<|e_p (zt (z:=((yg b).getD ((yg b).length - 1) 0)) rfl (by rw [yj];rfl) yk (wu64 om))<|e_p (zK (z:=(((yg b).getD ((yg b).length - 1) 0)+1)) rfl rfl (wu64 om))<|e_p (zfb (z:=(1000000000 / (((yg b).getD ((yg b).length - 1) 0)+1))) rfl rfl om (by rw [quoN (z:=(1000000000 / (((yg b).getD ((yg b).length - 1) 0)+1))) om om];exact wu64 om))<|e_p (zt (z:=(1000000000 / (((yg b).getD ((yg b).length - 1) 0)+1))) rfl (by rw [yk];rfl) yj (wu32 om))<|e_p (zb rfl)<|zf<|zc<|ze ?_
 obtain ⟨s,hs⟩:∃s:Nat,s=(1000000000 / ((yg b).getD ((yg b).length - 1) 0+1)).toNat:=⟨_,rfl⟩
 obtain ⟨hs1,hs2,hs3⟩:=Big.scale_len (n:=(yg b).length - 1) om hs
 have hsd:=Big.digs_one hs1 (by omega:s<1000000000)
 have hsl:(yg s).length=1:=by rw [hsd];rfl
 have e4:((1000000000 / (((yg b).getD ((yg b).length - 1) 0)+1)):Int)=((s:Nat):Int):=by omega
 rw [e4]
 refine za<|e_mv rfl<|e_mv rfl<|zva rfl rfl (zH (enc:=fun z:Int=>[.int .u32 z]) (ok:=InK .u32) (h1:=fun _=>rfl) (h2:=fun _=>rfl) (k:=1) yh inf133 rfl dd dd dd (.c (x:=((s:Nat):Int)) rfl rfl (fun _ _=>by exact zA.2 om) .n)) (fun b5 _=> ?_)
 refine zea 0 rfl .z ?_
 have e6:[((s:Nat):Int)]=yg s:=by exact hsd.symm
 rw [e6]
 have e7:(.slice (some ⟨b5,0,none⟩) 1 1:Value)= .slice (some ⟨b5,0,none⟩) ((yg s).length) 1:=by rw [hsl]
 rw [e7]
 refine zq rfl rfl (.c rfl (.c rfl .n)) ce214 (zVe (a:=a) (b:=s) (p1:=p1) (c1:=c1) (p2:=some ⟨b5,0,none⟩) (c2:=1) (hb1:=ass) (hb2:=cbb)) (.c (j:=2) rfl (.c (j:=0) rfl .n)) ?_
 rintro ⟨p38,c39⟩ -
 dsimp only [aq,nq,cq]
 refine e_p (zb rfl)<|zf<|zc<|ze<|za<|e_mv rfl<|e_mv rfl<|zva rfl rfl (zH (enc:=fun z:Int=>[.int .u32 z]) (ok:=InK .u32) (h1:=fun _=>rfl) (h2:=fun _=>rfl) (k:=1) yh inf133 rfl dd dd dd (.c (x:=((s:Nat):Int)) rfl rfl (fun _ _=>by exact zA.2 om) .n)) (fun b10 _=> ?_)
 refine zea 0 rfl .z ?_
 have e11:[((s:Nat):Int)]=yg s:=by exact hsd.symm
 rw [e11]
 have e12:(.slice (some ⟨b10,0,none⟩) 1 1:Value)= .slice (some ⟨b10,0,none⟩) ((yg s).length) 1:=by rw [hsl]
 rw [e12]
 refine zq rfl rfl (.c rfl (.c rfl .n)) ce214 (zSd (a:=b) (b:=s) (p1:=p2) (c1:=c2) (p2:=some ⟨b10,0,none⟩) (c2:=1) (hb1:=ass) (hb2:=cbb)) (.c (j:=4) rfl (.c (j:=0) rfl .n)) ?_
 rintro ⟨p313,c314⟩ -
 dsimp only [aq,nq,cq]
 refine e_p (zb rfl)<|zf<|zc<|ze ?_
 obtain ⟨A,hA⟩:∃z,z=a*s:=⟨_,rfl⟩
 rw [← hA]
 obtain ⟨V,hV⟩:∃z,z=b*s:=⟨_,rfl⟩
 rw [← hV]
 have hAl:(yg a).length≤(yg A).length:=by rw [hA];exact Big.len_mul_ge hs1
 have hAl2:(yg A).length≤(yg a).length+1:=by have h8:=Big.len_mul_le a s;rw [hsl] at h8;rw [hA];exact h8
 obtain ⟨m,hm⟩:∃z,(yg V).length=z+2:=⟨(yg b).length - 2,by rw [hV,hs3];omega⟩
 have hmb:(yg b).length=m+2:=by rw [hV,hs3] at hm;omega
 have e15:(yg V).length=(m+2):=by exact hm
 rw [e15]
 refine za<|e_mv rfl<|e_p (zG yh rfl)<|e_p (zb rfl)<|zf<|zc<|ze<|za<|e_mv rfl<|zva rfl rfl (zH (enc:=fun z:Int=>[.int .u32 z]) (ok:=InK .u32) (h1:=fun _=>rfl) (h2:=fun _=>rfl) (k:=1) yh inf133 rfl dd dd dd (.c (x:=0) rfl rfl (fun _ _=>by exact zA.2 om) .n)) (fun b16 _=> ?_)
 refine zea 0 rfl .z<|zEa 2 rfl rfl rfl (zCa 0 rfl yh inf133 dd rfl rfl (by first|rfl|assumption|(simp;done)|omega) rfl (by first|rfl|assumption|(simp;done)|omega) om om) (fun _=>(.s (.s .z))) ?_
 rintro ⟨p17,c18⟩ -
 dsimp only [aq,nq,cq]
 refine e_p (zb rfl)<|zf<|zc<|ze<|ze<|za<|e_mv rfl<|e_p (zG yh rfl)<|e_mv rfl<|e_p (zG yh rfl)<|e_p (zId rfl rfl)<|zf<|zc<|zI rfl (fun h19=> ?_) (fun h19=> ?_)
 ·
  exact absurd ‹_› om
 ·
  refine zx<|zc<|ze ?_
  obtain ⟨M,hM⟩:∃z,z=((yg A).length)+1:=⟨_,rfl⟩
  rw [← hM]
  refine za<|e_mv rfl<|e_p (zG yh rfl)<|e_mv rfl<|e_p (zla (z:=(((M - (m+2)):Nat):Int)) rfl rfl (w64 om))<|zva rfl rfl (zKa (r:=rI .u32) (k:=(M - (m+2))) (x0:=0) (γ0:=()) yh inf133 rfl rfl rfl rfl om om rfl (fun g _=>by exact zA.2 dd) dd) (fun b20 _=> ?_)
  refine e_p (zb rfl)<|zf<|zc<|ze<|ze ?_
  have hMl:m+3≤M:=by omega
  have hLg:Big.LgI M (m+2) ((A:Nat):Int) ((V:Nat):Int) (M - (m+2)) (yg A++[0]) []:=Big.LgI.start (yB (yp A) dd dd) (by simp [hM]) (by rw [Big.valL_snoc,yu];simp) hm om (by rw [Big.valL_snoc,yu,hM,Nat.add_sub_cancel];simpa using Big.digs_lt A) om
  refine za<|e_mv rfl<|e_p (zG yh rfl)<|e_mv rfl<|e_p (zla (z:=(((M:Nat):Int) - (((m+2):Nat):Int))) rfl rfl (w64 om))<|e_p (zla (z:=((((M:Nat):Int) - (((m+2):Nat):Int)) - 1)) rfl rfl (w64 om))<|e_p (zb rfl)<|zf<|zc<|zw<|zha (X:=Nat×(List Int)×(List Int)) (fun x:Nat×(List Int)×(List Int)=>Big.LgI M (m+2) ((A:Nat):Int) ((V:Nat):Int) x.1 x.2.1 x.2.2) (fun x=>[(10,yd ye (((x.1:Nat):Int) - 1)),(4,.slice (some ⟨b20,0,none⟩) (M - (m+2)) (M - (m+2))),(7,.slice p17 M c18),(9,yd ye (((m+2):Nat):Int)),(8,.slice p313 (m+2) c314),(6,.int .u32 ((s:Nat):Int)),(5,.slice none 0 0)]) (fun x=>[rowA 133 (rI .u32) (some ⟨b20,0,none⟩) (M - (m+2)) (List.replicate x.1 0++x.2.2),rowA 133 (rI .u32) p17 c18 (x.2.1)]) (fun x=>[slF (rI .u32) (some ⟨b16,0,none⟩) 1 ([0]),slF (rI .u32) p313 c314 (yg V),slF (rI .u32) (some ⟨b10,0,none⟩) 1 (yg s),slF (rI .u32) (some ⟨b5,0,none⟩) 1 (yg s),atF b1 o2 [.int .u32 ((yg b).getD ((yg b).length - 1) 0)],slF (rI .u32) p1 c1 (yg a),slF (rI .u32) p2 c2 (yg b)]) (fun x:Nat×(List Int)×(List Int)=>x.1) ((M - (m+2)),(yg A++[0]),([]:List Int)) (show Big.LgI M (m+2) ((A:Nat):Int) ((V:Nat):Int) (M - (m+2)) (yg A++[0]) ([]:List Int) from by exact hLg) ((.e rfl (congrArg (Value.int .i64) om) (.of rfl)):SubM _ _) (ho:=((.e (i:=0) rfl (by simp) (.e (i:=2) rfl (by simp) .n)):PickO _ _ _)) ((.of [0,1,2,3,4,5,6] rfl):SelR _ _ _) ?_
  rintro ⟨jj,u,qs⟩ hI
  replace hI:Big.LgI M (m+2) ((A:Nat):Int) ((V:Nat):Int) jj u qs:=hI
  try dsimp only
  refine ze<|ze<|za<|e_mv rfl<|e_p (zMa rfl rfl)<|zf<|zc<|zI rfl (fun hj=> ?_) (fun hj=> ?_)
  ·
   obtain ⟨j,rfl⟩:∃j,jj=j+1:=⟨jj - 1,by omega⟩
   have e21:(((((j+1):Nat):Int) - 1):Int)=((j:Nat):Int):=by omega
   rw [e21]
   have hjM:=hI.jle
   have hul:=hI.ul
   have hT:=hI.tp hm
   have hu2:=hT.a2
   have hu1:=hT.a1
   have hu0:=hT.a0
   have hvt1:=hT.vt1
   have hvt2:=hT.vt2
   have hvs0:=hT.vs0
   have hvs1:=hT.vs1
   have hgst:=hT.start
   have hgl0:=Big.Gs.le hT hgst
   have hg00:=hgst.g0
   have hg01:=hgst.r0
   have hrlt:=Int.emod_lt_of_pos ((u.getD (j+(m+2)) 0)*1000000000+(u.getD (j+(m+1)) 0)) (show 0<((yg V).getD (m+1) 0) by omega)
   refine zx<|zc<|ze<|zw<|ze<|zW (OW:=[]) (O:=[rowA 133 (rI .u32) (some ⟨b20,0,none⟩) (M - (m+2)) (List.replicate (j+1) 0++qs),rowA 133 (rI .u32) p17 c18 u]) 100000 mixed (.then (.block (.then (.then (.block (.then .ret)))))) kr<|e_dm 0 rfl rfl rfl<|e_dm 1 rfl rfl rfl<|e_dm 2 rfl rfl rfl<|e_pv 3 rfl rfl (zK (z:=(((j+(m+2)):Nat):Int)) rfl rfl (w64 om))<|e_dm 7 rfl rfl rfl<|e_dm 8 rfl rfl rfl<|e_dm 9 rfl rfl rfl<|e_pv 10 rfl rfl (zK (z:=(((j+(m+2)):Nat):Int)) rfl rfl (w64 om))<|e_pv 11 rfl rfl (zla (z:=(((j+(m+1)):Nat):Int)) rfl rfl (w64 om))<|e_u 12 rfl rfl (zY 1 (j+(m+1)) rfl yh sz133 rfl (by first|rfl|assumption|(simp;done)|omega) rfl rfl om)<|d_vl 13 rfl rfl kr kr rfl rfl (zL 1 (j+(m+1)) rfl ty133 rfl rfl (gD (d:=0) om) rfl) (fun _ hok22=> ?_)
   replace hok22:=zA.1 hok22
   refine e_pv 14 rfl rfl (zt (z:=(u.getD (j+(m+1)) 0)) rfl (by rw [yj];rfl) yk (wu64 om))<|e_one 4 (zig 1 rfl rfl rfl rfl rfl (.c rfl (.c rfl .n)) ce257 (zHe (p:=p17) (n:=M) (cap:=c18) (l:=u) (i:=(j+(m+2))) (hn:=cbb) (hi:=cbb)) (.c (j:=0) rfl .n) ?_)
   refine e_pv 5 rfl rfl (zt (z:=u.getD (j+(m+2)) 0) rfl (by rw [yj];rfl) yk (wu64 om))<|e_pv 6 rfl rfl (zua (z:=(u.getD (j+(m+2)) 0*1000000000)) rfl rfl (wu64 om))<|e_pv 15 rfl rfl (zK (z:=((u.getD (j+(m+2)) 0*1000000000)+(u.getD (j+(m+1)) 0))) rfl rfl (wu64 om))<|e_pv 16 rfl rfl (zb rfl)<|zN kr<|zc<|ze<|zW (OW:=[]) (O:=[rowA 133 (rI .u32) (some ⟨b20,0,none⟩) (M - (m+2)) (List.replicate (j+1) 0++qs),rowA 133 (rI .u32) p17 c18 u]) 100000 mixed (.then (.block (.then (.then (.block (.then .ret)))))) kr<|e_dm 0 rfl rfl rfl<|e_dm 1 rfl rfl rfl<|e_dm 2 rfl rfl rfl<|e_pv 3 rfl rfl (zla (z:=(((m+1):Nat):Int)) rfl rfl (w64 om))<|zra (x0:=((yg V).getD (m+1) 0)) 4 rfl rfl kr kr 1 (m+1) rfl yh sz133 rfl rfl rfl (by first|rfl|assumption|(simp;done)|omega) rfl rfl (gD (d:=0) om) (fun b23 o24 hok25=> ?_)
   replace hok25:=zA.1 hok25
   refine e_u 5 rfl rfl (zi (j:=0) 0 ty133 rfl rfl rfl rfl)<|e_pv 6 rfl rfl (zt (z:=((yg V).getD (m+1) 0)) rfl (by rw [yj];rfl) yk (wu64 om))<|e_pv 7 rfl rfl (zfb (z:=(((u.getD (j+(m+2)) 0*1000000000)+(u.getD (j+(m+1)) 0)) / ((yg V).getD (m+1) 0))) rfl rfl om (by rw [quoN (z:=(((u.getD (j+(m+2)) 0*1000000000)+(u.getD (j+(m+1)) 0)) / ((yg V).getD (m+1) 0))) om om];exact wu64 om))<|e_dm 8 rfl rfl rfl<|e_dm 9 rfl rfl rfl<|e_dm 10 rfl rfl rfl<|e_pv 11 rfl rfl (zla (z:=(((m+1):Nat):Int)) rfl rfl (w64 om))<|zra (x0:=((yg V).getD (m+1) 0)) 12 rfl rfl kr kr 2 (m+1) rfl yh sz133 rfl rfl rfl (by first|rfl|assumption|(simp;done)|omega) rfl rfl (gD (d:=0) om) (fun b26 o27 hok28=> ?_)
   replace hok28:=zA.1 hok28
   refine e_u 13 rfl rfl (zi (j:=0) 0 ty133 rfl rfl rfl rfl)<|e_pv 14 rfl rfl (zt (z:=((yg V).getD (m+1) 0)) rfl (by rw [yj];rfl) yk (wu64 om))<|e_pv 15 rfl rfl (zbb (z:=(((u.getD (j+(m+2)) 0*1000000000)+(u.getD (j+(m+1)) 0))%((yg V).getD (m+1) 0))) rfl rfl om (remN om om))<|e_pv 16 rfl rfl (zb rfl)<|e_pv 17 rfl rfl (zb rfl)<|zN kr<|zc<|zib (X:=Int) (fun x=>(0≤x∧x<1000000000)∧(yi (u.drop j))<(x+1)*(V:Int)∧x*(V:Int)<(yi (u.drop j))+(V:Int)) (fun x=>[(12,.int .u64 x),(10,yd ye ((j:Nat):Int)),(4,.slice (some ⟨b20,0,none⟩) (M - (m+2)) (M - (m+2))),(7,.slice p17 M c18),(9,yd ye (((m+2):Nat):Int)),(8,.slice p313 (m+2) c314),(6,.int .u32 ((s:Nat):Int)),(5,.slice none 0 0)]) (fun x=>[rowA 133 (rI .u32) (some ⟨b20,0,none⟩) (M - (m+2)) (List.replicate (j+1) 0++qs),rowA 133 (rI .u32) p17 c18 u]) (fun x=>[atF b26 o27 [.int .u32 ((yg V).getD (m+1) 0)],atF b23 o24 [.int .u32 ((yg V).getD (m+1) 0)],slF (rI .u32) (some ⟨b16,0,none⟩) 1 ([0]),slF (rI .u32) p313 c314 (yg V),slF (rI .u32) (some ⟨b10,0,none⟩) 1 (yg s),slF (rI .u32) (some ⟨b5,0,none⟩) 1 (yg s),atF b1 o2 [.int .u32 ((yg b).getD ((yg b).length - 1) 0)],slF (rI .u32) p1 c1 (yg a),slF (rI .u32) p2 c2 (yg b)]) ?_ ?_
   ·
    refine zw<|zha (X:=Int×Int) (fun x:Int×Int=>Big.Gs (yi (u.drop j)) (V:Int) ((yg V).getD (m+1) 0) ((u.getD (j+(m+2)) 0)*1000000000+(u.getD (j+(m+1)) 0)) x.1 x.2∧x.2<1000000000) (fun x=>[(13,.int .u64 (x.2)),(12,.int .u64 (x.1)),(10,yd ye ((j:Nat):Int)),(4,.slice (some ⟨b20,0,none⟩) (M - (m+2)) (M - (m+2))),(7,.slice p17 M c18),(9,yd ye (((m+2):Nat):Int)),(8,.slice p313 (m+2) c314),(6,.int .u32 ((s:Nat):Int)),(5,.slice none 0 0)]) (fun x=>[rowA 133 (rI .u32) (some ⟨b20,0,none⟩) (M - (m+2)) (List.replicate (j+1) 0++qs),rowA 133 (rI .u32) p17 c18 u]) (fun x=>[atF b26 o27 [.int .u32 ((yg V).getD (m+1) 0)],atF b23 o24 [.int .u32 ((yg V).getD (m+1) 0)],slF (rI .u32) (some ⟨b16,0,none⟩) 1 ([0]),slF (rI .u32) p313 c314 (yg V),slF (rI .u32) (some ⟨b10,0,none⟩) 1 (yg s),slF (rI .u32) (some ⟨b5,0,none⟩) 1 (yg s),atF b1 o2 [.int .u32 ((yg b).getD ((yg b).length - 1) 0)],slF (rI .u32) p1 c1 (yg a),slF (rI .u32) p2 c2 (yg b)]) (fun x:Int×Int=>x.1.toNat) ((((u.getD (j+(m+2)) 0*1000000000)+(u.getD (j+(m+1)) 0)) / ((yg V).getD (m+1) 0)),(((u.getD (j+(m+2)) 0*1000000000)+(u.getD (j+(m+1)) 0))%((yg V).getD (m+1) 0))) (show Big.Gs (yi (u.drop j)) (V:Int) ((yg V).getD (m+1) 0) ((u.getD (j+(m+2)) 0)*1000000000+(u.getD (j+(m+1)) 0)) (((u.getD (j+(m+2)) 0*1000000000)+(u.getD (j+(m+1)) 0)) / ((yg V).getD (m+1) 0)) (((u.getD (j+(m+2)) 0*1000000000)+(u.getD (j+(m+1)) 0))%((yg V).getD (m+1) 0))∧(((u.getD (j+(m+2)) 0*1000000000)+(u.getD (j+(m+1)) 0))%((yg V).getD (m+1) 0))<1000000000 from by exact ⟨hgst,by omega⟩) (mR rfl) (ho:=((.of [0,0] rfl):PickO _ _ _)) ((.of [0,1,2,3,4,5,6,7,8] rfl):SelR _ _ _) ?_
    rintro ⟨g,r⟩ hG
    replace hG:Big.Gs (yi (u.drop j)) (V:Int) ((yg V).getD (m+1) 0) ((u.getD (j+(m+2)) 0)*1000000000+(u.getD (j+(m+1)) 0)) g r∧r<1000000000:=hG
    try dsimp only
    obtain ⟨hGs,hr9⟩:=hG
    have hgl:=Big.Gs.le hT hGs
    have hg0:=hGs.g0
    have hr0:=hGs.r0
    have hgm:=Big.mul_lim3 hg0 hgl.1 hvs0 hvs1
    refine ze<|zib (X:=Unit) (fun x=>True) (fun x=>[(123,.bool (decide ((1000000000≤g)∨(((r*1000000000)+(u.getD (j+m) 0))<(g*((yg V).getD m 0)))))),(13,.int .u64 r),(12,.int .u64 g),(10,yd ye ((j:Nat):Int)),(4,.slice (some ⟨b20,0,none⟩) (M - (m+2)) (M - (m+2))),(7,.slice p17 M c18),(9,yd ye (((m+2):Nat):Int)),(8,.slice p313 (m+2) c314),(6,.int .u32 ((s:Nat):Int)),(5,.slice none 0 0)]) (fun x=>[rowA 133 (rI .u32) (some ⟨b20,0,none⟩) (M - (m+2)) (List.replicate (j+1) 0++qs),rowA 133 (rI .u32) p17 c18 u]) (fun x=>[atF b26 o27 [.int .u32 ((yg V).getD (m+1) 0)],atF b23 o24 [.int .u32 ((yg V).getD (m+1) 0)],slF (rI .u32) (some ⟨b16,0,none⟩) 1 ([0]),slF (rI .u32) p313 c314 (yg V),slF (rI .u32) (some ⟨b10,0,none⟩) 1 (yg s),slF (rI .u32) (some ⟨b5,0,none⟩) 1 (yg s),atF b1 o2 [.int .u32 ((yg b).getD ((yg b).length - 1) 0)],slF (rI .u32) p1 c1 (yg a),slF (rI .u32) p2 c2 (yg b)]) ?_ ?_
    ·
     refine zW (OW:=[]) (O:=[rowA 133 (rI .u32) (some ⟨b20,0,none⟩) (M - (m+2)) (List.replicate (j+1) 0++qs),rowA 133 (rI .u32) p17 c18 u]) 100000 mixed (.then (.then (.then (.block (.then (.block (.then (.then (.block (.then .ret)))))))))) kr<|e_dm 0 rfl rfl rfl<|e_pv 1 rfl rfl (zMa rfl rfl)<|zqd 2 rfl rfl kr kr rfl rfl (zna rfl) (fun hge=> ?_) (fun hge=> ?_)
     ·
      refine e_skip 3 rfl rfl<|e_skip 4 rfl rfl<|e_skip 5 rfl rfl<|e_skip 6 rfl rfl<|e_skip 7 rfl rfl<|e_skip 8 rfl rfl<|e_skip 9 rfl rfl<|e_skip 10 rfl rfl<|e_skip 11 rfl rfl<|e_skip 12 rfl rfl<|e_skip 13 rfl rfl<|e_skip 14 rfl rfl<|e_skip 15 rfl rfl<|e_skip 16 rfl rfl<|e_skip 17 rfl rfl<|e_skip 18 rfl rfl<|e_skip 19 rfl rfl<|e_skip 20 rfl rfl<|e_skip 21 rfl rfl<|e_skip 22 rfl rfl<|e_pv 23 rfl rfl (zC rfl rfl)<|zN kr ?_
      exact zka () tt9 ((.e rfl (congrArg Value.bool (by exact (decide_eq_true (.inl hge)).symm)) (.of rfl)):SubM _ _) (ho:=((.of [0,0] rfl):PickO _ _ _)) ((.of [0,1,2,3,4,5,6,7,8] rfl):SelR _ _ _)
     ·
      refine e_dm 3 rfl rfl rfl<|e_dm 4 rfl rfl rfl<|e_dm 5 rfl rfl rfl<|e_pv 6 rfl rfl (zla (z:=((m:Nat):Int)) rfl rfl (w64 om))<|zra (x0:=((yg V).getD m 0)) 7 rfl rfl kr kr 3 m rfl yh sz133 rfl rfl rfl (by first|rfl|assumption|(simp;done)|omega) rfl rfl (gD (d:=0) om) (fun b29 o30 hok31=> ?_)
      replace hok31:=zA.1 hok31
      refine e_u 8 rfl rfl (zi (j:=0) 0 ty133 rfl rfl rfl rfl)<|e_pv 9 rfl rfl (zt (z:=((yg V).getD m 0)) rfl (by rw [yj];rfl) yk (wu64 om))<|e_pv 10 rfl rfl (zua (z:=(g*((yg V).getD m 0))) rfl rfl (wu64 om))<|e_dm 11 rfl rfl rfl<|e_pv 12 rfl rfl (zua (z:=(r*1000000000)) rfl rfl (wu64 om))<|e_dm 13 rfl rfl rfl<|e_dm 14 rfl rfl rfl<|e_dm 15 rfl rfl rfl<|e_pv 16 rfl rfl (zK (z:=(((j+(m+2)):Nat):Int)) rfl rfl (w64 om))<|e_pv 17 rfl rfl (zla (z:=(((j+m):Nat):Int)) rfl rfl (w64 om))<|e_u 18 rfl rfl (zY 1 (j+m) rfl yh sz133 rfl (by first|rfl|assumption|(simp;done)|omega) rfl rfl om)<|d_vl 19 rfl rfl kr kr rfl rfl (zL 1 (j+m) rfl ty133 rfl rfl (gD (d:=0) om) rfl) (fun _ hok32=> ?_)
      replace hok32:=zA.1 hok32
      refine e_pv 20 rfl rfl (zt (z:=(u.getD (j+m) 0)) rfl (by rw [yj];rfl) yk (wu64 om))<|e_pv 21 rfl rfl (zK (z:=((r*1000000000)+(u.getD (j+m) 0))) rfl rfl (wu64 om))<|e_pv 22 rfl rfl (zpa rfl rfl)<|e_pv 23 rfl rfl (zC rfl rfl)<|zN kr ?_
      exact zka () tt9 ((.e rfl (congrArg Value.bool (by exact decide_eq_decide.2 ⟨fun h=> .inr h,fun h=>h.resolve_left hge⟩)) (.of rfl)):SubM _ _) (ho:=((.of [0,0] rfl):PickO _ _ _)) ((.of [1,2,3,4,5,6,7,8,9] rfl):SelR _ _ _)
    ·
     rintro ⟨⟩ -
     try dsimp only
     refine zI rfl (fun hgs=> ?_) (fun hgs=> ?_)
     ·
      have hst:=hGs.step hT hgs
      have hst1:=hst.1
      refine zx<|zc<|zw<|ze<|za<|e_mv rfl<|e_p (zla (z:=(g - 1)) rfl rfl (wu64 om))<|e_p (zb rfl)<|zf<|zc<|ze<|za<|e_mv rfl<|e_mv rfl<|e_mv rfl<|e_p (zla (z:=(((m+1):Nat):Int)) rfl rfl (w64 om))<|zZ (x0:=((yg V).getD (m+1) 0)) 3 (m+1) rfl yh sz133 rfl rfl rfl (by first|rfl|assumption|(simp;done)|omega) rfl rfl (gD (d:=0) om) (fun b33 o34 hok35=> ?_)
      replace hok35:=zA.1 hok35
      refine e_ru (zi (j:=0) 0 ty133 rfl rfl rfl rfl)<|e_p (zt (z:=((yg V).getD (m+1) 0)) rfl (by rw [yj];rfl) yk (wu64 om))<|e_p (zK (z:=(r+((yg V).getD (m+1) 0))) rfl rfl (wu64 om))<|e_p (zb rfl)<|zf<|zc<|ze<|za<|e_mv rfl<|e_p (zMa rfl rfl)<|zf<|zc<|zI rfl (fun hbr=> ?_) (fun hbr=> ?_)
      ·
       refine zda<|zGd rfl<|zj<|zu ?_
       exact zka (g - 1) (show (0≤(g - 1)∧(g - 1)<1000000000)∧(yi (u.drop j))<((g - 1)+1)*(V:Int)∧(g - 1)*(V:Int)<(yi (u.drop j))+(V:Int) from by have hs9:=(hGs.step hT hgs).2;have hb9:=Big.Gs.broke hT hs9 hbr;exact ⟨⟨hs9.g0,hb9.1⟩,hs9.up,Big.Gs.fin hT hs9 hb9.1 hb9.2⟩) (mR rfl) (ho:=((.of [0,0] rfl):PickO _ _ _)) ((.of [1,2,3,4,5,6,7,8,9] rfl):SelR _ _ _)
      ·
       refine zx<|zQ<|zca ((g - 1),(r+((yg V).getD (m+1) 0))) (show Big.Gs (yi (u.drop j)) (V:Int) ((yg V).getD (m+1) 0) ((u.getD (j+(m+2)) 0)*1000000000+(u.getD (j+(m+1)) 0)) (g - 1) (r+((yg V).getD (m+1) 0))∧(r+((yg V).getD (m+1) 0))<1000000000 from by exact ⟨(hGs.step hT hgs).2,by omega⟩) (by have:=(hGs.step hT hgs).1;show (g - 1).toNat<g.toNat;omega) (mR rfl) (ho:=((.of [0,0] rfl):PickO _ _ _)) ((.of [1,2,3,4,5,6,7,8,9] rfl):SelR _ _ _)
     ·
      refine zda<|zj<|zj<|zu ?_
      exact zka g (show (0≤g∧g<1000000000)∧(yi (u.drop j))<(g+1)*(V:Int)∧g*(V:Int)<(yi (u.drop j))+(V:Int) from by exact ⟨⟨hg0,by omega⟩,hGs.up,Big.Gs.fin hT hGs om om⟩) (mR rfl) (ho:=((.of [0,0] rfl):PickO _ _ _)) ((.of [0,1,2,3,4,5,6,7,8] rfl):SelR _ _ _)
   ·
    rintro g hC
    replace hC:(0≤g∧g<1000000000)∧(yi (u.drop j))<(g+1)*(V:Int)∧g*(V:Int)<(yi (u.drop j))+(V:Int):=hC
    try dsimp only
    obtain ⟨⟨hg0,hg1⟩,hup,hdn⟩:=hC
    refine ze<|za<|e_p (zb rfl)<|e_p (zb rfl)<|zf<|zc<|ze<|ze<|za<|e_mv rfl<|e_mv rfl<|zf<|zc<|zw<|zha (X:=Nat×(List Int)×Int×Int) (fun x:Nat×(List Int)×Int×Int=>x.1≤m+2∧Big.MsI u j g (yg V) x.1 x.2.1 x.2.2.1 x.2.2.2) (fun x=>[(15,.int .u64 (x.2.2.2)),(14,yd ye (x.2.2.1)),(137,yd ye ((x.1:Nat):Int)),(136,yd ye (((m+2):Nat):Int)),(12,.int .u64 g),(10,yd ye ((j:Nat):Int)),(4,.slice (some ⟨b20,0,none⟩) (M - (m+2)) (M - (m+2))),(7,.slice p17 M c18),(9,yd ye (((m+2):Nat):Int)),(8,.slice p313 (m+2) c314),(6,.int .u32 ((s:Nat):Int)),(5,.slice none 0 0)]) (fun x=>[rowA 133 (rI .u32) (some ⟨b20,0,none⟩) (M - (m+2)) (List.replicate (j+1) 0++qs),rowA 133 (rI .u32) p17 c18 (x.2.1)]) (fun x=>[atF b26 o27 [.int .u32 ((yg V).getD (m+1) 0)],atF b23 o24 [.int .u32 ((yg V).getD (m+1) 0)],slF (rI .u32) (some ⟨b16,0,none⟩) 1 ([0]),slF (rI .u32) p313 c314 (yg V),slF (rI .u32) (some ⟨b10,0,none⟩) 1 (yg s),slF (rI .u32) (some ⟨b5,0,none⟩) 1 (yg s),atF b1 o2 [.int .u32 ((yg b).getD ((yg b).length - 1) 0)],slF (rI .u32) p1 c1 (yg a),slF (rI .u32) p2 c2 (yg b)]) (fun x:Nat×(List Int)×Int×Int=>(m+2) - x.1) (0,u,0,0) (show 0≤m+2∧Big.MsI u j g (yg V) 0 u 0 0 from by exact ⟨Nat.zero_le _,Big.MsI.start hI.uo j g _⟩) ((.c rfl (.c rfl (.e rfl cgs (.of rfl)))):SubM _ _) (ho:=((.of [0,0] rfl):PickO _ _ _)) ((.of [0,1,2,3,4,5,6,7,8] rfl):SelR _ _ _) ?_
    rintro ⟨i,w,bo,ca⟩ hMM
    replace hMM:i≤m+2∧Big.MsI u j g (yg V) i w bo ca:=hMM
    try dsimp only
    obtain ⟨hile,hM2⟩:=hMM
    have hb0:=hM2.b0
    have hb1:=hM2.b1
    have hc0:=hM2.c0
    have hc1:=hM2.c1
    have hwl:=hM2.len
    have hwo:=yn hM2.ok (j+i)
    have hvi:=yn (yp V) i
    have hca:=Big.ms_carry ⟨hg0,hg1⟩ hvi ⟨hc0,hc1⟩
    have hgx:=Int.mul_nonneg hg0 hvi.1
    refine ze<|za<|e_p (zV rfl rfl)<|zf<|zc<|ze<|zI rfl (fun hi=> ?_) (fun hi=> ?_)
    ·
     refine zx<|zc<|ze<|zw<|ze<|za<|e_mv rfl<|e_p (zb rfl)<|zf<|zc<|ze<|za<|e_mv rfl<|e_mv rfl<|e_mv rfl<|zZ (x0:=((yg V).getD i 0)) 3 i rfl yh sz133 rfl rfl rfl (by first|rfl|assumption|(simp;done)|omega) rfl rfl (gD (d:=0) om) (fun b36 o37 hok38=> ?_)
     replace hok38:=zA.1 hok38
     refine e_ru (zi (j:=0) 0 ty133 rfl rfl rfl rfl)<|e_p (zt (z:=((yg V).getD i 0)) rfl (by rw [yj];rfl) yk (wu64 om))<|e_p (zua (z:=(g*((yg V).getD i 0))) rfl rfl (wu64 om))<|e_mv rfl<|e_p (zK (z:=((g*((yg V).getD i 0))+ca)) rfl rfl (wu64 om))<|e_p (zb rfl)<|zf<|zc<|ze<|za<|e_mv rfl<|e_p (zfb (z:=(((g*((yg V).getD i 0))+ca) / 1000000000)) rfl rfl om (by rw [quoN (z:=(((g*((yg V).getD i 0))+ca) / 1000000000)) om om];exact wu64 om))<|e_p (zb rfl)<|zf<|zc<|ze<|za<|e_mv rfl<|e_mv rfl<|e_mv rfl<|e_p (zK (z:=(((j+i):Nat):Int)) rfl rfl (w64 om))<|e_ru (zY 1 (j+i) rfl yh sz133 rfl (by first|rfl|assumption|(simp;done)|omega) rfl rfl om)<|r_vl rfl rfl (zL 1 (j+i) rfl ty133 rfl rfl (gD (d:=0) om) rfl) (fun _ hok39=> ?_)
     replace hok39:=zA.1 hok39
     refine e_p (zt (z:=(w.getD (j+i) 0)) rfl (by rw [yj];rfl) yt (w64 om))<|e_mv rfl<|e_p (zla (z:=((w.getD (j+i) 0) - bo)) rfl rfl (w64 om))<|e_mv rfl<|e_p (zbb (z:=(((g*((yg V).getD i 0))+ca)%1000000000)) rfl rfl om (remN om om))<|e_p (zt (z:=(((g*((yg V).getD i 0))+ca)%1000000000)) rfl (by rw [yk];rfl) yt (w64 om))<|e_p (zla (z:=(((w.getD (j+i) 0) - bo) - (((g*((yg V).getD i 0))+ca)%1000000000))) rfl rfl (w64 om))<|e_p (zb rfl)<|zf<|zc<|ze<|za<|e_p (zb rfl)<|zf<|zc<|ze<|ze<|za<|e_mv rfl<|e_p (zV rfl rfl)<|zf<|zc<|zI rfl (fun hneg=> ?_) (fun hneg=> ?_)
     ·
      refine za<|e_mv rfl<|e_p (zK (z:=((((w.getD (j+i) 0) - bo) - (((g*((yg V).getD i 0))+ca)%1000000000))+1000000000)) rfl rfl (w64 om))<|e_p (zb rfl)<|e_p (zb rfl)<|zf<|zc<|za<|e_mv rfl<|e_mv rfl<|e_mv rfl<|e_p (zK (z:=(((j+i):Nat):Int)) rfl rfl (w64 om))<|e_mv rfl<|e_p (zt (z:=((((w.getD (j+i) 0) - bo) - (((g*((yg V).getD i 0))+ca)%1000000000))+1000000000)) rfl (by rw [yt];rfl) yj (wu32 om))<|e_ru (zY 1 (j+i) rfl yh sz133 rfl (by first|rfl|assumption|(simp;done)|omega) rfl rfl om)<|zEa 1 rfl rfl rfl (zO (j:=(j+i)) (x0:=((((w.getD (j+i) 0) - bo) - (((g*((yg V).getD i 0))+ca)%1000000000))+1000000000)) (γ0:=()) rfl rfl (by first|omega|(rw [List.length_map];omega)|(simp only [List.length_set];omega)|(simp;done)|(simp;omega)) rfl rfl sz133 (fun _ _=>by exact zA.2 om)) (fun _=>(.s .z)) (fun _ _=> ?_)
      refine zf<|zQ<|zc<|za<|e_p (zK (z:=(((i+1):Nat):Int)) rfl rfl (w64 om))<|e_mv rfl<|zf<|zca ((i+1),(w.set (j+i) ((((w.getD (j+i) 0) - bo) - (((g*((yg V).getD i 0))+ca)%1000000000))+1000000000)),1,(((g*((yg V).getD i 0))+ca) / 1000000000)) (show (i+1)≤m+2∧Big.MsI u j g (yg V) (i+1) (w.set (j+i) ((((w.getD (j+i) 0) - bo) - (((g*((yg V).getD i 0))+ca)%1000000000))+1000000000)) 1 (((g*((yg V).getD i 0))+ca) / 1000000000) from by exact ⟨by omega,hM2.step ⟨hg0,hg1⟩ (yp V) om om ⟨by omega,by omega⟩ ⟨by decide,by decide⟩⟩) (by show (m+2) - (i+1)<(m+2) - i;omega) (mR rfl) (ho:=((.of [0,0] rfl):PickO _ _ _)) ((.of [1,2,3,4,5,6,7,8,9] rfl):SelR _ _ _)
     ·
      refine zx<|zc<|za<|e_mv rfl<|e_mv rfl<|e_mv rfl<|e_p (zK (z:=(((j+i):Nat):Int)) rfl rfl (w64 om))<|e_mv rfl<|e_p (zt (z:=(((w.getD (j+i) 0) - bo) - (((g*((yg V).getD i 0))+ca)%1000000000))) rfl (by rw [yt];rfl) yj (wu32 om))<|e_ru (zY 1 (j+i) rfl yh sz133 rfl (by first|rfl|assumption|(simp;done)|omega) rfl rfl om)<|zEa 1 rfl rfl rfl (zO (j:=(j+i)) (x0:=(((w.getD (j+i) 0) - bo) - (((g*((yg V).getD i 0))+ca)%1000000000))) (γ0:=()) rfl rfl (by first|omega|(rw [List.length_map];omega)|(simp only [List.length_set];omega)|(simp;done)|(simp;omega)) rfl rfl sz133 (fun _ _=>by exact zA.2 om)) (fun _=>(.s .z)) (fun _ _=> ?_)
      refine zf<|zQ<|zc<|za<|e_p (zK (z:=(((i+1):Nat):Int)) rfl rfl (w64 om))<|e_mv rfl<|zf<|zca ((i+1),(w.set (j+i) (((w.getD (j+i) 0) - bo) - (((g*((yg V).getD i 0))+ca)%1000000000))),0,(((g*((yg V).getD i 0))+ca) / 1000000000)) (show (i+1)≤m+2∧Big.MsI u j g (yg V) (i+1) (w.set (j+i) (((w.getD (j+i) 0) - bo) - (((g*((yg V).getD i 0))+ca)%1000000000))) 0 (((g*((yg V).getD i 0))+ca) / 1000000000) from by exact ⟨by omega,hM2.step ⟨hg0,hg1⟩ (yp V) om om ⟨by omega,by omega⟩ ⟨by decide,by decide⟩⟩) (by show (m+2) - (i+1)<(m+2) - i;omega) (mR rfl) (ho:=((.of [0,0] rfl):PickO _ _ _)) ((.of [1,2,3,4,5,6,7,8,9] rfl):SelR _ _ _)
    ·
     have hM3:Big.MsI u j g (yg V) (m+2) w bo ca:=by have h8:i=m+2:=om;exact h8 ▸ hM2
     have hwo2:=yn hM2.ok (j+(m+2))
     refine zda<|zj<|zj<|zu<|zc<|ze<|za<|e_mv rfl<|e_mv rfl<|e_mv rfl<|e_p (zK (z:=(((j+(m+2)):Nat):Int)) rfl rfl (w64 om))<|e_ru (zY 1 (j+(m+2)) rfl yh sz133 rfl (by first|rfl|assumption|(simp;done)|omega) rfl rfl om)<|r_vl rfl rfl (zL 1 (j+(m+2)) rfl ty133 rfl rfl (gD (d:=0) om) rfl) (fun _ hok40=> ?_)
     replace hok40:=zA.1 hok40
     refine e_p (zt (z:=(w.getD (j+(m+2)) 0)) rfl (by rw [yj];rfl) yt (w64 om))<|e_mv rfl<|e_p (zla (z:=((w.getD (j+(m+2)) 0) - bo)) rfl rfl (w64 om))<|e_mv rfl<|e_p (zt (z:=ca) rfl (by rw [yk];rfl) yt (w64 om))<|e_p (zla (z:=(((w.getD (j+(m+2)) 0) - bo) - ca)) rfl rfl (w64 om))<|e_p (zb rfl)<|zf<|zc<|ze<|ze<|za<|e_mv rfl<|e_p (zV rfl rfl)<|zf<|zc<|zI rfl (fun hd=> ?_) (fun hd=> ?_)
     ·
      have hg9:=hI.neg1 hM3 hm hd
      refine ze<|za<|e_mv rfl<|e_mv rfl<|e_mv rfl<|e_p (zK (z:=(((j+(m+2)):Nat):Int)) rfl rfl (w64 om))<|e_mv rfl<|e_p (zK (z:=((((w.getD (j+(m+2)) 0) - bo) - ca)+1000000000)) rfl rfl (w64 om))<|e_p (zt (z:=((((w.getD (j+(m+2)) 0) - bo) - ca)+1000000000)) rfl (by rw [yt];rfl) yj (wu32 om))<|e_ru (zY 1 (j+(m+2)) rfl yh sz133 rfl (by first|rfl|assumption|(simp;done)|omega) rfl rfl om)<|zEa 1 rfl rfl rfl (zO (j:=(j+(m+2))) (x0:=((((w.getD (j+(m+2)) 0) - bo) - ca)+1000000000)) (γ0:=()) rfl rfl (by first|omega|(rw [List.length_map];omega)|(simp only [List.length_set];omega)|(simp;done)|(simp;omega)) rfl rfl sz133 (fun _ _=>by exact zA.2 om)) (fun _=>(.s .z)) (fun _ _=> ?_)
      refine zf<|zc<|ze<|za<|e_mv rfl<|e_p (zla (z:=(g - 1)) rfl rfl (wu64 om))<|e_p (zb rfl)<|zf<|zc<|ze<|za<|e_p (zb rfl)<|zf<|zc<|ze<|ze<|za<|e_mv rfl<|e_mv rfl<|zf<|zc<|zw<|zha (X:=Nat×(List Int)×Int) (fun x:Nat×(List Int)×Int=>x.1≤m+2∧Big.AbI (w.set (j+(m+2)) ((((w.getD (j+(m+2)) 0) - bo) - ca)+1000000000)) j (yg V) x.1 x.2.1 x.2.2) (fun x=>[(20,.int .u32 (x.2.2)),(201,yd ye ((x.1:Nat):Int)),(200,yd ye (((m+2):Nat):Int)),(12,.int .u64 (g - 1)),(10,yd ye ((j:Nat):Int)),(4,.slice (some ⟨b20,0,none⟩) (M - (m+2)) (M - (m+2))),(7,.slice p17 M c18),(9,yd ye (((m+2):Nat):Int)),(8,.slice p313 (m+2) c314),(6,.int .u32 ((s:Nat):Int)),(5,.slice none 0 0)]) (fun x=>[rowA 133 (rI .u32) (some ⟨b20,0,none⟩) (M - (m+2)) (List.replicate (j+1) 0++qs),rowA 133 (rI .u32) p17 c18 (x.2.1)]) (fun x=>[atF b26 o27 [.int .u32 ((yg V).getD (m+1) 0)],atF b23 o24 [.int .u32 ((yg V).getD (m+1) 0)],slF (rI .u32) (some ⟨b16,0,none⟩) 1 ([0]),slF (rI .u32) p313 c314 (yg V),slF (rI .u32) (some ⟨b10,0,none⟩) 1 (yg s),slF (rI .u32) (some ⟨b5,0,none⟩) 1 (yg s),atF b1 o2 [.int .u32 ((yg b).getD ((yg b).length - 1) 0)],slF (rI .u32) p1 c1 (yg a),slF (rI .u32) p2 c2 (yg b)]) (fun x:Nat×(List Int)×Int=>(m+2) - x.1) (0,(w.set (j+(m+2)) ((((w.getD (j+(m+2)) 0) - bo) - ca)+1000000000)),0) (show 0≤m+2∧Big.AbI (w.set (j+(m+2)) ((((w.getD (j+(m+2)) 0) - bo) - ca)+1000000000)) j (yg V) 0 (w.set (j+(m+2)) ((((w.getD (j+(m+2)) 0) - bo) - ca)+1000000000)) 0 from by exact ⟨Nat.zero_le _,Big.AbI.start (yD hM2.ok om om) _ _⟩) ((.c rfl (.e rfl cgs (.of rfl))):SubM _ _) (ho:=((.c (i:=0) rfl (.e (i:=0) rfl cgs .n)):PickO _ _ _)) ((.of [0,1,2,3,4,5,6,7,8] rfl):SelR _ _ _) ?_
      rintro ⟨i2,xs,cc⟩ hAA
      replace hAA:i2≤m+2∧Big.AbI (w.set (j+(m+2)) ((((w.getD (j+(m+2)) 0) - bo) - ca)+1000000000)) j (yg V) i2 xs cc:=hAA
      try dsimp only
      obtain ⟨hile2,hA2⟩:=hAA
      have hk0:=hA2.c0
      have hk1:=hA2.c1
      have hxl:=hA2.len
      rw [List.length_set] at hxl
      have hxo:=yn hA2.ok (j+i2)
      have hvi2:=yn (yp V) i2
      refine ze<|za<|e_p (zV rfl rfl)<|zf<|zc<|ze<|zI rfl (fun hi=> ?_) (fun hi=> ?_)
      ·
       refine zx<|zc<|ze<|zw<|ze<|za<|e_mv rfl<|e_p (zb rfl)<|zf<|zc<|ze<|zW (OW:=[]) (O:=[rowA 133 (rI .u32) (some ⟨b20,0,none⟩) (M - (m+2)) (List.replicate (j+1) 0++qs),rowA 133 (rI .u32) p17 c18 xs]) 100000 mixed (.then (.block (.then (.then (.block (.then (.then (.block (.then (.then (.block (.then .ret)))))))))))) kr<|e_dm 0 rfl rfl rfl<|e_dm 1 rfl rfl rfl<|e_dm 2 rfl rfl rfl<|e_pv 3 rfl rfl (zK (z:=(((j+i2):Nat):Int)) rfl rfl (w64 om))<|e_u 4 rfl rfl (zY 1 (j+i2) rfl yh sz133 rfl (by first|rfl|assumption|(simp;done)|omega) rfl rfl om)<|d_vl 5 rfl rfl kr kr rfl rfl (zL 1 (j+i2) rfl ty133 rfl rfl (gD (d:=0) om) rfl) (fun _ hok41=> ?_)
       replace hok41:=zA.1 hok41
       refine e_dm 6 rfl rfl rfl<|e_dm 7 rfl rfl rfl<|zra (x0:=((yg V).getD i2 0)) 8 rfl rfl kr kr 3 i2 rfl yh sz133 rfl rfl rfl (by first|rfl|assumption|(simp;done)|omega) rfl rfl (gD (d:=0) om) (fun b42 o43 hok44=> ?_)
       replace hok44:=zA.1 hok44
       refine e_u 9 rfl rfl (zi (j:=0) 0 ty133 rfl rfl rfl rfl)<|e_pv 10 rfl rfl (zK (z:=((xs.getD (j+i2) 0)+((yg V).getD i2 0))) rfl rfl (wu32 om))<|e_dm 11 rfl rfl rfl<|e_pv 12 rfl rfl (zK (z:=(((xs.getD (j+i2) 0)+((yg V).getD i2 0))+cc)) rfl rfl (wu32 om))<|e_pv 13 rfl rfl (zb rfl)<|zN kr<|zc<|ze<|za<|e_p (zb rfl)<|zf<|zc<|ze<|ze<|za<|e_mv rfl<|e_p (zMa rfl rfl)<|zf<|zc<|zI rfl (fun hcy=> ?_) (fun hcy=> ?_)
       ·
        refine za<|e_mv rfl<|e_p (zla (z:=((((xs.getD (j+i2) 0)+((yg V).getD i2 0))+cc) - 1000000000)) rfl rfl (wu32 om))<|e_p (zb rfl)<|e_p (zb rfl)<|zf<|zc<|za<|e_mv rfl<|e_mv rfl<|e_mv rfl<|e_p (zK (z:=(((j+i2):Nat):Int)) rfl rfl (w64 om))<|e_mv rfl<|e_ru (zY 1 (j+i2) rfl yh sz133 rfl (by first|rfl|assumption|(simp;done)|omega) rfl rfl om)<|zEa 1 rfl rfl rfl (zO (j:=(j+i2)) (x0:=((((xs.getD (j+i2) 0)+((yg V).getD i2 0))+cc) - 1000000000)) (γ0:=()) rfl rfl (by first|omega|(rw [List.length_map];omega)|(simp only [List.length_set];omega)|(simp;done)|(simp;omega)) rfl rfl sz133 (fun _ _=>by exact zA.2 om)) (fun _=>(.s .z)) (fun _ _=> ?_)
        refine zf<|zQ<|zc<|za<|e_p (zK (z:=(((i2+1):Nat):Int)) rfl rfl (w64 om))<|e_mv rfl<|zf<|zca ((i2+1),(xs.set (j+i2) ((((xs.getD (j+i2) 0)+((yg V).getD i2 0))+cc) - 1000000000)),1) (show (i2+1)≤m+2∧Big.AbI (w.set (j+(m+2)) ((((w.getD (j+(m+2)) 0) - bo) - ca)+1000000000)) j (yg V) (i2+1) (xs.set (j+i2) ((((xs.getD (j+i2) 0)+((yg V).getD i2 0))+cc) - 1000000000)) 1 from by exact ⟨by omega,hA2.step (by rw [List.length_set];omega) om ⟨by omega,by omega⟩ ⟨by decide,by decide⟩⟩) (by show (m+2) - (i2+1)<(m+2) - i2;omega) (mR rfl) (ho:=((.of [0,0] rfl):PickO _ _ _)) ((.of [1,2,3,4,5,6,7,8,9] rfl):SelR _ _ _)
       ·
        refine zx<|zc<|za<|e_mv rfl<|e_mv rfl<|e_mv rfl<|e_p (zK (z:=(((j+i2):Nat):Int)) rfl rfl (w64 om))<|e_mv rfl<|e_ru (zY 1 (j+i2) rfl yh sz133 rfl (by first|rfl|assumption|(simp;done)|omega) rfl rfl om)<|zEa 1 rfl rfl rfl (zO (j:=(j+i2)) (x0:=(((xs.getD (j+i2) 0)+((yg V).getD i2 0))+cc)) (γ0:=()) rfl rfl (by first|omega|(rw [List.length_map];omega)|(simp only [List.length_set];omega)|(simp;done)|(simp;omega)) rfl rfl sz133 (fun _ _=>by exact zA.2 om)) (fun _=>(.s .z)) (fun _ _=> ?_)
        refine zf<|zQ<|zc<|za<|e_p (zK (z:=(((i2+1):Nat):Int)) rfl rfl (w64 om))<|e_mv rfl<|zf<|zca ((i2+1),(xs.set (j+i2) (((xs.getD (j+i2) 0)+((yg V).getD i2 0))+cc)),0) (show (i2+1)≤m+2∧Big.AbI (w.set (j+(m+2)) ((((w.getD (j+(m+2)) 0) - bo) - ca)+1000000000)) j (yg V) (i2+1) (xs.set (j+i2) (((xs.getD (j+i2) 0)+((yg V).getD i2 0))+cc)) 0 from by exact ⟨by omega,hA2.step (by rw [List.length_set];omega) om ⟨by omega,by omega⟩ ⟨by decide,by decide⟩⟩) (by show (m+2) - (i2+1)<(m+2) - i2;omega) (mR rfl) (ho:=((.of [0,0] rfl):PickO _ _ _)) ((.of [1,2,3,4,5,6,7,8,9] rfl):SelR _ _ _)
      ·
       have hA3:Big.AbI (w.set (j+(m+2)) ((((w.getD (j+(m+2)) 0) - bo) - ca)+1000000000)) j (yg V) (m+2) xs cc:=by have h8:i2=m+2:=om;exact h8 ▸ hA2
       have hxo2:=yn hA2.ok (j+(m+2))
       refine zda<|zj<|zj<|zu<|zc<|za<|e_mv rfl<|e_mv rfl<|e_mv rfl<|e_p (zK (z:=(((j+(m+2)):Nat):Int)) rfl rfl (w64 om))<|e_mv rfl<|e_mv rfl<|e_mv rfl<|e_p (zK (z:=(((j+(m+2)):Nat):Int)) rfl rfl (w64 om))<|e_ru (zY 1 (j+(m+2)) rfl yh sz133 rfl (by first|rfl|assumption|(simp;done)|omega) rfl rfl om)<|r_vl rfl rfl (zL 1 (j+(m+2)) rfl ty133 rfl rfl (gD (d:=0) om) rfl) (fun _ hok45=> ?_)
       replace hok45:=zA.1 hok45
       refine e_mv rfl<|e_p (zK (z:=((xs.getD (j+(m+2)) 0)+cc)) rfl rfl (wu32 om))<|e_p (zbb (z:=(((xs.getD (j+(m+2)) 0)+cc)%1000000000)) rfl rfl om (remN om om))<|e_ru (zY 1 (j+(m+2)) rfl yh sz133 rfl (by first|rfl|assumption|(simp;done)|omega) rfl rfl om)<|zEa 1 rfl rfl rfl (zO (j:=(j+(m+2))) (x0:=(((xs.getD (j+(m+2)) 0)+cc)%1000000000)) (γ0:=()) rfl rfl (by first|omega|(rw [List.length_map];omega)|(simp only [List.length_set];omega)|(simp;done)|(simp;omega)) rfl rfl sz133 (fun _ _=>by exact zA.2 om)) (fun _=>(.s .z)) (fun _ _=> ?_)
       refine zf<|zc<|za<|e_mv rfl<|e_mv rfl<|e_mv rfl<|e_p (zt (z:=(g - 1)) rfl (by rw [yk];rfl) yj (wu32 om))<|e_p (zS (j:=j) yh sz133 rfl rfl rfl om)<|zEa 0 rfl rfl rfl (zO (j:=j) (x0:=(g - 1)) (γ0:=()) rfl rfl (by first|omega|(rw [List.length_map];omega)|(simp only [List.length_set];omega)|(simp;done)|(simp;omega)) rfl rfl sz133 (fun _ _=>by exact zA.2 om)) (fun _=> .z) (fun _ _=> ?_)
       refine zf<|zQ<|zc<|za<|e_mv rfl<|e_p (zla (z:=(((j:Nat):Int) - 1)) rfl rfl (w64 om))<|e_p (zb rfl)<|zf<|zca (j,(xs.set (j+(m+2)) (((xs.getD (j+(m+2)) 0)+cc)%1000000000)),((g - 1) :: qs)) (show Big.LgI M (m+2) ((A:Nat):Int) ((V:Nat):Int) j (xs.set (j+(m+2)) (((xs.getD (j+(m+2)) 0)+cc)%1000000000)) ((g - 1) :: qs) from by exact (hI.neg ⟨hg0,hg1⟩ hdn hup hM3 hm hd hA3).2) (by show j<j+1;omega) (mR rfl) (ho:=((.e (i:=0) rfl (by rw [Big.pad_set]) (.c (i:=0) rfl .n)):PickO _ _ _)) ((.of [2,3,4,5,6,7,8] rfl):SelR _ _ _)
     ·
      refine za<|e_mv rfl<|e_mv rfl<|e_mv rfl<|e_p (zK (z:=(((j+(m+2)):Nat):Int)) rfl rfl (w64 om))<|e_mv rfl<|e_p (zt (z:=(((w.getD (j+(m+2)) 0) - bo) - ca)) rfl (by rw [yt];rfl) yj (wu32 om))<|e_ru (zY 1 (j+(m+2)) rfl yh sz133 rfl (by first|rfl|assumption|(simp;done)|omega) rfl rfl om)<|zEa 1 rfl rfl rfl (zO (j:=(j+(m+2))) (x0:=(((w.getD (j+(m+2)) 0) - bo) - ca)) (γ0:=()) rfl rfl (by first|omega|(rw [List.length_map];omega)|(simp only [List.length_set];omega)|(simp;done)|(simp;omega)) rfl rfl sz133 (fun _ _=>by exact zA.2 om)) (fun _=>(.s .z)) (fun _ _=> ?_)
      refine zf<|zc<|za<|e_mv rfl<|e_mv rfl<|e_mv rfl<|e_p (zt (z:=g) rfl (by rw [yk];rfl) yj (wu32 om))<|e_p (zS (j:=j) yh sz133 rfl rfl rfl om)<|zEa 0 rfl rfl rfl (zO (j:=j) (x0:=g) (γ0:=()) rfl rfl (by first|omega|(rw [List.length_map];omega)|(simp only [List.length_set];omega)|(simp;done)|(simp;omega)) rfl rfl sz133 (fun _ _=>by exact zA.2 om)) (fun _=> .z) (fun _ _=> ?_)
      refine zf<|zQ<|zc<|za<|e_mv rfl<|e_p (zla (z:=(((j:Nat):Int) - 1)) rfl rfl (w64 om))<|e_p (zb rfl)<|zf<|zca (j,(w.set (j+(m+2)) (((w.getD (j+(m+2)) 0) - bo) - ca)),(g :: qs)) (show Big.LgI M (m+2) ((A:Nat):Int) ((V:Nat):Int) j (w.set (j+(m+2)) (((w.getD (j+(m+2)) 0) - bo) - ca)) (g :: qs) from by exact hI.pos ⟨hg0,hg1⟩ hup hM3 hm om) (by show j<j+1;omega) (mR rfl) (ho:=((.e (i:=0) rfl (by rw [Big.pad_set]) (.c (i:=0) rfl .n)):PickO _ _ _)) ((.of [2,3,4,5,6,7,8] rfl):SelR _ _ _)
  ·
   have hj0:jj=0:=by omega
   have hI0:Big.LgI M (m+2) ((A:Nat):Int) ((V:Nat):Int) 0 u qs:=hj0 ▸ hI
   obtain ⟨hf1,hf2⟩:=hI0.fin hm
   have hsc:=Big.scale_div (a:=a) (b:=b) hs1
   have hql:qs.length=M - (m+2):=by have h8:=hI0.ql;omega
   have hul0:=hI0.ul
   refine zda<|zj<|zj<|zu<|zc<|ze<|zEe 1 rfl (.s .z)<|zX 0 rfl (fun hcu=> ?_)
   have hAV:(yg (A%V)).length≤4398046511104:=Nat.le_trans (Big.ln_mono' (Nat.le_of_lt (Nat.mod_lt A (Nat.pos_of_ne_zero (fun e=>by rw [e] at hm;cases hm))))) om
   have e46:List.replicate jj 0++qs=qs:=by rw [hj0];rfl
   rw [e46]
   refine za<|e_mv rfl<|e_mv rfl<|e_p (zKb (hi:=(m+2)) yh sz133 rfl (.s rfl) (.inr ⟨_,rfl⟩) om)<|zZb (zHc 0 rfl (m+2) om) (fun _ _=> ?_)
   refine zq rfl rfl (.c rfl .n) ce250 (zBb (p:=p17) (n:=(m+2)) (cap:=c18) (l:=(u.take (m+2))) (hn:=cbb)) (.c (j:=0) rfl .n) ?_
   rintro ⟨⟩ -
   dsimp only [aq,nq,cq]
   refine e_mv rfl ?_
   have e47:ym (u.take (m+2))=yg (A%V):=by exact hf2
   rw [e47]
   refine zq rfl rfl (.c rfl (.c rfl .n)) ce255 (zTd (a:=A%V) (mm:=s) (p:=p17) (cap:=c18) (hb:=om) (hm0:=om) (hm1:=om)) (.c (j:=0) rfl .n) ?_
   rintro ⟨p248,c249⟩ -
   dsimp only [aq,nq,cq]
   refine e_mv rfl<|e_p (zm rfl rfl)<|e_p (zm rfl rfl)<|e_p (zb rfl)<|zf<|zc<|ze<|za<|e_mv rfl<|zea 0 rfl .z<|zq rfl rfl (.c rfl .n) ce250 (zBb (p:=some ⟨b20,0,none⟩) (n:=(M - (m+2))) (cap:=(M - (m+2))) (l:=qs) (hn:=cbb)) (.c (j:=0) rfl .n) ?_
   rintro ⟨⟩ -
   dsimp only [aq,nq,cq]
   refine e_mv rfl<|e_p (zb rfl)<|e_p (zb rfl)<|zf<|zc<|zE ?_
   have e50:ym qs=yg (A / V):=by exact hf1
   rw [e50]
   exact zBa Tryz.results256 ((some ⟨b20,0,none⟩),(M - (m+2)),p248,c249) trivial (zp rfl) (zp rfl) (by rw [hA,hV,hsc.1,hsc.2]) (ho:=oN) ((.e (j:=0) rfl (by rw [hA,hV,hsc.1]) (.e (j:=2) rfl (by rw [hA,hV,hsc.2]) .n)):SelR _ _ _)
end Go.Proofs.YtpdbimfnhglhpaaGreat.Sp
