/- Lemmas on the walk and plain lemmas that the claim of this folder uses; each states its own conditions. Lines were printed by a program of ours. -/
import Derived.Test.YtahiajepeodhoaaGreatZ5D
set_option linter.unusedVariables false
set_option linter.unusedSimpArgs false
set_option linter.unusedSectionVars false
open Go.Proofs.Tryz renaming underlying60 → ya, underlying57 → yb, underlying62 → yc, underlying91 → yd, prog → ye, underlying34 → yf
open Go.Proofs.YtahiajepeodhoaaGreat.Big renaming hq → yg, sgq → yh
namespace Go.Proofs.YtahiajepeodhoaaGreat.Sp
open Go
set_option linter.unusedVariables false
set_option maxRecDepth 100000
set_option maxHeartbeats 8000000
theorem zXc {p1:Option Addr} {n1:Nat} {c1:Nat} {l1:List (Option Rat)} {p2:Option Addr} {n2:Nat} {c2:Nat} {l2:List (Option Rat)} (hn1:l1.length=n1) (hm1:n1≤1000) (hn2:l2.length=n2) (hm2:n2≤1000) (hm12:n1+n2≤1000) (hb1:∀i,yg ((Po.vals l1).getD i 0)≤200000000000) (hb2:∀i,yg ((Po.vals l2).getD i 0)≤200000000000) (hs:∀k lo n,lo+n≤k+1→yg (Po.cv (Po.cl (Po.vals l1)) (Po.cl (Po.vals l2)) k lo n)≤200000000000):Con ye 75 [.slice p1 n1 c1,.slice p2 n2 c2] [] [slF rE p1 c1 l1,slF rE p2 c2 l2] (Y:=(Option Addr)×Nat) (fun y=>True) (fun y=> .slice (y.1) ((Po.mul (Po.vals l1) (Po.vals l2)).length) (y.2)) (fun y=>[]) (fun y=>[slF rQ (y.1) (y.2) (Po.mul (Po.vals l1) (Po.vals l2))]):=by
 refine zl Tryz.func75 rfl rfl rfl (fun c=> ?_)
 show RunC _ _ _ _ _ [(0,.slice p1 n1 c1),(1,.slice p2 n2 c2)] [] [slF rE p1 c1 l1,slF rE p2 c2 l2]
 refine zU 0 rfl (fun hL0=> ?_)
 refine zU 1 rfl (fun hL1=> ?_)
 refine ze<|za<|e_p (zb rfl)<|zf<|zd<|ze<|za<|e_mv rfl<|zm rfl rfl (.c rfl .n) ce67 (zLa (p1:=p1) (n1:=n1) (c1:=c1) (l1:=l1) (hn1:=ass) (hm1:=ass)) (.c (j:=0) rfl .n) ?_
 rintro ⟨p91,c92⟩ -
 dsimp only [aq,nq,cq]
 refine e_mv rfl<|zm rfl rfl (.c rfl .n) ce67 (zLa (p1:=p2) (n1:=n2) (c1:=c2) (l1:=l2) (hn1:=ass) (hm1:=ass)) (.c (j:=2) rfl .n) ?_
 rintro ⟨p93,c94⟩ -
 dsimp only [aq,nq,cq]
 refine e_p (zb rfl)<|e_p (zb rfl)<|zf<|zd<|ze ?_
 obtain ⟨P,hP⟩:∃z,z=(Po.cl (Po.vals l1)):=⟨_,rfl⟩
 have e5:(Po.cl (Po.vals l1):List Rat)=P:=by exact hP.symm
 rw [e5]
 obtain ⟨Q,hQ⟩:∃z,z=(Po.cl (Po.vals l2)):=⟨_,rfl⟩
 have e6:(Po.cl (Po.vals l2):List Rat)=Q:=by exact hQ.symm
 rw [e6]
 have hbP:∀i,yg (P.getD i 0)≤200000000000:=fun i=>by rw [hP,Po.cl_get];exact hb1 i
 have hbQ:∀i,yg (Q.getD i 0)≤200000000000:=fun i=>by rw [hQ,Po.cl_get];exact hb2 i
 have hsP:∀k lo n,lo+n≤k+1→yg (Po.cv P Q k lo n)≤200000000000:=by rw [hP,hQ];exact hs
 have hPl:P.length≤n1:=by rw [hP,←hn1,←Po.vals_len l1];exact Po.cl_le_len _
 have hQl:Q.length≤n2:=by rw [hQ,←hn2,←Po.vals_len l2];exact Po.cl_le_len _
 refine zOa (X:=Unit) (fun x=>True) (fun x=>[(20,.bool (decide (((((P).length:Nat):Int)=0)∨((((Q).length:Nat):Int)=0)))),(1,.slice p93 ((Q).length) c94),(0,.slice p91 ((P).length) c92),(4,.slice none 0 0)]) (fun x=>[]) (fun x=>[slF rQ p93 c94 Q,slF rQ p91 c92 P,slF rE p1 c1 l1,slF rE p2 c2 l2]) ?_ ?_
 ·
  refine za<|e_mv rfl<|e_p (zK ya rfl)<|e_p (zwa rfl rfl)<|zha rfl rfl (zga rfl) (fun g1=> ?_) (fun g1=> ?_)
  ·
   refine e_no<|e_no<|e_no<|e_p (zE rfl rfl)<|zf ?_
   exact zT () tt9 ((.e rfl (congrArg Value.bool (by first|(exact (decide_eq_true (Or.inl g1)).symm)|exact decide_eq_decide.2 ⟨fun k=>Or.inr k,fun k=>k.elim (fun e=>absurd e g1) _root_.id⟩)) (.of rfl)):SubM _ _) (ho:=oN) ((.of [0,1,2,3] rfl):SelR _ _ _)
  ·
   refine e_mv rfl<|e_p (zK ya rfl)<|e_p (zwa rfl rfl)<|e_p (zE rfl rfl)<|zf ?_
   exact zT () tt9 ((.e rfl (congrArg Value.bool (by first|(exact (decide_eq_true (Or.inl g1)).symm)|exact decide_eq_decide.2 ⟨fun k=>Or.inr k,fun k=>k.elim (fun e=>absurd e g1) _root_.id⟩)) (.of rfl)):SubM _ _) (ho:=oN) ((.of [0,1,2,3] rfl):SelR _ _ _)
 ·
  rintro ⟨⟩ -
  try dsimp only
  refine zG rfl (fun h20=> ?_) (fun h20=> ?_)
  ·
   refine ze<|za<|e_p (zb rfl)<|zf<|zd<|zC<|zk<|zec rQ ?_
   have hv9:(Po.mul (Po.vals l1) (Po.vals l2))=[]:=Po.mul_none hP hQ om
   exact zu Tryz.results75 (none,0) trivial (zn rfl) (by rw [hv9];rfl) (ho:=oN) ((.e (j:=0) rfl (by rw [hv9]) .n):SelR _ _ _)
  ·
   have hPQ:0<P.length∧0<Q.length:=by omega
   refine zB<|zd<|ze<|za<|e_mv rfl<|e_p (zK ya rfl)<|e_mv rfl<|e_p (zK ya rfl)<|e_p (zL (z:=(((((P).length)+((Q).length)):Nat):Int)) rfl rfl (w64 om))<|e_p (zca (z:=((((((P).length)+((Q).length)):Nat):Int) - 1)) rfl rfl (w64 om)) ?_
   have e7:(((((((P).length)+((Q).length)):Nat):Int) - 1):Int)=(((P.length+Q.length - 1):Nat):Int):=by omega
   rw [e7]
   refine zva rfl rfl (zab (r:=rE) (k:=(P.length+Q.length - 1)) (x0:=none) (γ0:=(wz,wz)) yb inf32 rfl rfl rfl rfl om om rfl (fun g _=>eF_wz g) dd) (fun b8 _=> ?_)
   refine e_p (zb rfl)<|zf<|zd<|ze<|ze<|za<|e_mv rfl<|e_p (zK yb rfl)<|e_mv rfl<|zf<|zd<|zx<|zja (X:=Nat×(List (Option Rat))) (fun x:Nat×(List (Option Rat))=>x.1≤P.length+Q.length - 1∧x.2.length=P.length+Q.length - 1∧∀j,j<x.1→x.2.getD j none=some (Po.pc P Q j)) (fun x=>[(30,.int .i64 ((x.1:Nat):Int)),(29,.int .i64 (((P.length+Q.length - 1):Nat):Int)),(5,.slice (some ⟨b8,0,none⟩) (P.length+Q.length - 1) (P.length+Q.length - 1)),(1,.slice p93 ((Q).length) c94),(0,.slice p91 ((P).length) c92),(4,.slice none 0 0)]) (fun x=>[rowA 32 rE (some ⟨b8,0,none⟩) (P.length+Q.length - 1) (x.2)]) (fun x=>[slF rQ p93 c94 Q,slF rQ p91 c92 P,slF rE p1 c1 l1,slF rE p2 c2 l2]) (fun x:Nat×(List (Option Rat))=>P.length+Q.length - 1 - x.1) (0,List.replicate (P.length+Q.length - 1) none) (show 0≤P.length+Q.length - 1∧(List.replicate (P.length+Q.length - 1) none).length=P.length+Q.length - 1∧∀j,j<0→(List.replicate (P.length+Q.length - 1) none).getD j none=some (Po.pc P Q j) from by exact ⟨Nat.zero_le _,List.length_replicate,fun j hj=>by omega⟩) ((.e rfl cgs (.of rfl)):SubM _ _) (ho:=((.e (i:=0) rfl cgs .n):PickO _ _ _)) ((.of [0,1,2,3] rfl):SelR _ _ _) ?_
   rintro ⟨k,A⟩ hI
   replace hI:k≤P.length+Q.length - 1∧A.length=P.length+Q.length - 1∧∀j,j<k→A.getD j none=some (Po.pc P Q j):=hI
   try dsimp only
   obtain ⟨hk,hAl,hA⟩:=hI
   refine ze<|za<|e_p (zX rfl rfl)<|zf<|zd<|ze<|zG rfl (fun h9=> ?_) (fun h9=> ?_)
   ·
    refine zB<|zd<|ze<|zx<|ze<|za<|e_mv rfl<|e_p (zb rfl)<|zf<|zd<|ze<|za<|zm rfl rfl (.n) ce101 (zzc) (.n) ?_
    rintro ⟨w310,w411⟩ -
    dsimp only [aq,nq,cq]
    refine zI rfl rfl (zr zr32 rfl) (fun b12=> ?_)
    refine zj 0 rfl rfl rfl rfl rfl sz32 rfl (.t4 .nil) .z<|zf<|zd<|ze<|ze<|za<|e_mv rfl<|e_mv rfl<|e_p (zK ya rfl)<|e_p (zca (z:=(((k:Nat):Int) - (((Q).length:Nat):Int))) rfl rfl (w64 om))<|e_p (zL (z:=((((k:Nat):Int) - (((Q).length:Nat):Int))+1)) rfl rfl (w64 om))<|e_p (zAe rfl rfl) ?_
    have e13:((max 0 ((((k:Nat):Int) - (((Q).length:Nat):Int))+1)):Int)=(((k+1 - Q.length):Nat):Int):=by omega
    rw [e13]
    refine e_p (zb rfl)<|zf<|zd<|zx<|zja (X:=Nat×Wd×Wd) (fun x:Nat×Wd×Wd=>(k+1 - Q.length)≤x.1∧x.1≤max (k+1 - Q.length) (min k (P.length - 1)+1)) (fun x=>[(8,.int .i64 ((x.1:Nat):Int)),(7,.pointer (some ⟨b12,0,none⟩)),(6,.int .i64 ((k:Nat):Int)),(30,.int .i64 ((k:Nat):Int)),(29,.int .i64 (((P.length+Q.length - 1):Nat):Int)),(5,.slice (some ⟨b8,0,none⟩) (P.length+Q.length - 1) (P.length+Q.length - 1)),(1,.slice p93 ((Q).length) c94),(0,.slice p91 ((P).length) c92),(4,.slice none 0 0)]) (fun x=>[boxA b12 32 (cw [x.2.1,x.2.2]),rowA 32 rE (some ⟨b8,0,none⟩) (P.length+Q.length - 1) A]) (fun x=>[qF true x.2.1 x.2.2 (Po.cv P Q k (k+1 - Q.length) (x.1 - (k+1 - Q.length))),qF true w310 w411 ((0:Int):Rat),slF rQ p93 c94 Q,slF rQ p91 c92 P,slF rE p1 c1 l1,slF rE p2 c2 l2]) (fun x:Nat×Wd×Wd=>k+1 - x.1) ((k+1 - Q.length),w310,w411) (show (k+1 - Q.length)≤(k+1 - Q.length)∧(k+1 - Q.length)≤max (k+1 - Q.length) (min k (P.length - 1)+1) from by exact ⟨Nat.le_refl _,Nat.le_max_left _ _⟩) (mR rfl) (ho:=((.of [0,0] rfl):PickO _ _ _)) ((.e (j:=0) rfl (by rw [Nat.sub_self];rfl) (.of [0,1,2,3,4] rfl)):SelR _ _ _) ?_
    rintro ⟨i,su,sv⟩ hi
    replace hi:(k+1 - Q.length)≤i∧i≤max (k+1 - Q.length) (min k (P.length - 1)+1):=hi
    try dsimp only [cw]
    refine ze<|ze<|za<|e_mv rfl<|e_mv rfl<|e_mv rfl<|e_p (zK ya rfl)<|e_p (zca (z:=((((P).length:Nat):Int) - 1)) rfl rfl (w64 om))<|e_p (zqg rfl rfl)<|e_p (zxb rfl rfl)<|zf<|zd<|zG rfl (fun h14=> ?_) (fun h14=> ?_)
    ·
     refine zB<|zd<|ze<|zx<|zV (OW:=[boxA b12 32 (cw [su,sv])]) (O:=[rowA 32 rE (some ⟨b8,0,none⟩) (P.length+Q.length - 1) A]) 13 mixed (.block (.then (.then (.block (.then (.block (.then (.then (.block (.then .ret)))))))))) kr<|e_uw 0 rfl rfl (zc 0 ty32 rfl rfl (.t4 .nil))<|e_dm 1 rfl rfl rfl<|e_dm 2 rfl rfl rfl<|d_vl 3 rfl rfl kr kr rfl rfl (zpa (x0:=((P).getD i (0:Rat))) 3 i rfl ya sz32 rfl (by first|rfl|assumption|(simp;done)|omega) rfl rfl (gD (d:=(0:Rat)) om)) ?_
     rintro ⟨b15,o16,w17,w18⟩ -
     dsimp only [aq,nq,cq]
     refine zNa open_rQ<|e_u 4 rfl rfl (zQ (j:=0) 0 ty32 rfl rfl rfl (.t4 .nil))<|e_dm 5 rfl rfl rfl<|e_dm 6 rfl rfl rfl<|e_dm 7 rfl rfl rfl<|e_pv 8 rfl rfl (zca (z:=(((k:Nat):Int) - ((i:Nat):Int))) rfl rfl (w64 om)) ?_
     have e19:((((k:Nat):Int) - ((i:Nat):Int)):Int)=(((k - i):Nat):Int):=by omega
     rw [e19]
     refine d_vl 9 rfl rfl kr kr rfl rfl (zpa (x0:=((Q).getD (k - i) (0:Rat))) 4 (k - i) rfl ya sz32 rfl (by first|rfl|assumption|(simp;done)|omega) rfl rfl (gD (d:=(0:Rat)) om)) ?_
     rintro ⟨b20,o21,w22,w23⟩ -
     dsimp only [aq,nq,cq]
     refine zNa open_rQ<|e_u 10 rfl rfl (zQ (j:=0) 0 ty32 rfl rfl rfl (.t4 .nil))<|e_one 11 (zp rfl rfl rfl rfl (.c rfl (.c rfl .n)) ce89 (zWc (k1:=true) (u1:=w17) (v1:=w18) (q1:=((P).getD i (0:Rat))) (k2:=true) (u2:=w22) (v2:=w23) (q2:=((Q).getD (k - i) (0:Rat))) (hl:=by have h1:=hbP i;have h2:=hbQ (k - i);omega)) (.c (j:=3) rfl (.c (j:=1) rfl .n)) ?_)
     rintro ⟨w324,w425⟩ -
     dsimp only [aq,nq,cq]
     refine e_one 12 (zp rfl rfl rfl rfl (.c rfl (.c rfl .n)) ce102 (zvc (k1:=true) (u1:=su) (v1:=sv) (q1:=(Po.cv P Q k (k+1 - Q.length) (i - (k+1 - Q.length)))) (k2:=true) (u2:=w324) (v2:=w425) (q2:=((P).getD i (0:Rat))*((Q).getD (k - i) (0:Rat))) (hl:=by have h1:=hsP k (k+1 - Q.length) (i - (k+1 - Q.length)) om;have h2:=hbP i;have h3:=hbQ (k - i);have h4:=Big.hq_mul (P.getD i 0) (Q.getD (k - i) 0);omega)) (.c (j:=5) rfl (.c (j:=0) rfl .n)) ?_)
     rintro ⟨w326,w427⟩ -
     dsimp only [aq,nq,cq]
     refine e_one 13 (zv kr rfl rfl rfl rfl rfl sz32 rfl (.t4 .nil) ?_)
     refine zH kr<|zP<|zd<|za<|e_mv rfl<|e_p (zL (z:=(((i+1):Nat):Int)) rfl rfl (w64 om))<|e_p (zb rfl)<|zf<|zda ((i+1),w326,w427) (show (k+1 - Q.length)≤(i+1)∧(i+1)≤max (k+1 - Q.length) (min k (P.length - 1)+1) from by exact ⟨by omega,by omega⟩) (by show k+1 - (i+1)<k+1 - i;omega) (mR rfl) (ho:=((.of [0,0] rfl):PickO _ _ _)) ((.e (j:=0) rfl (by rw [Po.cv_step _ _ hi.1]) (.of [7,8,9,10,11] rfl)):SelR _ _ _)
    ·
     refine zfa<|zi<|zi<|zw<|zd<|za<|e_mv rfl<|e_mv rfl<|e_ru (zc 0 ty32 rfl rfl (.t4 .nil))<|e_p (zZ (j:=k) yb sz32 rfl rfl rfl om)<|zEa 1 rfl rfl rfl (zS (r:=rE) (j:=k) (x0:=(some (Po.cv P Q k (k+1 - Q.length) (i - (k+1 - Q.length))))) (γ0:=(su,sv)) rfl rfl (by first|omega|(rw [List.length_map];omega)|(simp only [List.length_set];omega)|(simp;done)|(simp;omega)) rfl rfl sz32 (fun g hr=>qF_e (Holds.get 0 rfl hr))) (fun _=>(.s .z)) (fun _ _=> ?_)
     refine zf<|zP<|zd<|za<|e_p (zL (z:=(((k+1):Nat):Int)) rfl rfl (w64 om))<|e_mv rfl<|zf<|zda ((k+1),(A.set k (some (Po.cv P Q k (k+1 - Q.length) (i - (k+1 - Q.length)))))) (show (k+1)≤P.length+Q.length - 1∧(A.set k (some (Po.cv P Q k (k+1 - Q.length) (i - (k+1 - Q.length))))).length=P.length+Q.length - 1∧∀j,j<(k+1)→(A.set k (some (Po.cv P Q k (k+1 - Q.length) (i - (k+1 - Q.length))))).getD j none=some (Po.pc P Q j) from by exact ⟨by omega,by rw [List.length_set];exact hAl,Po.set_step hA om (Po.pc_end hi.1 ass hi.2 hPQ.1)⟩) (by show P.length+Q.length - 1 - (k+1)<P.length+Q.length - 1 - k;omega) (mR rfl) (ho:=((.c (i:=1) rfl .n):PickO _ _ _)) ((.of [2,3,4,5] rfl):SelR _ _ _)
   ·
    refine zfa<|zi<|zi<|zw<|zd<|ze<|za<|e_mv rfl<|zba 0 rfl .z<|zm rfl rfl (.c rfl .n) ce67 (zLa (p1:=some ⟨b8,0,none⟩) (n1:=(P.length+Q.length - 1)) (c1:=(P.length+Q.length - 1)) (l1:=A) (hn1:=cbo) (hm1:=cbo)) (.c (j:=0) rfl .n) ?_
    rintro ⟨p928,c929⟩ -
    dsimp only [aq,nq,cq]
    refine e_p (zb rfl)<|zf<|zd<|zC ?_
    have hv9:=Po.vals_mul hP hQ om rfl hAl (fun j hj=>hA j om)
    exact zu Tryz.results75 (p928,c929) trivial (zn rfl) (by rw [hv9]) (ho:=oN) ((.e (j:=0) rfl (by rw [hv9]) .n):SelR _ _ _)
end Go.Proofs.YtahiajepeodhoaaGreat.Sp
namespace Go.Proofs.YtahiajepeodhoaaGreat.Sp
open Go
set_option linter.unusedVariables false
set_option maxRecDepth 100000
set_option maxHeartbeats 8000000
theorem zac {p1:Option Addr} {n1:Nat} {c1:Nat} {l1:List (Option Rat)} {u1:Wd} {v1:Wd} {x1:Option Rat} (hn1:l1.length=n1) (hm1:n1≤1000) (hm9:n1≤900) (hb1:∀i,yg ((Po.vals l1).getD i 0)≤200000000000) (hb2:∀i,yg ((Po.vals [x1]).getD i 0)≤200000000000) (hs:∀k lo n,lo+n≤k+1→yg (Po.cv (Po.cl (Po.vals l1)) (Po.cl (Po.vals [x1])) k lo n)≤200000000000):Con ye 74 [.slice p1 n1 c1,.agg #[u1.b,u1.l,v1.b,v1.l]] [] [slF rE p1 c1 l1,eF u1 v1 x1] (Y:=(Option Addr)×Nat) (fun y=>True) (fun y=> .slice (y.1) ((Po.mul (Po.vals l1) (Po.vals [x1])).length) (y.2)) (fun y=>[]) (fun y=>[slF rQ (y.1) (y.2) (Po.mul (Po.vals l1) (Po.vals [x1]))]):=by
 refine zl Tryz.func74 rfl rfl rfl (fun c=> ?_)
 show RunC _ _ _ _ _ [(0,.slice p1 n1 c1),(1,.agg #[u1.b,u1.l,v1.b,v1.l])] [] [slF rE p1 c1 l1,eF u1 v1 x1]
 refine zU 0 rfl (fun hL0=> ?_)
 refine ze<|za<|zI rfl rfl (zR rfl rfl) (fun b1=> ?_)
 refine e_p (zb rfl)<|zf<|zd<|ze<|za<|e_mv rfl<|e_ru (zc 0 ty32 rfl rfl (.t4 .nil))<|zva rfl rfl (zA (r:=rE) (k:=1) ya inf32 rfl dd dd dd (.c (x:=x1) (cs:=[u1.b,u1.l,v1.b,v1.l]) (u1,v1) rfl rfl rfl (fun g hr=>Holds.get 1 rfl hr) .n)) (fun b2 _=> ?_)
 refine zba 0 rfl .z<|zm rfl rfl (.c rfl (.c rfl .n)) ce75 (zXc (p1:=p1) (n1:=n1) (c1:=c1) (l1:=l1) (p2:=some ⟨b2,0,none⟩) (n2:=1) (c2:=1) (l2:=[x1]) (hn1:=ass) (hm1:=ass) (hn2:=cbo) (hm2:=cbo) (hm12:=cbo) (hb1:=ass) (hb2:=ass) (hs:=ass)) (.c (j:=1) rfl (.c (j:=0) rfl .n)) ?_
 rintro ⟨p93,c94⟩ -
 dsimp only [aq,nq,cq]
 refine e_p (zb rfl)<|zf<|zd<|zC ?_
 exact zu Tryz.results74 (p93,c94) trivial (zn rfl) rfl (ho:=oN) (s0 rfl)
theorem zmd {p1:Option Addr} {n1:Nat} {c1:Nat} {l1:List (Option Rat)} {u1:Wd} {v1:Wd} {x1:Option Rat} (hn1:l1.length=n1) (hm1:n1≤1000) (hx:yg (x1.getD 0)≤200000000000) (hb1:∀i,yg ((l1.getD i none).getD 0)≤200000000000) (hs:∀i,yg (Po.ev (x1.getD 0) ((Po.vals l1).drop i))≤200000000000):Con ye 70 [.slice p1 n1 c1,.agg #[u1.b,u1.l,v1.b,v1.l]] [] [slF rE p1 c1 l1,eF u1 v1 x1] (Y:=Wd×Wd) (fun y=>True) (fun y=> .agg #[y.1.b,y.1.l,y.2.b,y.2.l]) (fun y=>[]) (fun y=>[qF true y.1 y.2 (Po.ev (x1.getD 0) (Po.vals l1))]):=by
 refine zl Tryz.func70 rfl rfl rfl (fun c=> ?_)
 show RunC _ _ _ _ _ [(0,.slice p1 n1 c1),(1,.agg #[u1.b,u1.l,v1.b,v1.l])] [] [slF rE p1 c1 l1,eF u1 v1 x1]
 refine zU 0 rfl (fun hL0=> ?_)
 refine ze<|za<|zI rfl rfl (zR rfl rfl) (fun b1=> ?_)
 refine zI rfl rfl (zr zr32 rfl) (fun b2=> ?_)
 refine zf<|zd<|ze<|zTb (qF x1.isSome u1 v1 (x1.getD 0)) (eF_weak 1 rfl)<|za<|zm rfl rfl (.n) ce101 (zzc) (.n) ?_
 rintro ⟨w33,w44⟩ -
 dsimp only [aq,nq,cq]
 refine zI rfl rfl (zr zr32 rfl) (fun b5=> ?_)
 refine zj 0 rfl rfl rfl rfl rfl sz32 rfl (.t4 .nil) .z<|zf<|zd<|ze<|ze<|za<|e_mv rfl<|e_p (zK ya rfl)<|e_p (zca (z:=(((n1:Nat):Int) - 1)) rfl rfl (w64 om))<|e_p (zb rfl)<|zf<|zd<|zx<|zja (X:=Nat×Wd×Wd) (fun x:Nat×Wd×Wd=>x.1≤n1) (fun x=>[(6,.int .i64 (((x.1:Nat):Int) - 1)),(5,.pointer (some ⟨b5,0,none⟩)),(4,.pointer (some ⟨b2,0,none⟩)),(3,.pointer (some ⟨b1,0,none⟩)),(0,.slice p1 n1 c1)]) (fun x=>[boxA b5 32 (cw [x.2.1,x.2.2]),boxA b2 32 (cw [wz,wz]),boxA b1 32 (cw [u1,v1])]) (fun x=>[qF true x.2.1 x.2.2 (Po.ev (x1.getD 0) ((Po.vals l1).drop x.1)),qF true w33 w44 ((0:Int):Rat),qF x1.isSome u1 v1 (x1.getD 0),slF rE p1 c1 l1,eF u1 v1 x1]) (fun x:Nat×Wd×Wd=>x.1) (n1,w33,w44) (show n1≤n1 from by exact Nat.le_refl _) (mR rfl) (ho:=((.of [0,0,0] rfl):PickO _ _ _)) ((.e (j:=0) rfl (by rw [Po.ev_top hn1]) (.of [0,1,2,3] rfl)):SelR _ _ _) ?_
 rintro ⟨i,su,sv⟩ hI
 replace hI:i≤n1:=hI
 try dsimp only [cw]
 refine ze<|ze<|za<|e_mv rfl<|e_p (zXa rfl rfl)<|zf<|zd<|zG rfl (fun h12=> ?_) (fun h12=> ?_)
 ·
  refine zB<|zd<|ze<|zx<|zV (OW:=[boxA b5 32 (cw [su,sv])]) (O:=[boxA b2 32 (cw [wz,wz]),boxA b1 32 (cw [u1,v1])]) 8 mixed (.block (.then (.then (.block (.then .ret))))) kr<|e_uw 0 rfl rfl (zc 0 ty32 rfl rfl (.t4 .nil))<|e_uw 1 rfl rfl (zc 2 ty32 rfl rfl (.t4 .nil))<|e_dm 3 rfl rfl rfl<|e_dm 4 rfl rfl rfl ?_
  have e6:((((i:Nat):Int) - 1):Int)=(((i - 1):Nat):Int):=by omega
  rw [e6]
  refine d_vl 5 rfl rfl kr kr rfl rfl (zpa (x0:=(l1.getD (i - 1) (none:Option Rat))) 3 (i - 1) rfl ya sz32 rfl (by first|rfl|assumption|(simp;done)|omega) rfl rfl (gD (d:=(none:Option Rat)) om)) ?_
  rintro ⟨b7,o8,w9,w10⟩ -
  dsimp only [aq,nq,cq]
  refine zNa open_rE<|e_u 6 rfl rfl (zQ (j:=0) 0 ty32 rfl rfl rfl (.t4 .nil))<|e_one 2 (zp rfl rfl rfl rfl (.c rfl (.c rfl .n)) ce89 (zWc (k1:=true) (u1:=su) (v1:=sv) (q1:=(Po.ev (x1.getD 0) ((Po.vals l1).drop i))) (k2:=x1.isSome) (u2:=u1) (v2:=v1) (q2:=(x1.getD 0)) (hl:=by have h1:=hs i;omega)) (.c (j:=3) rfl (.c (j:=5) rfl .n)) ?_)
  rintro ⟨w311,w412⟩ -
  dsimp only [aq,nq,cq]
  refine e_one 7 (zp rfl rfl rfl rfl (.c rfl (.c rfl .n)) ce102 (zvc (k1:=true) (u1:=w311) (v1:=w412) (q1:=(Po.ev (x1.getD 0) ((Po.vals l1).drop i))*(x1.getD 0)) (k2:=(l1.getD (i - 1) (none:Option Rat)).isSome) (u2:=w9) (v2:=w10) (q2:=((l1.getD (i - 1) (none:Option Rat)).getD 0)) (hl:=by have h1:=hs i;have h2:=Big.hq_mul (Po.ev (x1.getD 0) ((Po.vals l1).drop i)) (x1.getD 0);have h3:=hb1 (i - 1);omega)) (.c (j:=0) rfl (.c (j:=2) rfl .n)) ?_)
  rintro ⟨w313,w414⟩ -
  dsimp only [aq,nq,cq]
  refine e_one 8 (zv kr rfl rfl rfl rfl rfl sz32 rfl (.t4 .nil) ?_)
  refine zH kr<|zP<|zd<|za<|e_mv rfl<|e_p (zca (z:=((((i - 1):Nat):Int) - 1)) rfl rfl (w64 om))<|e_p (zb rfl)<|zf<|zda ((i - 1),w313,w414) (show (i - 1)≤n1 from by omega) om ((.e rfl (by first|rfl|(congr 1;done)|(congr 1;omega)) (.of rfl)):SubM _ _) (ho:=((.of [0,0,0] rfl):PickO _ _ _)) ((.e (j:=0) rfl (by rw [← Po.vals_get,Po.ev_step om (by rw [Po.vals_len];omega)]) (.of [6,7,8,9] rfl)):SelR _ _ _)
 ·
  refine zfa<|zi<|zi<|zw<|zd<|ze<|za<|e_ru (zc 0 ty32 rfl rfl (.t4 .nil))<|zm rfl rfl (.c rfl .n) ce97 (zya (k1:=true) (u1:=su) (v1:=sv) (q1:=(Po.ev (x1.getD 0) ((Po.vals l1).drop i)))) (.c (j:=0) rfl .n) ?_
  rintro ⟨w315,w416⟩ -
  dsimp only [aq,nq,cq]
  refine zj 1 rfl rfl rfl rfl rfl sz32 rfl (.t4 .nil) (.s .z)<|zf<|zd<|zC ?_
  have hi0:i=0:=by omega
  have hv9:(Po.ev (x1.getD 0) ((Po.vals l1).drop i))=Po.ev (x1.getD 0) (Po.vals l1):=by rw [hi0];rfl
  exact zu Tryz.results70 (w315,w416) trivial (zo 1 ty32 rfl rfl (.t4 .nil)) rfl (ho:=oN) ((.e (j:=0) rfl (by rw [← hv9]) .n):SelR _ _ _)
theorem zjc {p1:Option Addr} {n1:Nat} {c1:Nat} {l1:List (Option Rat)} (hn1:l1.length=n1) (hm1:n1≤1000) (hb1:∀i,yg ((l1.getD i none).getD 0)≤200000000000):Con ye 76 [.slice p1 n1 c1] [] [slF rE p1 c1 l1] (Y:=(Option Addr)×Nat) (fun y=>True) (fun y=> .slice (y.1) ((Po.der (Po.vals l1)).length) (y.2)) (fun y=>[]) (fun y=>[slF rQ (y.1) (y.2) (Po.der (Po.vals l1))]):=by
 refine zl Tryz.func76 rfl rfl rfl (fun c=> ?_)
 show RunC _ _ _ _ _ [(0,.slice p1 n1 c1)] [] [slF rE p1 c1 l1]
 refine zU 0 rfl (fun hL0=> ?_)
 refine ze<|za<|e_p (zb rfl)<|zf<|zd<|ze<|za<|e_p (zb rfl)<|zf<|zd<|ze<|ze<|zBd 32 rQ<|za<|e_p (zb rfl)<|zf<|zd<|zx<|zja (X:=Nat×(Option Addr)×Nat×(List Rat)) (fun x:Nat×(Option Addr)×Nat×(List Rat)=>1≤x.1∧x.1≤max 1 n1∧x.2.2.2=Po.gen (Po.dg l1) (x.1 - 1)) (fun x=>[(3,.slice (x.2.1) (x.2.2.2.length) (x.2.2.1)),(4,.int .i64 ((x.1:Nat):Int)),(2,.slice none 0 0),(0,.slice p1 n1 c1)]) (fun x=>[rowA 32 rQ (x.2.1) (x.2.2.1) (x.2.2.2)]) (fun x=>[slF rE p1 c1 l1]) (fun x:Nat×(Option Addr)×Nat×(List Rat)=>n1 - x.1) (1,none,0,([]:List Rat)) (show 1≤1∧1≤max 1 n1∧([]:List Rat)=Po.gen (Po.dg l1) (1 - 1) from by exact ⟨by omega,by omega,rfl⟩) ((.e rfl cgs (.e rfl cgs (.c rfl (.c rfl .n)))):SubM _ _) (ho:=((.e (i:=0) rfl cgs .n):PickO _ _ _)) (s0 rfl) ?_
 rintro ⟨i,pR,cR,A⟩ hI
 replace hI:1≤i∧i≤max 1 n1∧A=Po.gen (Po.dg l1) (i - 1):=hI
 try dsimp only
 obtain ⟨hi1,hi,hA⟩:=hI
 have hAl:A.length=i - 1:=by rw [hA,Po.gen_len]
 refine ze<|ze<|za<|e_mv rfl<|e_mv rfl<|e_p (zK ya rfl)<|e_p (zX rfl rfl)<|zf<|zd<|zG rfl (fun h1=> ?_) (fun h1=> ?_)
 ·
  refine zB<|zd<|ze<|zx<|zV (OW:=[rowA 32 rQ pR cR A]) (O:=[]) 9 mixed (.block (.then (.then (.block (.then .ret))))) kr<|e_dm 0 rfl rfl rfl<|e_dm 1 rfl rfl rfl<|e_dm 3 rfl rfl rfl<|e_dm 4 rfl rfl rfl<|d_vl 5 rfl rfl kr kr rfl rfl (zpa (x0:=(l1.getD i (none:Option Rat))) 0 i rfl ya sz32 rfl (by first|rfl|assumption|(simp;done)|omega) rfl rfl (gD (d:=(none:Option Rat)) om)) ?_
  rintro ⟨b2,o3,w4,w5⟩ -
  dsimp only [aq,nq,cq]
  refine zNa open_rE<|e_u 6 rfl rfl (zQ (j:=0) 0 ty32 rfl rfl rfl (.t4 .nil))<|e_one 2 (zp rfl rfl rfl rfl (.c rfl .n) ce58 (zxa (z:=((i:Nat):Int)) (hz:=cbo)) (.n) ?_)
  rintro ⟨w36,w47⟩ -
  dsimp only [aq,nq,cq]
  refine e_one 7 (zp rfl rfl rfl rfl (.c rfl (.c rfl .n)) ce89 (zWc (k1:=true) (u1:=w36) (v1:=w47) (q1:=((((i:Nat):Int):Int):Rat)) (k2:=(l1.getD i (none:Option Rat)).isSome) (u2:=w4) (v2:=w5) (q2:=((l1.getD i (none:Option Rat)).getD 0)) (hl:=by have h1:=hb1 i;have h2:=Big.hq_64 (z:=((i:Nat):Int)) om om;omega)) (.c (j:=0) rfl (.c (j:=2) rfl .n)) ?_)
  rintro ⟨w38,w49⟩ -
  dsimp only [aq,nq,cq]
  refine e_one 8 (zIa rfl rfl rfl rfl (zA (r:=rQ) (k:=1) yb inf32 rfl dd dd dd (.c (x:=(((((i:Nat):Int):Int):Rat)*((l1.getD i (none:Option Rat)).getD 0))) (cs:=[w38.b,w38.l,w49.b,w49.l]) (w38,w49) rfl rfl rfl (fun g hr=>Holds.get 0 rfl hr) .n)) (fun b10 _=> ?_))
  refine zla 0 rfl .z<|e_one 9 (zAd (A':=fun v:Option Addr×Nat=>rowA 32 rQ v.1 v.2 (A++([(((((i:Nat):Int):Int):Rat)*((l1.getD i (none:Option Rat)).getD 0))]))) kr rfl rfl rfl (zoa 0 rfl yb inf32 dd rfl rfl (by first|rfl|assumption|(simp;done)|omega) rfl (by first|rfl|assumption|(simp;done)|omega) om om) ?_)
  rintro ⟨p11,c12⟩ -
  dsimp only [aq,nq,cq]
  refine e_pv 10 rfl rfl (zb rfl)<|zH kr<|zP<|zd<|za<|e_mv rfl<|e_p (zL (z:=(((i+1):Nat):Int)) rfl rfl (w64 om))<|e_p (zb rfl)<|zf<|zda ((i+1),p11,c12,(A++([(((((i:Nat):Int):Int):Rat)*((l1.getD i (none:Option Rat)).getD 0))]))) (show 1≤(i+1)∧(i+1)≤max 1 n1∧(A++([(((((i:Nat):Int):Int):Rat)*((l1.getD i (none:Option Rat)).getD 0))]))=Po.gen (Po.dg l1) ((i+1) - 1) from by exact ⟨by omega,by omega,by rw [hA];exact Po.dg_step hi1⟩) (by show n1 - (i+1)<n1 - i;omega) ((.e rfl (by simp) (.of rfl)):SubM _ _) (ho:=(o0 rfl)) ((.c (j:=6) rfl .n):SelR _ _ _)
 ·
  refine zfa<|zi<|zi<|zw<|zd<|ze<|zjb 0 rfl .z<|za<|e_mv rfl<|zna (addQE 0 rfl)<|zm rfl rfl (.c rfl .n) ce67 (zLa (p1:=pR) (n1:=A.length) (c1:=cR) (l1:=(A.map some)) (hn1:=by exact List.length_map _) (hm1:=cbo)) (.c (j:=0) rfl .n) ?_
  rintro ⟨p913,c914⟩ -
  dsimp only [aq,nq,cq]
  refine e_p (zb rfl)<|zf<|zd<|zC ?_
  have hv9:Po.cl (Po.vals (A.map some))=(Po.der (Po.vals l1)):=by rw [hA];exact Po.dg_der hn1 om
  exact zu Tryz.results76 (p913,c914) trivial (zn rfl) (by rw [hv9]) (ho:=oN) ((.e (j:=0) rfl (by rw [hv9]) .n):SelR _ _ _)
end Go.Proofs.YtahiajepeodhoaaGreat.Sp
namespace Go.Proofs.YtahiajepeodhoaaGreat.Sp
open Go
set_option linter.unusedVariables false
set_option maxRecDepth 100000
set_option maxHeartbeats 8000000
theorem zkc {p1:Option Addr} {n1:Nat} {c1:Nat} {l1:List (Option Rat)} {p2:Option Addr} {n2:Nat} {c2:Nat} {l2:List (Option Rat)} (hn1:l1.length=n1) (hm1:n1≤1000) (hn2:l2.length=n2) (hm2:n2≤1000) (hm12:n1+n2≤400) (hb2:∀i,yg ((Po.vals l2).getD i 0)≤60000000000) (hok:Po.dok (Po.cl (Po.vals l2)) ((Po.cl (Po.vals l1)).length+1) [] (Po.cl (Po.vals l1))):Con ye 150 [.slice p1 n1 c1,.slice p2 n2 c2] [] [slF rE p1 c1 l1,slF rE p2 c2 l2] (Y:=(Option Addr)×Nat×(Option Addr)×Nat) (fun y=>True) (fun y=> .tuple #[.slice (y.1) ((Po.dq (Po.vals l1) (Po.vals l2)).length) (y.2.1),.slice (y.2.2.1) ((Po.dr (Po.vals l1) (Po.vals l2)).length) (y.2.2.2),.int .i64 (Po.dc (Po.vals l2))]) (fun y=>[]) (fun y=>[slF rQ (y.1) (y.2.1) (Po.dq (Po.vals l1) (Po.vals l2)),slF rQ (y.2.2.1) (y.2.2.2) (Po.dr (Po.vals l1) (Po.vals l2))]):=by
 refine zl Tryz.func150 rfl rfl rfl (fun c=> ?_)
 show RunC _ _ _ _ _ [(0,.slice p1 n1 c1),(1,.slice p2 n2 c2)] [] [slF rE p1 c1 l1,slF rE p2 c2 l2]
 refine zU 0 rfl (fun hL0=> ?_)
 refine zU 1 rfl (fun hL1=> ?_)
 refine ze<|za<|e_p (zb rfl)<|e_p (zb rfl)<|e_p (zb rfl)<|zf<|zd<|ze<|za<|e_mv rfl<|zm rfl rfl (.c rfl .n) ce67 (zLa (p1:=p1) (n1:=n1) (c1:=c1) (l1:=l1) (hn1:=ass) (hm1:=ass)) (.c (j:=0) rfl .n) ?_
 rintro ⟨p91,c92⟩ -
 dsimp only [aq,nq,cq]
 refine e_mv rfl<|zm rfl rfl (.c rfl .n) ce67 (zLa (p1:=p2) (n1:=n2) (c1:=c2) (l1:=l2) (hn1:=ass) (hm1:=ass)) (.c (j:=2) rfl .n) ?_
 rintro ⟨p93,c94⟩ -
 dsimp only [aq,nq,cq]
 refine e_p (zb rfl)<|e_p (zb rfl)<|zf<|zd<|ze<|ze ?_
 obtain ⟨P,hP⟩:∃z,z=(Po.cl (Po.vals l1)):=⟨_,rfl⟩
 have e5:(Po.cl (Po.vals l1):List Rat)=P:=by exact hP.symm
 rw [e5]
 obtain ⟨Q,hQ⟩:∃z,z=(Po.cl (Po.vals l2)):=⟨_,rfl⟩
 have e6:(Po.cl (Po.vals l2):List Rat)=Q:=by exact hQ.symm
 rw [e6]
 have hPl:P.length≤n1:=by rw [hP,←hn1,←Po.vals_len l1];exact Po.cl_le_len _
 have hQl:Q.length≤n2:=by rw [hQ,←hn2,←Po.vals_len l2];exact Po.cl_le_len _
 have hQc:Po.cl Q=Q:=by rw [hQ];exact Po.cl_cl _
 have hPc:Po.cl P=P:=by rw [hP];exact Po.cl_cl _
 have hbQ:Po.bd 60000000000 Q:=fun i=>by rw [hQ,Po.cl_get];exact hb2 i
 refine za<|e_mv rfl<|e_p (zK ya rfl)<|e_p (zwa rfl rfl)<|zf<|zd<|zG rfl (fun h20=> ?_) (fun h20=> ?_)
 ·
  refine ze<|za<|e_p (zb rfl)<|e_p (zb rfl)<|e_p (zb rfl)<|zf<|zd<|zC<|zk<|zec rQ ?_
  have h0:(Po.cl (Po.vals l2)).length=0:=by rw [← hQ];omega
  have hv8:(Po.dq (Po.vals l1) (Po.vals l2))=[]:=if_pos h0
  have hv9:(Po.dr (Po.vals l1) (Po.vals l2))=[]:=if_pos h0
  have hv7:(Po.dc (Po.vals l2))=14:=if_pos h0
  exact zGc Tryz.results150 (none,0,none,0) trivial (zn rfl) (zn rfl) (zn rfl) (by rw [hv7,hv8,hv9];rfl) (ho:=oN) ((.e (j:=0) rfl (by rw [hv8]) (.e (j:=0) rfl (by rw [hv9]) .n)):SelR _ _ _)
 ·
  have hQ0:0<Q.length:=by omega
  have hQn:Q≠[]:=fun e=>by rw [e] at hQ0;exact absurd hQ0 dd
  refine zB<|zd<|ze<|c_nilF rQ<|za<|e_p (zb rfl)<|zf<|zd<|ze<|zx<|zja (X:=Nat×(List Rat)×(List Rat)×(Option Addr)×Nat×(Option Addr)×Nat) (fun x:Nat×(List Rat)×(List Rat)×(Option Addr)×Nat×(Option Addr)×Nat=>(x.2.2.1.length<x.1∧x.2.2.1.length≤400∧x.2.1.length≤400)∧Po.dok Q x.1 x.2.1 x.2.2.1∧Po.dv Q P.length [] P=Po.dv Q (x.1 - 1) x.2.1 x.2.2.1) (fun x=>[(7,.slice (x.2.2.2.2.2.1) (x.2.2.1.length) (x.2.2.2.2.2.2)),(8,.slice (x.2.2.2.1) (x.2.1.length) (x.2.2.2.2.1)),(1,.slice p93 ((Q).length) c94),(6,.int .i64 0),(5,.slice none 0 0),(4,.slice none 0 0)]) (fun x=>[]) (fun x=>[slF rQ (x.2.2.2.1) (x.2.2.2.2.1) (x.2.1),slF rQ (x.2.2.2.2.2.1) (x.2.2.2.2.2.2) (x.2.2.1),slF rQ none 0 ([]),slF rQ p93 c94 Q,slF rQ p91 c92 P,slF rE p1 c1 l1,slF rE p2 c2 l2]) (fun x:Nat×(List Rat)×(List Rat)×(Option Addr)×Nat×(Option Addr)×Nat=>x.1) ((P.length+1),([]:List Rat),P,none,0,p91,c92) (show (P.length<(P.length+1)∧P.length≤400∧([]:List Rat).length≤400)∧Po.dok Q (P.length+1) ([]:List Rat) P∧Po.dv Q P.length [] P=Po.dv Q ((P.length+1) - 1) ([]:List Rat) P from by exact ⟨by simp;omega,by rw [hP,hQ];exact hok,rfl⟩) ((.e rfl cgs (.e rfl cgs (.of rfl))):SubM _ _) (ho:=oN) ((.e (j:=0) rfl rfl (.e (j:=2) rfl rfl (.of [0,1,2,3,4] rfl))):SelR _ _ _) ?_
  rintro ⟨f,a,r,pa,ca,pr,cr⟩ hI
  replace hI:(r.length<f∧r.length≤400∧a.length≤400)∧Po.dok Q f a r∧Po.dv Q P.length [] P=Po.dv Q (f - 1) a r:=hI
  try dsimp only
  obtain ⟨⟨hf,hrl,hal⟩,hdk,hdv⟩:=hI
  refine ze<|ze<|za<|e_mv rfl<|e_p (zK ya rfl)<|e_mv rfl<|e_p (zK ya rfl)<|e_p (zXa rfl rfl)<|zf<|zd<|zG rfl (fun h25=> ?_) (fun h25=> ?_)
  ·
   refine zB<|zd<|zx<|ze<|za<|e_mv rfl<|e_p (zK ya rfl)<|e_mv rfl<|e_p (zK ya rfl)<|e_p (zca (z:=(((r.length:Nat):Int) - (((Q).length:Nat):Int))) rfl rfl (w64 om)) ?_
   have e7:((((r.length:Nat):Int) - (((Q).length:Nat):Int)):Int)=(((r.length - Q.length):Nat):Int):=by omega
   rw [e7]
   refine e_p (zb rfl)<|zf<|zd<|ze<|zV (OW:=[]) (O:=[]) 17 mixed (.then (.block (.then (.block (.then .ret))))) kr<|e_dm 0 rfl rfl rfl<|e_dm 1 rfl rfl rfl<|e_pv 2 rfl rfl (zK ya rfl)<|e_pv 3 rfl rfl (zca (z:=(((r.length:Nat):Int) - 1)) rfl rfl (w64 om)) ?_
   have e8:((((r.length:Nat):Int) - 1):Int)=(((r.length - 1):Nat):Int):=by omega
   rw [e8]
   refine d_vl 4 rfl rfl kr kr rfl rfl (zpa (x0:=(r.getD (r.length - 1) (0:Rat))) 1 (r.length - 1) rfl ya sz32 rfl (by first|rfl|assumption|(simp;done)|omega) rfl rfl (gD (d:=(0:Rat)) om)) ?_
   rintro ⟨b9,o10,w11,w12⟩ -
   dsimp only [aq,nq,cq]
   refine zNa open_rQ<|e_u 5 rfl rfl (zQ (j:=0) 0 ty32 rfl rfl rfl (.t4 .nil))<|e_dm 6 rfl rfl rfl<|e_dm 7 rfl rfl rfl<|e_pv 8 rfl rfl (zK ya rfl)<|e_pv 9 rfl rfl (zca (z:=((((Q).length:Nat):Int) - 1)) rfl rfl (w64 om)) ?_
   have e13:(((((Q).length:Nat):Int) - 1):Int)=(((Q.length - 1):Nat):Int):=by omega
   rw [e13]
   refine d_vl 10 rfl rfl kr kr rfl rfl (zpa (x0:=((Q).getD (Q.length - 1) (0:Rat))) 5 (Q.length - 1) rfl ya sz32 rfl (by first|rfl|assumption|(simp;done)|omega) rfl rfl (gD (d:=(0:Rat)) om)) ?_
   rintro ⟨b14,o15,w16,w17⟩ -
   dsimp only [aq,nq,cq]
   refine zNa open_rQ<|e_u 11 rfl rfl (zQ (j:=0) 0 ty32 rfl rfl rfl (.t4 .nil))<|zW (m':=[(43,.agg (cw [w16,w17]).toArray),(37,.agg (cw [w11,w12]).toArray),(9,.int .i64 (((r.length - Q.length):Nat):Int)),(7,.slice pr (r.length) cr),(8,.slice pa (a.length) ca),(1,.slice p93 ((Q).length) c94),(6,.int .i64 0),(5,.slice none 0 0),(4,.slice none 0 0)]) (R':=[qF true w16 w17 ((Q).getD (Q.length - 1) (0:Rat)),qF true w11 w12 (r.getD (r.length - 1) (0:Rat)),slF rQ pa ca a,slF rQ pr cr r,slF rQ none 0 ([]),slF rQ p93 c94 Q,slF rQ p91 c92 P,slF rE p1 c1 l1,slF rE p2 c2 l2]) (mR rfl) (List.Perm.refl _) (List.Perm.refl _) ((.of [1,3,4,5,6,7,8,9,10] rfl):SelR _ _ _)<|zQa (X:=Wd×Wd×Nat) (k':=0) (L':=(lb 19 524287)) (fun (u12_1,u12_2,u16_1)=>([(10,.pointer (some ⟨u16_1,0,none⟩)),(9,.int .i64 (((r.length - Q.length):Nat):Int)),(7,.slice pr (r.length) cr),(8,.slice pa (a.length) ca),(1,.slice p93 ((Q).length) c94),(6,.int .i64 0),(5,.slice none 0 0),(4,.slice none 0 0)],[boxA u16_1 32 (cw [u12_1,u12_2])],[],[qF true u12_1 u12_2 ((r.getD (r.length - 1) (0:Rat)) / ((Q).getD (Q.length - 1) (0:Rat))),qF true w16 w17 ((Q).getD (Q.length - 1) (0:Rat)),qF true w11 w12 (r.getD (r.length - 1) (0:Rat)),slF rQ pa ca a,slF rQ pr cr r,slF rQ none 0 ([]),slF rQ p93 c94 Q,slF rQ p91 c92 P,slF rE p1 c1 l1,slF rE p2 c2 l2])) ?_ (fun hD0=> ?_)
   ·
    rintro ⟨u12_1,u12_2,u16_1⟩
    dsimp only [cw]
    refine zH kr<|zd<|ze<|za<|e_mv rfl<|e_p (zL (z:=((((r.length - Q.length)+1):Nat):Int)) rfl rfl (w64 om)) ?_
    have e18:(((((r.length - Q.length)+1):Nat):Int):Int)=(((r.length - Q.length+1):Nat):Int):=by omega
    rw [e18]
    refine zva rfl rfl (zab (r:=rE) (k:=(r.length - Q.length+1)) (x0:=none) (γ0:=(wz,wz)) ya inf32 rfl rfl rfl rfl om om rfl (fun g _=>eF_wz g) dd) (fun b19 _=> ?_)
    refine e_p (zb rfl)<|zf<|zd<|ze<|ze<|za<|e_mv rfl<|e_p (zK ya rfl)<|e_mv rfl<|zf<|zd<|zx<|zja (X:=Nat×(List (Option Rat))) (fun x:Nat×(List (Option Rat))=>x.1≤r.length - Q.length+1∧x.2.length=r.length - Q.length+1∧∀j,j<x.1→x.2.getD j none=some ((0:Int):Rat)) (fun x=>[(52,.int .i64 ((x.1:Nat):Int)),(51,.int .i64 (((r.length - Q.length+1):Nat):Int)),(12,.slice (some ⟨b19,0,none⟩) (r.length - Q.length+1) (r.length - Q.length+1)),(10,.pointer (some ⟨u16_1,0,none⟩)),(9,.int .i64 (((r.length - Q.length):Nat):Int)),(7,.slice pr (r.length) cr),(8,.slice pa (a.length) ca),(1,.slice p93 ((Q).length) c94),(6,.int .i64 0),(5,.slice none 0 0),(4,.slice none 0 0)]) (fun x=>[rowA 32 rE (some ⟨b19,0,none⟩) (r.length - Q.length+1) (x.2),boxA u16_1 32 (cw [u12_1,u12_2])]) (fun x=>[qF true u12_1 u12_2 ((r.getD (r.length - 1) (0:Rat)) / ((Q).getD (Q.length - 1) (0:Rat))),qF true w16 w17 ((Q).getD (Q.length - 1) (0:Rat)),qF true w11 w12 (r.getD (r.length - 1) (0:Rat)),slF rQ pa ca a,slF rQ pr cr r,slF rQ none 0 ([]),slF rQ p93 c94 Q,slF rQ p91 c92 P,slF rE p1 c1 l1,slF rE p2 c2 l2]) (fun x:Nat×(List (Option Rat))=>r.length - Q.length+1 - x.1) (0,List.replicate (r.length - Q.length+1) none) (show 0≤r.length - Q.length+1∧(List.replicate (r.length - Q.length+1) none).length=r.length - Q.length+1∧∀j,j<0→(List.replicate (r.length - Q.length+1) none).getD j none=some ((0:Int):Rat) from by exact ⟨Nat.zero_le _,List.length_replicate,fun j hj=>by omega⟩) ((.e rfl cgs (.of rfl)):SubM _ _) (ho:=((.e (i:=0) rfl cgs (.c (i:=0) rfl .n)):PickO _ _ _)) ((.of [0,1,2,3,4,5,6,7,8,9] rfl):SelR _ _ _) ?_
    rintro ⟨i,A⟩ hJ
    replace hJ:i≤r.length - Q.length+1∧A.length=r.length - Q.length+1∧∀j,j<i→A.getD j none=some ((0:Int):Rat):=hJ
    try dsimp only [cw]
    refine ze<|za<|e_p (zX rfl rfl)<|zf<|zd<|ze<|zG rfl (fun h20=> ?_) (fun h20=> ?_)
    ·
     refine zB<|zd<|ze<|zx<|ze<|za<|e_mv rfl<|e_p (zb rfl)<|zf<|zd<|za<|e_mv rfl<|e_mv rfl<|zm rfl rfl (.n) ce101 (zzc) (.n) ?_
     rintro ⟨w321,w422⟩ -
     dsimp only [aq,nq,cq]
     refine e_p (zZ (j:=i) ya sz32 rfl rfl rfl om)<|zEa 0 rfl rfl rfl (zS (r:=rE) (j:=i) (x0:=(some ((0:Int):Rat))) (γ0:=(w321,w422)) rfl rfl (by first|omega|(rw [List.length_map];omega)|(simp only [List.length_set];omega)|(simp;done)|(simp;omega)) rfl rfl sz32 (fun g hr=>qF_e (Holds.get 0 rfl hr))) (fun _=> .z) (fun _ _=> ?_)
     refine zf<|zP<|zd<|za<|e_p (zL (z:=(((i+1):Nat):Int)) rfl rfl (w64 om))<|e_mv rfl<|zf<|zda ((i+1),(A.set i (some ((0:Int):Rat)))) (show (i+1)≤r.length - Q.length+1∧(A.set i (some ((0:Int):Rat))).length=r.length - Q.length+1∧∀j,j<(i+1)→(A.set i (some ((0:Int):Rat))).getD j none=some ((0:Int):Rat) from by exact ⟨by omega,by rw [List.length_set];exact hJ.2.1,Po.set_step (g:=fun _=>((0:Int):Rat)) hJ.2.2 om rfl⟩) (by show r.length - Q.length+1 - (i+1)<r.length - Q.length+1 - i;omega) (mR rfl) (ho:=((.of [0,0] rfl):PickO _ _ _)) ((.of [1,2,3,4,5,6,7,8,9,10] rfl):SelR _ _ _)
    ·
     refine zfa<|zi<|zi<|zw<|zd<|ze<|za<|e_mv rfl<|e_mv rfl<|e_ru (zc 1 ty32 rfl rfl (.t4 .nil))<|e_p (zZ (j:=(r.length - Q.length)) ya sz32 rfl rfl rfl om)<|zEa 0 rfl rfl rfl (zS (r:=rE) (j:=(r.length - Q.length)) (x0:=(some ((r.getD (r.length - 1) (0:Rat)) / ((Q).getD (Q.length - 1) (0:Rat))))) (γ0:=(u12_1,u12_2)) rfl rfl (by first|omega|(rw [List.length_map];omega)|(simp only [List.length_set];omega)|(simp;done)|(simp;omega)) rfl rfl sz32 (fun g hr=>qF_e (Holds.get 0 rfl hr))) (fun _=> .z) (fun _ _=> ?_)
     refine zf<|zd<|ze ?_
     have hB:Po.vals (A.set (r.length - Q.length) (some ((r.getD (r.length - 1) (0:Rat)) / ((Q).getD (Q.length - 1) (0:Rat)))))=Po.dt Q r:=Po.vals_mono hJ.2.1 (fun j hj=>hJ.2.2 j om)
     have hBl:(A.set (r.length - Q.length) (some ((r.getD (r.length - 1) (0:Rat)) / ((Q).getD (Q.length - 1) (0:Rat))))).length=r.length - Q.length+1:=by rw [List.length_set];exact hJ.2.1
     obtain ⟨hba,hbr⟩:=Po.dok_bd hdk om
     have hml:(Po.mul (Po.dt Q r) Q).length≤1000:=by rw [← Po.mul_mc];unfold Po.mc;exact Nat.le_trans (Po.cl_le_len _) (by rw [Po.gen_len,Po.dt_len];omega)
     refine za<|e_mv rfl<|e_mv rfl<|zna (addQE 3 rfl)<|zba 0 rfl .z<|zm rfl rfl (.c rfl (.c rfl .n)) ce73 (zMe (p1:=pa) (n1:=a.length) (c1:=ca) (l1:=(a.map some)) (p2:=some ⟨b19,0,none⟩) (n2:=(r.length - Q.length+1)) (c2:=(r.length - Q.length+1)) (l2:=(A.set (r.length - Q.length) (some ((r.getD (r.length - 1) (0:Rat)) / ((Q).getD (Q.length - 1) (0:Rat)))))) (hn1:=by exact List.length_map _) (hm1:=cbo) (hn2:=by exact hBl) (hm2:=cbo) (hb:=by intro j;rw [Po.msome,←Po.vals_get,hB];have h1:=hba j;have h2:=Po.dt_bd hbr hbQ j;omega)) (.c (j:=1) rfl (.c (j:=0) rfl .n)) ?_
     rintro ⟨p923,c924⟩ -
     dsimp only [aq,nq,cq]
     have e25:(Po.add (Po.vals (a.map some)) (Po.vals (A.set (r.length - Q.length) (some ((r.getD (r.length - 1) (0:Rat)) / ((Q).getD (Q.length - 1) (0:Rat)))))):List Rat)=Po.add a (Po.dt Q r):=by rw [Po.vals_some,hB]
     rw [e25]
     refine e_p (zb rfl)<|zf<|zd<|za<|e_mv rfl<|e_mv rfl<|e_mv rfl<|zna (addQE 9 rfl)<|zm rfl rfl (.c rfl (.c rfl .n)) ce75 (zXc (p1:=some ⟨b19,0,none⟩) (n1:=(r.length - Q.length+1)) (c1:=(r.length - Q.length+1)) (l1:=(A.set (r.length - Q.length) (some ((r.getD (r.length - 1) (0:Rat)) / ((Q).getD (Q.length - 1) (0:Rat)))))) (p2:=p93) (n2:=(Q).length) (c2:=c94) (l2:=((Q).map some)) (hn1:=by exact hBl) (hm1:=cbo) (hn2:=by exact List.length_map _) (hm2:=cbo) (hm12:=cbo) (hb1:=by rw [hB];intro j;exact Nat.le_trans (Po.dt_bd hbr hbQ j) dd) (hb2:=by rw [Po.vals_some];intro j;exact Nat.le_trans (hbQ j) dd) (hs:=by rw [hB,Po.vals_some,hQc];exact fun k lo n _=>Po.dt_cv_hq hbr hbQ k lo n)) (.c (j:=2) rfl (.c (j:=0) rfl .n)) ?_
     rintro ⟨p926,c927⟩ -
     dsimp only [aq,nq,cq]
     have e28:(Po.mul (Po.vals (A.set (r.length - Q.length) (some ((r.getD (r.length - 1) (0:Rat)) / ((Q).getD (Q.length - 1) (0:Rat)))))) (Po.vals ((Q).map some)):List Rat)=Po.mul (Po.dt Q r) Q:=by rw [Po.vals_some,hB]
     rw [e28]
     refine zna (addQE 9 rfl)<|zna (addQE 1 rfl)<|zm rfl rfl (.c rfl (.c rfl .n)) ce77 (zJd (p1:=pr) (n1:=r.length) (c1:=cr) (l1:=(r.map some)) (p2:=p926) (n2:=(Po.mul (Po.dt Q r) Q).length) (c2:=c927) (l2:=((Po.mul (Po.dt Q r) Q).map some)) (hn1:=by exact List.length_map _) (hm1:=cbo) (hn2:=by exact List.length_map _) (hm2:=by exact hml) (hb:=by intro j;rw [Po.msome,Po.msome];have h1:=hbr j;have h2:=Po.mul_dt_bd hbr hbQ j;omega)) (.c (j:=1) rfl (.c (j:=0) rfl .n)) ?_
     rintro ⟨p929,c930⟩ -
     dsimp only [aq,nq,cq]
     have e31:(Po.sub (Po.vals (r.map some)) (Po.vals ((Po.mul (Po.dt Q r) Q).map some)):List Rat)=Po.sub r (Po.mul (Po.dt Q r) Q):=by rw [Po.vals_some,Po.vals_some]
     rw [e31]
     refine e_p (zb rfl)<|zf<|zP<|zda ((f - 1),(Po.add a (Po.dt Q r)),(Po.sub r (Po.mul (Po.dt Q r) Q)),p923,c924,p929,c930) (show ((Po.sub r (Po.mul (Po.dt Q r) Q)).length<(f - 1)∧(Po.sub r (Po.mul (Po.dt Q r) Q)).length≤400∧(Po.add a (Po.dt Q r)).length≤400)∧Po.dok Q (f - 1) (Po.add a (Po.dt Q r)) (Po.sub r (Po.mul (Po.dt Q r) Q))∧Po.dv Q P.length [] P=Po.dv Q ((f - 1) - 1) (Po.add a (Po.dt Q r)) (Po.sub r (Po.mul (Po.dt Q r) Q)) from by have h9:=Po.dt_less (r:=r) hQc hQn om;have h8:=Po.add_len a (Po.dt Q r);rw [Po.dt_len] at h8;exact ⟨⟨by omega,by omega,by omega⟩,Po.dok_yes hdk om om,hdv.trans (Po.dv_yes om om)⟩) om (mR rfl) (ho:=oN) ((.of [5,0,13,14,15,16,17] rfl):SelR _ _ _)
   refine zQa (X:=Wd×Wd×Nat) (k':=2) (L':=(lb 19 131071)) (fun (u12_1,u12_2,u16_1)=>([(10,.pointer (some ⟨u16_1,0,none⟩)),(46,.int .i64 0),(45,.agg (cw [u12_1,u12_2]).toArray),(9,.int .i64 (((r.length - Q.length):Nat):Int)),(7,.slice pr (r.length) cr),(8,.slice pa (a.length) ca),(1,.slice p93 ((Q).length) c94),(6,.int .i64 0),(5,.slice none 0 0),(4,.slice none 0 0)],[boxA u16_1 32 (cw [wz,wz])],[],[qF true u12_1 u12_2 ((r.getD (r.length - 1) (0:Rat)) / ((Q).getD (Q.length - 1) (0:Rat))),qF true w16 w17 ((Q).getD (Q.length - 1) (0:Rat)),qF true w11 w12 (r.getD (r.length - 1) (0:Rat)),slF rQ pa ca a,slF rQ pr cr r,slF rQ none 0 ([]),slF rQ p93 c94 Q,slF rQ p91 c92 P,slF rE p1 c1 l1,slF rE p2 c2 l2])) ?_ (fun hD1=> ?_)
   ·
    rintro ⟨u12_1,u12_2,u16_1⟩
    dsimp only [cw]
    refine zPb 17 kr ?_
    ·
     refine zv kr rfl rfl rfl rfl rfl sz32 rfl (.t4 .nil)<|e_pv 18 rfl rfl (zb rfl) ?_
     exact zua (hD0 (u12_1,u12_2,u16_1)) kr (mR rfl) .rfl .rfl ((.of [0,1,2,3,4,5,6,7,8,9] rfl):SelR _ _ _)
   refine zQa (X:=Wd×Wd) (k':=3) (L':=(lb 19 65535)) (fun (u12_1,u12_2)=>([(46,.int .i64 0),(45,.agg (cw [u12_1,u12_2]).toArray),(9,.int .i64 (((r.length - Q.length):Nat):Int)),(7,.slice pr (r.length) cr),(8,.slice pa (a.length) ca),(1,.slice p93 ((Q).length) c94),(6,.int .i64 0),(5,.slice none 0 0),(4,.slice none 0 0)],[],[],[qF true u12_1 u12_2 ((r.getD (r.length - 1) (0:Rat)) / ((Q).getD (Q.length - 1) (0:Rat))),qF true w16 w17 ((Q).getD (Q.length - 1) (0:Rat)),qF true w11 w12 (r.getD (r.length - 1) (0:Rat)),slF rQ pa ca a,slF rQ pr cr r,slF rQ none 0 ([]),slF rQ p93 c94 Q,slF rQ p91 c92 P,slF rE p1 c1 l1,slF rE p2 c2 l2])) ?_ (fun hD2=> ?_)
   ·
    rintro ⟨u12_1,u12_2⟩
    dsimp only [cw]
    refine zPb 16 kr ?_
    ·
     refine zoc rfl rfl rfl rfl (zr zr32 rfl) (fun u16_1 _=> ?_)
     exact zua (hD1 (u12_1,u12_2,u16_1)) kr (mR rfl) .rfl .rfl ((.of [0,1,2,3,4,5,6,7,8,9] rfl):SelR _ _ _)
   refine zQa (X:=Nat) (k':=6) (L':=(lb 19 69631)) (fun u16_1=>([(10,.pointer (some ⟨u16_1,0,none⟩)),(43,.agg (cw [w16,w17]).toArray),(37,.agg (cw [w11,w12]).toArray),(9,.int .i64 (((r.length - Q.length):Nat):Int)),(7,.slice pr (r.length) cr),(8,.slice pa (a.length) ca),(1,.slice p93 ((Q).length) c94),(6,.int .i64 0),(5,.slice none 0 0),(4,.slice none 0 0)],[boxA u16_1 32 (cw [wz,wz])],[],[qF true w16 w17 ((Q).getD (Q.length - 1) (0:Rat)),qF true w11 w12 (r.getD (r.length - 1) (0:Rat)),slF rQ pa ca a,slF rQ pr cr r,slF rQ none 0 ([]),slF rQ p93 c94 Q,slF rQ p91 c92 P,slF rE p1 c1 l1,slF rE p2 c2 l2])) ?_ (fun hD3=> ?_)
   ·
    rintro u16_1
    dsimp only [cw]
    refine zPb 12 kr ?_
    ·
     refine zp rfl rfl rfl rfl (.c rfl (.c rfl .n)) ce161 (zsb (k1:=true) (u1:=w11) (v1:=w12) (q1:=(r.getD (r.length - 1) (0:Rat))) (k2:=true) (u2:=w16) (v2:=w17) (q2:=((Q).getD (Q.length - 1) (0:Rat))) (hl:=by have h1:=(Po.dok_bd hdk om).2 (r.length - 1);have h2:=hbQ (Q.length - 1);omega) (hy:=by exact Po.lead_ne hQc hQn)) (.c (j:=1) rfl (.c (j:=0) rfl .n)) ?_
     rintro ⟨u12_1,u12_2⟩ -
     dsimp only [aq,nq,cq]
     refine e_dm 13 rfl rfl rfl<|e_pv 14 rfl rfl (zq rfl rfl)<|e_pv 15 rfl rfl (zq rfl rfl) ?_
     exact zua (hD1 (u12_1,u12_2,u16_1)) kr (mR rfl) .rfl .rfl ((.of [0,1,2,3,4,5,6,7,8,9] rfl):SelR _ _ _)
   refine zQe 12 16 kr ?_ ?_
   ·
    refine zp rfl rfl rfl rfl (.c rfl (.c rfl .n)) ce161 (zsb (k1:=true) (u1:=w11) (v1:=w12) (q1:=(r.getD (r.length - 1) (0:Rat))) (k2:=true) (u2:=w16) (v2:=w17) (q2:=((Q).getD (Q.length - 1) (0:Rat))) (hl:=by have h1:=(Po.dok_bd hdk om).2 (r.length - 1);have h2:=hbQ (Q.length - 1);omega) (hy:=by exact Po.lead_ne hQc hQn)) (.c (j:=1) rfl (.c (j:=0) rfl .n)) ?_
    rintro ⟨u12_1,u12_2⟩ -
    dsimp only [aq,nq,cq]
    refine e_dm 13 rfl rfl rfl<|e_pv 14 rfl rfl (zq rfl rfl)<|e_pv 15 rfl rfl (zq rfl rfl) ?_
    exact zua (hD2 (u12_1,u12_2)) kr (mR rfl) .rfl .rfl ((.of [0,1,2,3,4,5,6,7,8,9] rfl):SelR _ _ _)
   ·
    refine zoc rfl rfl rfl rfl (zr zr32 rfl) (fun u16_1 _=> ?_)
    exact zua (hD3 u16_1) kr (mR rfl) .rfl .rfl ((.of [0,1,2,3,4,5,6,7,8] rfl):SelR _ _ _)
  ·
   refine zfa<|zi<|zi<|zw<|zd<|ze<|za<|e_mv rfl<|e_mv rfl<|e_p (zb rfl)<|e_p (zb rfl)<|e_p (zb rfl)<|zf<|zd<|zC ?_
   have h0:¬(Po.cl (Po.vals l2)).length=0:=by rw [← hQ];omega
   have hdn:Po.dv Q P.length [] P=(a,r):=hdv.trans (Po.dv_no om)
   have hv8:(Po.dq (Po.vals l1) (Po.vals l2))=a:=(if_neg h0).trans (by unfold Po.divp;rw [← hQ,←hP,hdn])
   have hv9:(Po.dr (Po.vals l1) (Po.vals l2))=r:=(if_neg h0).trans (by unfold Po.divp;rw [← hQ,←hP,hdn])
   have hv7:(Po.dc (Po.vals l2))=0:=if_neg h0
   exact zGc Tryz.results150 (pa,ca,pr,cr) trivial (zn rfl) (zn rfl) (zn rfl) (by rw [hv7,hv8,hv9]) (ho:=oN) ((.e (j:=0) rfl (by rw [hv8]) (.e (j:=1) rfl (by rw [hv9]) .n)):SelR _ _ _)
end Go.Proofs.YtahiajepeodhoaaGreat.Sp
namespace Go.Proofs.YtahiajepeodhoaaGreat.Sp
open Go
set_option linter.unusedVariables false
set_option maxRecDepth 100000
set_option maxHeartbeats 8000000
theorem zbc {p1:Option Addr} {n1:Nat} {c1:Nat} {l1:List Rat} (hn1:l1.length=n1) (hm1:n1≤800) (hcl:Po.cl l1=l1) (hb:Po.bd 60000000000 l1):Con ye 160 [.slice p1 n1 c1] [] [slF rQ p1 c1 l1] (Y:=(Option Addr)×Nat) (fun y=>True) (fun y=> .slice (y.1) ((Po.mo l1).length) (y.2)) (fun y=>[]) (fun y=>[slF rQ (y.1) (y.2) (Po.mo l1)]):=by
 refine zl Tryz.func160 rfl rfl rfl (fun c=> ?_)
 show RunC _ _ _ _ _ [(0,.slice p1 n1 c1)] [] [slF rQ p1 c1 l1]
 refine zU 0 rfl (fun hL0=> ?_)
 refine ze<|za<|e_p (zb rfl)<|zf<|zd<|ze<|ze<|za<|e_mv rfl<|e_p (zK ya rfl)<|e_p (zwa rfl rfl)<|zf<|zd<|zG rfl (fun h7=> ?_) (fun h7=> ?_)
 ·
  refine ze<|za<|e_p (zb rfl)<|zf<|zd<|zC<|zk<|zec rQ ?_
  have hv9:(Po.mo l1)=[]:=if_pos om
  exact zu Tryz.results160 (none,0) trivial (zn rfl) (by rw [hv9];rfl) (ho:=oN) ((.e (j:=0) rfl (by rw [hv9]) .n):SelR _ _ _)
 ·
  have hne:l1≠[]:=fun e=>h7 (by rw [← hn1,e];rfl)
  have hl0:=Po.lead_ne hcl hne
  have hlq:=Po.lead_hq hb
  have hiq:=Po.inv_hq hb
  have h1q:yg ((1:Int):Rat)=1:=by decide
  refine zB<|zd<|ze<|zV (OW:=[]) (O:=[]) 12 mixed (.then .ret) kr<|e_dm 1 rfl rfl rfl<|e_dm 2 rfl rfl rfl<|e_pv 3 rfl rfl (zK ya rfl)<|e_pv 4 rfl rfl (zca (z:=(((n1:Nat):Int) - 1)) rfl rfl (w64 om)) ?_
  have e1:((((n1:Nat):Int) - 1):Int)=(((n1 - 1):Nat):Int):=by omega
  rw [e1]
  refine d_vl 5 rfl rfl kr kr rfl rfl (zpa (x0:=(l1.getD (n1 - 1) (0:Rat))) 0 (n1 - 1) rfl ya sz32 rfl (by first|rfl|assumption|(simp;done)|omega) rfl rfl (gD (d:=(0:Rat)) om)) ?_
  rintro ⟨b2,o3,w4,w5⟩ -
  dsimp only [aq,nq,cq]
  refine zNa open_rQ<|e_u 6 rfl rfl (zQ (j:=0) 0 ty32 rfl rfl rfl (.t4 .nil))<|zW (m':=[(15,.agg (cw [w4,w5]).toArray),(2,.slice none 0 0),(0,.slice p1 n1 c1)]) (R':=[qF true w4 w5 (l1.getD (n1 - 1) (0:Rat)),slF rQ p1 c1 l1]) (mR rfl) (List.Perm.refl _) (List.Perm.refl _) ((.of [1,2] rfl):SelR _ _ _)<|zQa (X:=Wd×Wd×Wd×Wd×Nat) (k':=0) (L':=(lb 14 16383)) (fun (u0_1,u0_2,u7_1,u7_2,u11_1)=>([(3,.pointer (some ⟨u11_1,0,none⟩)),(2,.slice none 0 0),(0,.slice p1 n1 c1)],[boxA u11_1 32 (cw [u7_1,u7_2])],[],[qF true u7_1 u7_2 (((1:Int):Rat) / (l1.getD (n1 - 1) (0:Rat))),qF true u0_1 u0_2 ((1:Int):Rat),qF true w4 w5 (l1.getD (n1 - 1) (0:Rat)),slF rQ p1 c1 l1])) ?_ (fun hD0=> ?_)
  ·
   rintro ⟨u0_1,u0_2,u7_1,u7_2,u11_1⟩
   dsimp only [cw]
   refine zH kr<|zd<|ze ?_
   obtain ⟨kq,hkq⟩:∃z:Rat,z=((1:Int):Rat) / (l1.getD (n1 - 1) (0:Rat)):=⟨_,rfl⟩
   rw [← hkq]
   refine za<|e_mv rfl<|e_ru (zc 0 ty32 rfl rfl (.t4 .nil))<|zna (addQe 0 rfl)<|zna (addQE 4 rfl)<|zm rfl rfl (.c rfl (.c rfl .n)) ce74 (zac (p1:=p1) (n1:=n1) (c1:=c1) (l1:=(l1.map some)) (u1:=u7_1) (v1:=u7_2) (x1:=(some kq)) (hn1:=by exact (List.length_map _).trans hn1) (hm1:=by first|omega|rfl|assumption|decide) (hm9:=by first|omega|rfl|assumption|decide) (hb1:=by rw [Po.vals_some];exact fun i=>Nat.le_trans (hb i) dd) (hb2:=by exact Po.bd_one (by show yg kq≤_;rw [hkq,←hn1];exact Nat.le_trans hiq dd)) (hs:=by rw [Po.vals_some];intro k lo n h;exact Nat.le_trans (Po.cv_one_hq (Po.bd_cl hb) (by show yg kq≤_;rw [hkq,←hn1];exact hiq) k lo n h) dd)) (.c (j:=0) rfl (.c (j:=1) rfl .n)) ?_
   rintro ⟨p96,c97⟩ -
   dsimp only [aq,nq,cq]
   refine e_p (zb rfl)<|zf<|zd<|zC ?_
   have e8:(Po.mul (Po.vals (l1.map some)) (Po.vals [(some kq)]):List Rat)=Po.mo l1:=by unfold Po.mo;rw [if_neg om,Po.vals_some,hkq,←hn1];rfl
   rw [e8]
   exact zu Tryz.results160 (p96,c97) trivial (zn rfl) rfl (ho:=oN) (s0 rfl)
  refine zQa (X:=Wd×Wd×Wd×Wd×Nat) (k':=2) (L':=(lb 14 4095)) (fun (u0_1,u0_2,u7_1,u7_2,u11_1)=>([(3,.pointer (some ⟨u11_1,0,none⟩)),(18,.int .i64 0),(17,.agg (cw [u7_1,u7_2]).toArray),(2,.slice none 0 0),(0,.slice p1 n1 c1)],[boxA u11_1 32 (cw [wz,wz])],[],[qF true u7_1 u7_2 (((1:Int):Rat) / (l1.getD (n1 - 1) (0:Rat))),qF true u0_1 u0_2 ((1:Int):Rat),qF true w4 w5 (l1.getD (n1 - 1) (0:Rat)),slF rQ p1 c1 l1])) ?_ (fun hD1=> ?_)
  ·
   rintro ⟨u0_1,u0_2,u7_1,u7_2,u11_1⟩
   dsimp only [cw]
   refine zPb 12 kr ?_
   ·
    refine zv kr rfl rfl rfl rfl rfl sz32 rfl (.t4 .nil)<|e_pv 13 rfl rfl (zb rfl) ?_
    exact zua (hD0 (u0_1,u0_2,u7_1,u7_2,u11_1)) kr (mR rfl) .rfl .rfl ((.of [0,1,2,3] rfl):SelR _ _ _)
  refine zQa (X:=Wd×Wd×Wd×Wd) (k':=3) (L':=(lb 14 2047)) (fun (u0_1,u0_2,u7_1,u7_2)=>([(18,.int .i64 0),(17,.agg (cw [u7_1,u7_2]).toArray),(2,.slice none 0 0),(0,.slice p1 n1 c1)],[],[],[qF true u7_1 u7_2 (((1:Int):Rat) / (l1.getD (n1 - 1) (0:Rat))),qF true u0_1 u0_2 ((1:Int):Rat),qF true w4 w5 (l1.getD (n1 - 1) (0:Rat)),slF rQ p1 c1 l1])) ?_ (fun hD2=> ?_)
  ·
   rintro ⟨u0_1,u0_2,u7_1,u7_2⟩
   dsimp only [cw]
   refine zPb 11 kr ?_
   ·
    refine zoc rfl rfl rfl rfl (zr zr32 rfl) (fun u11_1 _=> ?_)
    exact zua (hD1 (u0_1,u0_2,u7_1,u7_2,u11_1)) kr (mR rfl) .rfl .rfl ((.of [0,1,2,3] rfl):SelR _ _ _)
  refine zQa (X:=Wd×Wd×Nat) (k':=6) (L':=(lb 14 2175)) (fun (u0_1,u0_2,u11_1)=>([(3,.pointer (some ⟨u11_1,0,none⟩)),(9,.agg (cw [u0_1,u0_2]).toArray),(15,.agg (cw [w4,w5]).toArray),(2,.slice none 0 0),(0,.slice p1 n1 c1)],[boxA u11_1 32 (cw [wz,wz])],[],[qF true u0_1 u0_2 ((1:Int):Rat),qF true w4 w5 (l1.getD (n1 - 1) (0:Rat)),slF rQ p1 c1 l1])) ?_ (fun hD3=> ?_)
  ·
   rintro ⟨u0_1,u0_2,u11_1⟩
   dsimp only [cw]
   refine zPb 7 kr ?_
   ·
    refine zp rfl rfl rfl rfl (.c rfl (.c rfl .n)) ce161 (zsb (k1:=true) (u1:=u0_1) (v1:=u0_2) (q1:=((1:Int):Rat)) (k2:=true) (u2:=w4) (v2:=w5) (q2:=(l1.getD (n1 - 1) (0:Rat))) (hl:=by have h9:=hb (n1 - 1);omega) (hy:=by rw [← hn1];exact hl0)) (.c (j:=0) rfl (.c (j:=1) rfl .n)) ?_
    rintro ⟨u7_1,u7_2⟩ -
    dsimp only [aq,nq,cq]
    refine e_dm 8 rfl rfl rfl<|e_pv 9 rfl rfl (zq rfl rfl)<|e_pv 10 rfl rfl (zq rfl rfl) ?_
    exact zua (hD1 (u0_1,u0_2,u7_1,u7_2,u11_1)) kr (mR rfl) .rfl .rfl ((.of [0,1,2,3] rfl):SelR _ _ _)
  refine zQa (X:=Wd×Wd) (k':=7) (L':=(lb 14 127)) (fun (u0_1,u0_2)=>([(9,.agg (cw [u0_1,u0_2]).toArray),(15,.agg (cw [w4,w5]).toArray),(2,.slice none 0 0),(0,.slice p1 n1 c1)],[],[],[qF true u0_1 u0_2 ((1:Int):Rat),qF true w4 w5 (l1.getD (n1 - 1) (0:Rat)),slF rQ p1 c1 l1])) ?_ (fun hD4=> ?_)
  ·
   rintro ⟨u0_1,u0_2⟩
   dsimp only [cw]
   refine zQe 7 11 kr ?_ ?_
   ·
    refine zp rfl rfl rfl rfl (.c rfl (.c rfl .n)) ce161 (zsb (k1:=true) (u1:=u0_1) (v1:=u0_2) (q1:=((1:Int):Rat)) (k2:=true) (u2:=w4) (v2:=w5) (q2:=(l1.getD (n1 - 1) (0:Rat))) (hl:=by have h9:=hb (n1 - 1);omega) (hy:=by rw [← hn1];exact hl0)) (.c (j:=0) rfl (.c (j:=1) rfl .n)) ?_
    rintro ⟨u7_1,u7_2⟩ -
    dsimp only [aq,nq,cq]
    refine e_dm 8 rfl rfl rfl<|e_pv 9 rfl rfl (zq rfl rfl)<|e_pv 10 rfl rfl (zq rfl rfl) ?_
    exact zua (hD2 (u0_1,u0_2,u7_1,u7_2)) kr (mR rfl) .rfl .rfl ((.of [0,1,2,3] rfl):SelR _ _ _)
   ·
    refine zoc rfl rfl rfl rfl (zr zr32 rfl) (fun u11_1 _=> ?_)
    exact zua (hD3 (u0_1,u0_2,u11_1)) kr (mR rfl) .rfl .rfl ((.of [0,1,2] rfl):SelR _ _ _)
  refine zQa (X:=Nat) (k':=7) (L':=(lb 14 2174)) (fun u11_1=>([(3,.pointer (some ⟨u11_1,0,none⟩)),(15,.agg (cw [w4,w5]).toArray),(2,.slice none 0 0),(0,.slice p1 n1 c1)],[boxA u11_1 32 (cw [wz,wz])],[],[qF true w4 w5 (l1.getD (n1 - 1) (0:Rat)),slF rQ p1 c1 l1])) ?_ (fun hD5=> ?_)
  ·
   rintro u11_1
   dsimp only [cw]
   refine zPb 0 kr ?_
   ·
    refine zp rfl rfl rfl rfl (.c rfl .n) ce58 (zxa (z:=1) (hz:=by first|omega|rfl|assumption|decide)) (.n) ?_
    rintro ⟨u0_1,u0_2⟩ -
    dsimp only [aq,nq,cq]
    exact zua (hD3 (u0_1,u0_2,u11_1)) kr (mR rfl) .rfl .rfl ((.of [0,1,2] rfl):SelR _ _ _)
  refine zQe 0 11 kr ?_ ?_
  ·
   refine zp rfl rfl rfl rfl (.c rfl .n) ce58 (zxa (z:=1) (hz:=by first|omega|rfl|assumption|decide)) (.n) ?_
   rintro ⟨u0_1,u0_2⟩ -
   dsimp only [aq,nq,cq]
   exact zua (hD4 (u0_1,u0_2)) kr (mR rfl) .rfl .rfl ((.of [0,1,2] rfl):SelR _ _ _)
  ·
   refine zoc rfl rfl rfl rfl (zr zr32 rfl) (fun u11_1 _=> ?_)
   exact zua (hD5 u11_1) kr (mR rfl) .rfl .rfl ((.of [0,1] rfl):SelR _ _ _)
theorem zlg {p1:Option Addr} {n1:Nat} {c1:Nat} {l1:List (Option Rat)} {p2:Option Addr} {n2:Nat} {c2:Nat} {l2:List (Option Rat)} (hn1:l1.length=n1) (hm1:n1≤190) (hn2:l2.length=n2) (hm2:n2≤190) (hok:Po.gcok (Po.vals l1) (Po.vals l2)):Con ye 159 [.slice p1 n1 c1,.slice p2 n2 c2] [] [slF rE p1 c1 l1,slF rE p2 c2 l2] (Y:=(Option Addr)×Nat) (fun y=>True) (fun y=> .slice (y.1) ((Po.gcd (Po.vals l1) (Po.vals l2)).length) (y.2)) (fun y=>[]) (fun y=>[slF rQ (y.1) (y.2) (Po.gcd (Po.vals l1) (Po.vals l2))]):=by
 refine zl Tryz.func159 rfl rfl rfl (fun c=> ?_)
 show RunC _ _ _ _ _ [(0,.slice p1 n1 c1),(1,.slice p2 n2 c2)] [] [slF rE p1 c1 l1,slF rE p2 c2 l2]
 refine zU 0 rfl (fun hL0=> ?_)
 refine zU 1 rfl (fun hL1=> ?_)
 have hPl:(Po.cl (Po.vals l1)).length≤n1:=by rw [← hn1,←Po.vals_len l1];exact Po.cl_le_len _
 have hQl:(Po.cl (Po.vals l2)).length≤n2:=by rw [← hn2,←Po.vals_len l2];exact Po.cl_le_len _
 have hPm:=Po.mo_len (Po.cl (Po.vals l1))
 have hQm:=Po.mo_len (Po.cl (Po.vals l2))
 refine ze<|za<|e_p (zb rfl)<|zf<|zd<|ze<|za<|e_mv rfl<|zm rfl rfl (.c rfl .n) ce67 (zLa (p1:=p1) (n1:=n1) (c1:=c1) (l1:=l1) (hn1:=ass) (hm1:=by first|omega|rfl|assumption|exact Po.cl_cl _)) (.c (j:=0) rfl .n) ?_
 rintro ⟨p91,c92⟩ -
 dsimp only [aq,nq,cq]
 refine zm rfl rfl (.c rfl .n) ce160 (zbc (p1:=p91) (n1:=(Po.cl (Po.vals l1)).length) (c1:=c92) (l1:=(Po.cl (Po.vals l1))) (hn1:=by first|omega|rfl|assumption|exact Po.cl_cl _) (hm1:=by first|omega|rfl|assumption|exact Po.cl_cl _) (hcl:=by first|omega|rfl|assumption|exact Po.cl_cl _) (hb:=by exact Po.bd_cl hok.1)) (.c (j:=0) rfl .n) ?_
 rintro ⟨p93,c94⟩ -
 dsimp only [aq,nq,cq]
 refine e_mv rfl<|zm rfl rfl (.c rfl .n) ce67 (zLa (p1:=p2) (n1:=n2) (c1:=c2) (l1:=l2) (hn1:=ass) (hm1:=by first|omega|rfl|assumption|exact Po.cl_cl _)) (.c (j:=3) rfl .n) ?_
 rintro ⟨p95,c96⟩ -
 dsimp only [aq,nq,cq]
 refine zm rfl rfl (.c rfl .n) ce160 (zbc (p1:=p95) (n1:=(Po.cl (Po.vals l2)).length) (c1:=c96) (l1:=(Po.cl (Po.vals l2))) (hn1:=by first|omega|rfl|assumption|exact Po.cl_cl _) (hm1:=by first|omega|rfl|assumption|exact Po.cl_cl _) (hcl:=by first|omega|rfl|assumption|exact Po.cl_cl _) (hb:=by exact Po.bd_cl hok.2.1)) (.c (j:=0) rfl .n) ?_
 rintro ⟨p97,c98⟩ -
 dsimp only [aq,nq,cq]
 refine e_p (zb rfl)<|e_p (zb rfl)<|zf<|zd<|ze<|zx<|zja (X:=Nat×(List Rat)×(List Rat)×(Option Addr)×Nat×(Option Addr)×Nat) (fun x:Nat×(List Rat)×(List Rat)×(Option Addr)×Nat×(Option Addr)×Nat=>(x.2.1.length≤190∧x.2.2.1.length≤x.1∧x.1≤190)∧(Po.cl x.2.1=x.2.1∧Po.cl x.2.2.1=x.2.2.1)∧Po.gok x.1 x.2.1 x.2.2.1∧Po.ge x.1 x.2.1 x.2.2.1=(Po.gcd (Po.vals l1) (Po.vals l2))) (fun x=>[(1,.slice (x.2.2.2.2.2.1) (x.2.2.1.length) (x.2.2.2.2.2.2)),(0,.slice (x.2.2.2.1) (x.2.1.length) (x.2.2.2.2.1)),(4,.slice none 0 0)]) (fun x=>[]) (fun x=>[slF rQ (x.2.2.2.1) (x.2.2.2.2.1) (x.2.1),slF rQ (x.2.2.2.2.2.1) (x.2.2.2.2.2.2) (x.2.2.1),slF rQ p97 c98 (Po.mo (Po.cl (Po.vals l2))),slF rQ p95 c96 (Po.cl (Po.vals l2)),slF rQ p93 c94 (Po.mo (Po.cl (Po.vals l1))),slF rQ p91 c92 (Po.cl (Po.vals l1)),slF rE p1 c1 l1,slF rE p2 c2 l2]) (fun x:Nat×(List Rat)×(List Rat)×(Option Addr)×Nat×(Option Addr)×Nat=>x.2.2.1.length) (((Po.cl (Po.vals l2)).length),(Po.mo (Po.cl (Po.vals l1))),(Po.mo (Po.cl (Po.vals l2))),p93,c94,p97,c98) (show ((Po.mo (Po.cl (Po.vals l1))).length≤190∧(Po.mo (Po.cl (Po.vals l2))).length≤((Po.cl (Po.vals l2)).length)∧((Po.cl (Po.vals l2)).length)≤190)∧(Po.cl (Po.mo (Po.cl (Po.vals l1)))=(Po.mo (Po.cl (Po.vals l1)))∧Po.cl (Po.mo (Po.cl (Po.vals l2)))=(Po.mo (Po.cl (Po.vals l2))))∧Po.gok ((Po.cl (Po.vals l2)).length) (Po.mo (Po.cl (Po.vals l1))) (Po.mo (Po.cl (Po.vals l2)))∧Po.ge ((Po.cl (Po.vals l2)).length) (Po.mo (Po.cl (Po.vals l1))) (Po.mo (Po.cl (Po.vals l2)))=(Po.gcd (Po.vals l1) (Po.vals l2)) from by exact ⟨⟨by omega,by omega,by omega⟩,⟨Po.mo_cl _,Po.mo_cl _⟩,hok.2.2,rfl⟩) (mR rfl) (ho:=oN) ((.of [2,0,0,1,2,3,4,5] rfl):SelR _ _ _) ?_
 rintro ⟨f,p,q,pp,cp,pq,ck⟩ hI
 replace hI:(p.length≤190∧q.length≤f∧f≤190)∧(Po.cl p=p∧Po.cl q=q)∧Po.gok f p q∧Po.ge f p q=(Po.gcd (Po.vals l1) (Po.vals l2)):=hI
 try dsimp only
 obtain ⟨⟨hpl,hqf,hf⟩,⟨hcp,hcq⟩,hgk,hge⟩:=hI
 refine ze<|ze<|za<|e_mv rfl<|e_p (zK ya rfl)<|e_p (zCa rfl rfl)<|zf<|zd<|zG rfl (fun h16=> ?_) (fun h16=> ?_)
 ·
  have hg:=Po.gok_yes hgk (show q.length≠0 by omega) om
  have hrl:=(Po.dqr_len p q).2
  refine zB<|zd<|zx<|ze<|za<|e_mv rfl<|e_mv rfl<|zna (addQE 0 rfl)<|zna (addQE 2 rfl)<|zm rfl rfl (.c rfl (.c rfl .n)) ce150 (zkc (p1:=pp) (n1:=p.length) (c1:=cp) (l1:=(p.map some)) (p2:=pq) (n2:=q.length) (c2:=ck) (l2:=(q.map some)) (hn1:=by exact List.length_map _) (hm1:=by first|omega|rfl|assumption|exact Po.cl_cl _) (hn2:=by exact List.length_map _) (hm2:=by first|omega|rfl|assumption|exact Po.cl_cl _) (hm12:=by first|omega|rfl|assumption|exact Po.cl_cl _) (hb2:=by rw [Po.vals_some];exact hg.1.1) (hok:=by rw [Po.vals_some,Po.vals_some];exact hg.1.2)) (.c (j:=1) rfl (.c (j:=0) rfl .n)) ?_
  rintro ⟨p89,c810,p911,c912⟩ -
  dsimp only [aq,nq,cq]
  refine e_mv rfl<|e_p (zq rfl rfl)<|e_p (zq rfl rfl)<|e_p (zq rfl rfl)<|e_p (zb rfl)<|e_p (zb rfl)<|e_p (zb rfl)<|zf<|zd ?_
  have e13:(Po.dr (Po.vals (p.map some)) (Po.vals (q.map some)):List Rat)=Po.dr p q:=by rw [Po.vals_some,Po.vals_some]
  rw [e13]
  refine za<|e_mv rfl<|e_mv rfl<|zm rfl rfl (.c rfl .n) ce160 (zbc (p1:=p911) (n1:=(Po.dr p q).length) (c1:=c912) (l1:=(Po.dr p q)) (hn1:=by first|omega|rfl|assumption|exact Po.cl_cl _) (hm1:=by first|omega|rfl|assumption|exact Po.cl_cl _) (hcl:=by exact Po.dr_cl _ _) (hb:=by exact hg.2.1)) (.c (j:=1) rfl .n) ?_
  rintro ⟨p914,c915⟩ -
  dsimp only [aq,nq,cq]
  refine e_p (zb rfl)<|e_p (zb rfl)<|zf<|zP<|zda ((f - 1),q,(Po.mo (Po.dr p q)),pq,ck,p914,c915) (show (q.length≤190∧(Po.mo (Po.dr p q)).length≤(f - 1)∧(f - 1)≤190)∧(Po.cl q=q∧Po.cl (Po.mo (Po.dr p q))=(Po.mo (Po.dr p q)))∧Po.gok (f - 1) q (Po.mo (Po.dr p q))∧Po.ge (f - 1) q (Po.mo (Po.dr p q))=(Po.gcd (Po.vals l1) (Po.vals l2)) from by have h9:=Po.mdr_len (p:=p) hcq (show q.length≠0 by omega) hqf;exact ⟨⟨by omega,h9,by omega⟩,⟨hcq,Po.mo_cl _⟩,hg.2.2,(Po.ge_yes om hqf).symm.trans hge⟩) (by have h9:=Po.mo_len (Po.dr p q);have h8:=Po.dr_less (p:=p) hcq (show q.length≠0 by omega);(show (Po.mo (Po.dr p q)).length<q.length;omega)) (mR rfl) (ho:=oN) ((.of [6,0,7,8,9,10,11,12] rfl):SelR _ _ _)
 ·
  refine zfa<|zi<|zi<|zw<|zd<|ze<|za<|e_mv rfl<|e_p (zb rfl)<|zf<|zd<|zC ?_
  have hv9:p=(Po.gcd (Po.vals l1) (Po.vals l2)):=(Po.ge_nil om).symm.trans hge
  exact zu Tryz.results159 (pp,cp) trivial (zn rfl) (by rw [← hv9]) (ho:=oN) ((.e (j:=0) rfl (by rw [← hv9]) .n):SelR _ _ _)
theorem zmg {p1:Option Addr} {n1:Nat} {c1:Nat} {l1:List (Option Rat)} (hn1:l1.length=n1) (hm1:n1≤190) (hok:Po.sqok (Po.vals l1)):Con ye 149 [.slice p1 n1 c1] [] [slF rE p1 c1 l1] (Y:=(Option Addr)×Nat) (fun y=>True) (fun y=> .slice (y.1) ((Po.sqf (Po.vals l1)).length) (y.2)) (fun y=>[]) (fun y=>[slF rQ (y.1) (y.2) (Po.sqf (Po.vals l1))]):=by
 refine zl Tryz.func149 rfl rfl rfl (fun c=> ?_)
 show RunC _ _ _ _ _ [(0,.slice p1 n1 c1)] [] [slF rE p1 c1 l1]
 refine zU 0 rfl (fun hL0=> ?_)
 refine ze<|za<|e_p (zb rfl)<|zf<|zd<|ze<|za<|e_mv rfl<|zm rfl rfl (.c rfl .n) ce67 (zLa (p1:=p1) (n1:=n1) (c1:=c1) (l1:=l1) (hn1:=ass) (hm1:=by first|omega|rfl|assumption|exact Po.cl_cl _)) (.c (j:=0) rfl .n) ?_
 rintro ⟨p91,c92⟩ -
 dsimp only [aq,nq,cq]
 refine e_p (zb rfl)<|zf<|zd<|ze<|ze ?_
 obtain ⟨P,hP⟩:∃z,z=(Po.cl (Po.vals l1)):=⟨_,rfl⟩
 have e3:(Po.cl (Po.vals l1):List Rat)=P:=by exact hP.symm
 rw [e3]
 have hPl:P.length≤n1:=by rw [hP,←hn1,←Po.vals_len l1];exact Po.cl_le_len _
 have hPd:=Po.der_len P
 refine za<|e_mv rfl<|e_p (zK ya rfl)<|e_p (zwa rfl rfl)<|zf<|zd<|zG rfl (fun h10=> ?_) (fun h10=> ?_)
 ·
  refine ze<|za<|e_p (zb rfl)<|zf<|zd<|zC<|zk<|zec rQ ?_
  have hv9:(Po.sqf (Po.vals l1))=[]:=if_pos (by rw [← hP];omega)
  exact zu Tryz.results149 (none,0) trivial (zn rfl) (by rw [hv9];rfl) (ho:=oN) ((.e (j:=0) rfl (by rw [hv9]) .n):SelR _ _ _)
 ·
  obtain ⟨hk1,hk2,hk3⟩:=hok.2.2 (by rw [← hP];omega)
  rw [← hP] at hk1 hk2 hk3
  have hgl:=Po.gcd_len P (Po.der P)
  have hdl:=(Po.dqr_len P (Po.gcd P (Po.der P))).1
  refine zB<|zd<|ze<|za<|e_mv rfl<|e_mv rfl<|e_mv rfl<|zna (addQE 0 rfl)<|zm rfl rfl (.c rfl .n) ce76 (zjc (p1:=p91) (n1:=(P).length) (c1:=c92) (l1:=((P).map some)) (hn1:=by exact List.length_map _) (hm1:=by first|omega|rfl|assumption|exact Po.cl_cl _) (hb1:=by intro i;rw [Po.msome,hP,Po.cl_get];exact Nat.le_trans (hok.1 i) dd)) (.c (j:=0) rfl .n) ?_
  rintro ⟨p94,c95⟩ -
  dsimp only [aq,nq,cq]
  have e6:(Po.der (Po.vals ((P).map some)):List Rat)=Po.der P:=by rw [Po.vals_some]
  rw [e6]
  refine zna (addQE 0 rfl)<|zm rfl rfl (.c rfl (.c rfl .n)) ce159 (zlg (p1:=p91) (n1:=(P).length) (c1:=c92) (l1:=((P).map some)) (p2:=p94) (n2:=(Po.der P).length) (c2:=c95) (l2:=((Po.der P).map some)) (hn1:=by exact List.length_map _) (hm1:=by first|omega|rfl|assumption|exact Po.cl_cl _) (hn2:=by exact List.length_map _) (hm2:=by first|omega|rfl|assumption|exact Po.cl_cl _) (hok:=by rw [Po.vals_some,Po.vals_some];exact hk1)) (.c (j:=2) rfl (.c (j:=0) rfl .n)) ?_
  rintro ⟨p97,c98⟩ -
  dsimp only [aq,nq,cq]
  have e9:(Po.gcd (Po.vals ((P).map some)) (Po.vals ((Po.der P).map some)):List Rat)=Po.gcd P (Po.der P):=by rw [Po.vals_some,Po.vals_some]
  rw [e9]
  refine zna (addQE 0 rfl)<|zm rfl rfl (.c rfl (.c rfl .n)) ce150 (zkc (p1:=p91) (n1:=(P).length) (c1:=c92) (l1:=((P).map some)) (p2:=p97) (n2:=(Po.gcd P (Po.der P)).length) (c2:=c98) (l2:=((Po.gcd P (Po.der P)).map some)) (hn1:=by exact List.length_map _) (hm1:=by first|omega|rfl|assumption|exact Po.cl_cl _) (hn2:=by exact List.length_map _) (hm2:=by first|omega|rfl|assumption|exact Po.cl_cl _) (hm12:=by first|omega|rfl|assumption|exact Po.cl_cl _) (hb2:=by rw [Po.vals_some];exact hk2.1) (hok:=by rw [Po.vals_some,Po.vals_some];exact hk2.2)) (.c (j:=4) rfl (.c (j:=0) rfl .n)) ?_
  rintro ⟨p810,c811,p912,c913⟩ -
  dsimp only [aq,nq,cq]
  refine e_mv rfl<|e_p (zq rfl rfl)<|e_p (zq rfl rfl)<|e_p (zq rfl rfl)<|e_p (zb rfl)<|e_p (zb rfl)<|e_p (zb rfl)<|zf<|zd<|ze ?_
  have e14:(Po.dq (Po.vals ((P).map some)) (Po.vals ((Po.gcd P (Po.der P)).map some)):List Rat)=Po.dq P (Po.gcd P (Po.der P)):=by rw [Po.vals_some,Po.vals_some]
  rw [e14]
  refine za<|e_mv rfl<|zm rfl rfl (.c rfl .n) ce160 (zbc (p1:=p810) (n1:=(Po.dq P (Po.gcd P (Po.der P))).length) (c1:=c811) (l1:=(Po.dq P (Po.gcd P (Po.der P)))) (hn1:=by first|omega|rfl|assumption|exact Po.cl_cl _) (hm1:=by first|omega|rfl|assumption|exact Po.cl_cl _) (hcl:=by exact Po.dq_cl _ _) (hb:=by exact hk3)) (.c (j:=0) rfl .n) ?_
  rintro ⟨p915,c916⟩ -
  dsimp only [aq,nq,cq]
  refine e_p (zb rfl)<|zf<|zd<|zC ?_
  have hv9:(Po.sqf (Po.vals l1))=Po.mo (Po.dq P (Po.gcd P (Po.der P))):=by unfold Po.sqf;rw [← hP,if_neg om]
  exact zu Tryz.results149 (p915,c916) trivial (zn rfl) (by rw [hv9]) (ho:=oN) ((.e (j:=0) rfl (by rw [hv9]) .n):SelR _ _ _)
end Go.Proofs.YtahiajepeodhoaaGreat.Sp
namespace Go.Proofs.YtahiajepeodhoaaGreat.Sp
open Go
set_option linter.unusedVariables false
set_option maxRecDepth 100000
set_option maxHeartbeats 8000000
theorem zNe {pL:Option Addr} {nL:Nat} {cL:Nat} {L:List (List Rat)} {u1:Wd} {v1:Wd} {x1:Rat} (hnL:L.length=nL) (hmL:nL≤400) (hx:yg x1≤100000000000) (hv:Po.vok L x1):Con ye 151 [.slice pL nL cL,.agg #[u1.b,u1.l,v1.b,v1.l]] [] [slF (rS rQ) pL cL L,qF true u1 v1 x1] (Y:=Unit) (fun y=>True) (fun y=> .int .i64 (Po.vr L x1)) (fun y=>[]) (fun y=>[]):=by
 refine zl Tryz.func151 rfl rfl rfl (fun c=> ?_)
 show RunC _ _ _ _ _ [(0,.slice pL nL cL),(1,.agg #[u1.b,u1.l,v1.b,v1.l])] [] [slF (rS rQ) pL cL L,qF true u1 v1 x1]
 refine zU 0 rfl (fun hL0=> ?_)
 refine ze<|za<|zI rfl rfl (zR rfl rfl) (fun b1=> ?_)
 refine e_p (zb rfl)<|zf<|zd<|ze<|za<|e_p (zb rfl)<|e_p (zb rfl)<|zf<|zd<|ze<|ze<|za<|e_mv rfl<|e_p (zK yd rfl)<|e_mv rfl<|zf<|zd<|zx<|zja (X:=Nat×Int×Int) (fun x:Nat×Int×Int=>(x.1≤nL∧0≤x.2.1∧x.2.1≤x.1∧ -1≤x.2.2∧x.2.2≤1)∧Po.va x1 (L.drop x.1) x.2.1 x.2.2=Po.vr L x1) (fun x=>[(6,.int .i64 (x.2.2)),(5,.int .i64 (x.2.1)),(12,.int .i64 ((x.1:Nat):Int)),(11,.int .i64 ((nL:Nat):Int)),(10,.slice pL nL cL),(4,.int .i64 0),(3,.pointer (some ⟨b1,0,none⟩))]) (fun x=>[boxA b1 32 (cw [u1,v1])]) (fun x=>[slF (rS rQ) pL cL L,qF true u1 v1 x1]) (fun x:Nat×Int×Int=>nL - x.1) (0,0,0) (show (0≤nL∧0≤0∧0≤0∧ -1≤0∧0≤1)∧Po.va x1 (L.drop 0) 0 0=Po.vr L x1 from by exact ⟨by omega,rfl⟩) ((.c rfl (.c rfl (.e rfl cgs (.of rfl)))):SubM _ _) (ho:=(o0 rfl)) ((.of [0,1] rfl):SelR _ _ _) ?_
 rintro ⟨i,n,s⟩ hI
 replace hI:(i≤nL∧0≤n∧n≤i∧ -1≤s∧s≤1)∧Po.va x1 (L.drop i) n s=Po.vr L x1:=hI
 try dsimp only [cw]
 obtain ⟨⟨hi,hn0,hni,hs1,hs2⟩,hvr⟩:=hI
 have hss: -1≤s∧s≤1:=⟨hs1,hs2⟩
 refine ze<|za<|e_p (zX rfl rfl)<|zf<|zd<|ze<|zG rfl (fun h13=> ?_) (fun h13=> ?_)
 ·
  have hiL:i<nL:=by omega
  have hw:=hv (L.getD i []) (by rw [List.getD_eq_getElem?_getD,List.getElem?_eq_getElem om];exact List.getElem_mem _)
  have hva:=Po.va_step x1 (show i<L.length by omega) n s
  refine zB<|zd<|ze<|zx<|ze<|za<|r_vl rfl rfl (zpa (x0:=(L.getD i [])) 0 i rfl yd sz60 rfl (by first|rfl|assumption|(simp;done)|omega) rfl rfl (gD (d:=[]) om)) ?_
  rintro ⟨b2,o3,p4,c5⟩ -
  dsimp only [aq,nq,cq]
  refine e_ru (zt (j:=0) 0 ty60 rfl rfl rfl rfl)<|e_p (zb rfl)<|zf<|zd<|ze<|za<|e_mv rfl<|e_ru (zc 0 ty32 rfl rfl (.t4 .nil))<|zna (addQe 3 rfl)<|zna (addQE 2 rfl)<|zm rfl rfl (.c rfl (.c rfl .n)) ce70 (zmd (p1:=p4) (n1:=(L.getD i []).length) (c1:=c5) (l1:=((L.getD i []).map some)) (u1:=u1) (v1:=v1) (x1:=(some x1)) (hn1:=by exact List.length_map _) (hm1:=by exact Nat.le_trans hw.1 dd) (hx:=by exact Nat.le_trans hx dd) (hb1:=by intro j;rw [Po.msome];exact Nat.le_trans (hw.2.1 j) dd) (hs:=by intro j;rw [Po.vals_some];exact hw.2.2 j)) (.c (j:=0) rfl (.c (j:=1) rfl .n)) ?_
  rintro ⟨w36,w47⟩ -
  dsimp only [aq,nq,cq]
  have e8:(Po.ev ((some x1).getD 0) (Po.vals ((L.getD i []).map some)):Rat)=Po.ev x1 (L.getD i []):=by rw [Po.vals_some];rfl
  rw [e8]
  refine zJ rfl rfl (.c rfl .n) ce98 (zFb (k1:=true) (u1:=w36) (v1:=w47) (q1:=(Po.ev x1 (L.getD i [])))) (.c (j:=0) rfl .n)<|e_p (zb rfl)<|zf<|zd<|ze<|ze<|za<|e_mv rfl<|e_p (zwa rfl rfl)<|zf<|zd<|zG rfl (fun h21=> ?_) (fun h21=> ?_)
  ·
   rw [if_pos h21] at hva
   refine zfa<|zi<|zw<|zd<|za<|e_p (zL (z:=(((i+1):Nat):Int)) rfl rfl (w64 om))<|e_mv rfl<|zf<|zda ((i+1),n,s) (show ((i+1)≤nL∧0≤n∧n≤(i+1)∧ -1≤s∧s≤1)∧Po.va x1 (L.drop (i+1)) n s=Po.vr L x1 from by exact ⟨by omega,hva.symm.trans hvr⟩) (by show nL - (i+1)<nL - i;omega) (mR rfl) (ho:=(o0 rfl)) ((.of [5,6] rfl):SelR _ _ _)
  ·
   rw [if_neg h21] at hva
   refine zB<|zd<|ze<|ze<|za<|e_mv rfl<|e_mv rfl<|e_p (zpb (z:=(s*yh (Po.ev x1 (L.getD i [])))) rfl rfl (w64 (by exact ⟨rfl,Po.sg_mul hss (Big.sgq_rng _)⟩)))<|e_p (zX rfl rfl)<|zf<|zd<|zG rfl (fun h25=> ?_) (fun h25=> ?_)
   ·
    rw [if_pos h25] at hva
    refine za<|e_mv rfl<|e_p (zL (z:=(n+1)) rfl rfl (w64 om))<|e_p (zb rfl)<|zf<|zd<|za<|e_mv rfl<|e_p (zb rfl)<|zf<|zP<|zd<|za<|e_p (zL (z:=(((i+1):Nat):Int)) rfl rfl (w64 om))<|e_mv rfl<|zf<|zda ((i+1),(n+1),yh (Po.ev x1 (L.getD i []))) (show ((i+1)≤nL∧0≤(n+1)∧(n+1)≤(i+1)∧ -1≤(yh (Po.ev x1 (L.getD i [])))∧(yh (Po.ev x1 (L.getD i [])))≤1)∧Po.va x1 (L.drop (i+1)) (n+1) (yh (Po.ev x1 (L.getD i [])))=Po.vr L x1 from by have h9:=Big.sgq_rng (Po.ev x1 (L.getD i []));exact ⟨by omega,hva.symm.trans hvr⟩) (by show nL - (i+1)<nL - i;omega) (mR rfl) (ho:=(o0 rfl)) ((.of [5,6] rfl):SelR _ _ _)
   ·
    rw [if_neg h25] at hva
    refine zB<|zd<|za<|e_mv rfl<|e_p (zb rfl)<|zf<|zP<|zd<|za<|e_p (zL (z:=(((i+1):Nat):Int)) rfl rfl (w64 om))<|e_mv rfl<|zf<|zda ((i+1),n,yh (Po.ev x1 (L.getD i []))) (show ((i+1)≤nL∧0≤n∧n≤(i+1)∧ -1≤(yh (Po.ev x1 (L.getD i [])))∧(yh (Po.ev x1 (L.getD i [])))≤1)∧Po.va x1 (L.drop (i+1)) n (yh (Po.ev x1 (L.getD i [])))=Po.vr L x1 from by have h9:=Big.sgq_rng (Po.ev x1 (L.getD i []));exact ⟨by omega,hva.symm.trans hvr⟩) (by show nL - (i+1)<nL - i;omega) (mR rfl) (ho:=(o0 rfl)) ((.of [5,6] rfl):SelR _ _ _)
 ·
  refine zfa<|zi<|zi<|zw<|zd<|ze<|za<|e_mv rfl<|e_p (zb rfl)<|zf<|zd<|zC ?_
  have hv9:n=Po.vr L x1:=by rw [← hvr,List.drop_eq_nil_of_le om];rfl
  exact zu Tryz.results151 () trivial (zn rfl) (by rw [hv9]) (ho:=oN) sN
theorem zng {pL:Option Addr} {nL:Nat} {cL:Nat} {L:List (List Rat)} {u1:Wd} {v1:Wd} {x1:Rat} {u2:Wd} {v2:Wd} {x2:Rat} (hnL:L.length=nL) (hmL:nL≤400) (hx1:yg x1≤100000000000) (hx2:yg x2≤100000000000) (hv1:Po.vok L x1) (hv2:Po.vok L x2):Con ye 131 [.slice pL nL cL,.agg #[u1.b,u1.l,v1.b,v1.l],.agg #[u2.b,u2.l,v2.b,v2.l]] [] [slF (rS rQ) pL cL L,qF true u1 v1 x1,qF true u2 v2 x2] (Y:=Unit) (fun y=>True) (fun y=> .int .i64 (Po.bt L x1 x2)) (fun y=>[]) (fun y=>[]):=by
 refine zl Tryz.func131 rfl rfl rfl (fun c=> ?_)
 show RunC _ _ _ _ _ [(0,.slice pL nL cL),(1,.agg #[u1.b,u1.l,v1.b,v1.l]),(2,.agg #[u2.b,u2.l,v2.b,v2.l])] [] [slF (rS rQ) pL cL L,qF true u1 v1 x1,qF true u2 v2 x2]
 refine zU 0 rfl (fun hL0=> ?_)
 have g1:=Po.vr_rng L x1
 have g2:=Po.vr_rng L x2
 refine ze<|za<|zI rfl rfl (zR rfl rfl) (fun b1=> ?_)
 refine zI rfl rfl (zR rfl rfl) (fun b2=> ?_)
 refine e_p (zb rfl)<|zf<|zd<|ze<|zV (OW:=[]) (O:=[boxA b2 32 (cw [u2,v2]),boxA b1 32 (cw [u1,v1])]) 100000 mixed (.then .ret) kr<|e_dm 0 rfl rfl rfl<|e_u 1 rfl rfl (zc 1 ty32 rfl rfl (.t4 .nil))<|e_dm 3 rfl rfl rfl<|e_u 4 rfl rfl (zc 0 ty32 rfl rfl (.t4 .nil))<|e_one 2 (zbb rfl rfl rfl rfl (.c rfl (.c rfl .n)) ce151 (zNe (pL:=pL) (nL:=nL) (cL:=cL) (L:=L) (u1:=u1) (v1:=v1) (x1:=x1) (hnL:=ass) (hmL:=ass) (hx:=ass) (hv:=ass)) (.c (j:=0) rfl (.c (j:=1) rfl .n)) ?_)
 refine e_one 5 (zbb rfl rfl rfl rfl (.c rfl (.c rfl .n)) ce151 (zNe (pL:=pL) (nL:=nL) (cL:=cL) (L:=L) (u1:=u2) (v1:=v2) (x1:=x2) (hnL:=ass) (hmL:=ass) (hx:=ass) (hv:=ass)) (.c (j:=0) rfl (.c (j:=2) rfl .n)) ?_)
 refine e_pv 6 rfl rfl (zca (z:=((Po.vr L x1) - (Po.vr L x2))) rfl rfl (w64 om))<|e_pv 7 rfl rfl (zb rfl)<|zH kr<|zd<|zC ?_
 exact zu Tryz.results131 () trivial (zn rfl) rfl (ho:=oN) sN
end Go.Proofs.YtahiajepeodhoaaGreat.Sp
namespace Go.Proofs.YtahiajepeodhoaaGreat.Sp
open Go
set_option linter.unusedVariables false
set_option maxRecDepth 100000
set_option maxHeartbeats 8000000
theorem zif {p1:Option Addr} {n1:Nat} {c1:Nat} {l1:List (Option Rat)} (hn1:l1.length=n1) (hm1:n1≤190) (hok:Po.sok (Po.vals l1)):Con ye 130 [.slice p1 n1 c1] [] [slF rE p1 c1 l1] (Y:=(Option Addr)×Nat) (fun y=>True) (fun y=> .slice (y.1) ((Po.sturm (Po.vals l1)).length) (y.2)) (fun y=>[]) (fun y=>[slF (rS rQ) (y.1) (y.2) (Po.sturm (Po.vals l1))]):=by
 refine zl Tryz.func130 rfl rfl rfl (fun c=> ?_)
 show RunC _ _ _ _ _ [(0,.slice p1 n1 c1)] [] [slF rE p1 c1 l1]
 refine zU 0 rfl (fun hL0=> ?_)
 refine ze<|za<|e_p (zb rfl)<|zf<|zd<|ze<|za<|e_mv rfl<|zm rfl rfl (.c rfl .n) ce149 (zmg (p1:=p1) (n1:=n1) (c1:=c1) (l1:=l1) (hn1:=ass) (hm1:=ass) (hok:=by exact hok.1)) (.c (j:=0) rfl .n) ?_
 rintro ⟨p91,c92⟩ -
 dsimp only [aq,nq,cq]
 refine e_p (zb rfl)<|zf<|zd<|ze<|ze ?_
 obtain ⟨A0,hA0⟩:∃z,z=(Po.sqf (Po.vals l1)):=⟨_,rfl⟩
 have e3:(Po.sqf (Po.vals l1):List Rat)=A0:=by exact hA0.symm
 rw [e3]
 have hAl:A0.length≤n1:=by rw [hA0,←hn1,←Po.vals_len l1];exact Po.sqf_len _
 have hAc:Po.cl A0=A0:=by rw [hA0];exact Po.sqf_cl _
 obtain ⟨hk1,hk2,hk3,hk4⟩:=hok
 rw [← hA0] at hk2 hk3 hk4
 have hAd:=Po.der_len A0
 refine za<|e_mv rfl<|e_p (zK ya rfl)<|e_p (zwa rfl rfl)<|zf<|zd<|zG rfl (fun h13=> ?_) (fun h13=> ?_)
 ·
  refine ze<|za<|e_p (zb rfl)<|zf<|zd<|zC<|zk<|zec (rS rQ) ?_
  have hv9:(Po.sturm (Po.vals l1))=[]:=if_pos (by rw [← hA0];omega)
  exact zu Tryz.results130 (none,0) trivial (zn rfl) (by rw [hv9];rfl) (ho:=oN) ((.e (j:=0) rfl (by rw [hv9]) .n):SelR _ _ _)
 ·
  refine zB<|zd<|ze<|za<|e_mv rfl<|zva rfl rfl (zPd 0 rfl yd inf60 rfl (by first|rfl|assumption|(simp;done)|omega)) (fun b4 _=> ?_)
  refine e_p (zb rfl)<|zf<|zd<|ze<|ze<|za<|e_mv rfl<|zna (addQE 0 rfl)<|zm rfl rfl (.c rfl .n) ce76 (zjc (p1:=p91) (n1:=(A0).length) (c1:=c92) (l1:=((A0).map some)) (hn1:=by exact List.length_map _) (hm1:=by first|omega|rfl|assumption|decide) (hb1:=by intro i;rw [Po.msome];exact Nat.le_trans (hk2 i) dd)) (.c (j:=0) rfl .n) ?_
  rintro ⟨p95,c96⟩ -
  dsimp only [aq,nq,cq]
  refine e_p (zb rfl)<|zf<|zd<|zx ?_
  have e7:(Po.der (Po.vals ((A0).map some)):List Rat)=Po.der A0:=by rw [Po.vals_some]
  rw [e7]
  refine zja (X:=Nat×(List Rat)×(List Rat)×(Option Addr)×Nat×(Option Addr)×Nat×(Option Addr)×Nat×(List (List Rat))) (fun x:Nat×(List Rat)×(List Rat)×(Option Addr)×Nat×(Option Addr)×Nat×(Option Addr)×Nat×(List (List Rat))=>(x.2.1.length≤190∧x.2.2.1.length≤x.1∧x.1≤190∧x.2.2.2.2.2.2.2.2.2.length+x.1≤200)∧(Po.cl x.2.1=x.2.1∧Po.cl x.2.2.1=x.2.2.1)∧Po.stok x.1 x.2.1 x.2.2.1∧x.2.2.2.2.2.2.2.2.2++Po.st x.1 x.2.1 x.2.2.1=(Po.sturm (Po.vals l1))) (fun x=>[(4,.slice (x.2.2.2.2.2.2.2.1) (x.2.2.2.2.2.2.2.2.2.length) (x.2.2.2.2.2.2.2.2.1)),(5,.slice (x.2.2.2.2.2.1) (x.2.2.1.length) (x.2.2.2.2.2.2.1)),(3,.slice (x.2.2.2.1) (x.2.1.length) (x.2.2.2.2.1)),(2,.slice none 0 0)]) (fun x=>[rowA 60 (rS rQ) (x.2.2.2.2.2.2.2.1) (x.2.2.2.2.2.2.2.2.1) (x.2.2.2.2.2.2.2.2.2)]) (fun x=>[slF rQ (x.2.2.2.1) (x.2.2.2.2.1) (x.2.1),slF rQ (x.2.2.2.2.2.1) (x.2.2.2.2.2.2.1) (x.2.2.1),slF rQ p95 c96 (Po.der A0),slF rE p91 c92 ((A0).map some),slF rQ p91 c92 A0,slF rE p1 c1 l1]) (fun x:Nat×(List Rat)×(List Rat)×(Option Addr)×Nat×(Option Addr)×Nat×(Option Addr)×Nat×(List (List Rat))=>x.2.2.1.length) (A0.length,A0,(Po.der A0),p91,c92,p95,c96,some ⟨b4,0,none⟩,1,[A0]) (show (A0.length≤190∧(Po.der A0).length≤A0.length∧A0.length≤190∧([A0]).length+A0.length≤200)∧(Po.cl A0=A0∧Po.cl (Po.der A0)=(Po.der A0))∧Po.stok A0.length A0 (Po.der A0)∧([A0])++Po.st A0.length A0 (Po.der A0)=(Po.sturm (Po.vals l1)) from by exact ⟨⟨by omega,by omega,by omega,by show 1+A0.length≤200;omega⟩,⟨hAc,Po.der_cl _⟩,hk4,by unfold Po.sturm;rw [← hA0,if_neg om];rfl⟩) ((.e rfl cgs (.c rfl (.e rfl cgs (.c rfl .n)))):SubM _ _) (ho:=((.e (i:=0) rfl cgs .n):PickO _ _ _)) ((.e (j:=2) rfl (by first|rfl|simp_all) (.of [0,0,1,2,3] rfl)):SelR _ _ _) ?_
  rintro ⟨f,a,b,pa,ca,pb,cb,pR,cR,A⟩ hI
  replace hI:(a.length≤190∧b.length≤f∧f≤190∧A.length+f≤200)∧(Po.cl a=a∧Po.cl b=b)∧Po.stok f a b∧A++Po.st f a b=(Po.sturm (Po.vals l1)):=hI
  try dsimp only
  obtain ⟨⟨hal,hbf,hf,hAf⟩,⟨hca,hcb⟩,hsk,hst⟩:=hI
  refine ze<|ze<|za<|e_mv rfl<|e_p (zK ya rfl)<|e_p (zCa rfl rfl)<|zf<|zd<|zG rfl (fun h20=> ?_) (fun h20=> ?_)
  ·
   have hg:=Po.stok_yes hsk (show b.length≠0 by omega) om
   have hrl:=(Po.dqr_len a b).2
   refine zB<|zd<|zx<|ze<|za<|e_mv rfl<|e_mv rfl<|zva rfl rfl (zPd 1 rfl yd inf60 rfl (by first|rfl|assumption|(simp;done)|omega)) (fun b8 _=> ?_)
   refine zba 0 rfl .z<|zEa 1 rfl rfl rfl (zoa 0 rfl yd inf60 dd rfl rfl (by first|rfl|assumption|(simp;done)|omega) rfl (by first|rfl|assumption|(simp;done)|omega) om om) (fun _=>(.s .z)) ?_
   rintro ⟨p9,c10⟩ -
   dsimp only [aq,nq,cq]
   refine e_p (zb rfl)<|zf<|zd<|ze<|za<|e_mv rfl<|e_mv rfl<|zna (addQE 1 rfl)<|zna (addQE 3 rfl)<|zm rfl rfl (.c rfl (.c rfl .n)) ce150 (zkc (p1:=pa) (n1:=a.length) (c1:=ca) (l1:=(a.map some)) (p2:=pb) (n2:=b.length) (c2:=cb) (l2:=(b.map some)) (hn1:=by exact List.length_map _) (hm1:=by first|omega|rfl|assumption|decide) (hn2:=by exact List.length_map _) (hm2:=by first|omega|rfl|assumption|decide) (hm12:=by first|omega|rfl|assumption|decide) (hb2:=by rw [Po.vals_some];exact hg.2.1.1) (hok:=by rw [Po.vals_some,Po.vals_some];exact hg.2.1.2)) (.c (j:=1) rfl (.c (j:=0) rfl .n)) ?_
   rintro ⟨p811,c812,p913,c914⟩ -
   dsimp only [aq,nq,cq]
   refine e_mv rfl<|e_p (zq rfl rfl)<|e_p (zq rfl rfl)<|e_p (zq rfl rfl)<|e_p (zb rfl)<|e_p (zb rfl)<|e_p (zb rfl)<|zf<|zd ?_
   have e15:(Po.dr (Po.vals (a.map some)) (Po.vals (b.map some)):List Rat)=Po.dr a b:=by rw [Po.vals_some,Po.vals_some]
   rw [e15]
   refine za<|e_mv rfl<|e_mv rfl<|zm rfl rfl (.c rfl .n) ce58 (zxa (z:=(-1)) (hz:=by first|omega|rfl|assumption|decide)) (.n) ?_
   rintro ⟨w316,w417⟩ -
   dsimp only [aq,nq,cq]
   refine zna (addQe 0 rfl)<|zna (addQE 3 rfl)<|zm rfl rfl (.c rfl (.c rfl .n)) ce74 (zac (p1:=p913) (n1:=(Po.dr a b).length) (c1:=c914) (l1:=((Po.dr a b).map some)) (u1:=w316) (v1:=w417) (x1:=(some (((-1):Int):Rat))) (hn1:=by exact List.length_map _) (hm1:=by first|omega|rfl|assumption|decide) (hm9:=by first|omega|rfl|assumption|decide) (hb1:=by rw [Po.vals_some];exact fun i=>Nat.le_trans (hg.2.2.1 i) dd) (hb2:=by exact Po.bd_mono (Po.bd_one (x:=((-1:Int):Rat)) (L:=1) dd) dd) (hs:=by rw [Po.vals_some];intro k lo n h;exact Nat.le_trans (Po.cv_one_hq (L:=1) (Po.bd_cl hg.2.2.1) dd k lo n h) dd)) (.c (j:=0) rfl (.c (j:=1) rfl .n)) ?_
   rintro ⟨p918,c919⟩ -
   dsimp only [aq,nq,cq]
   refine e_p (zb rfl)<|e_p (zb rfl)<|zf<|zP ?_
   have e20:(Po.mul (Po.vals ((Po.dr a b).map some)) (Po.vals [(some (((-1):Int):Rat))]):List Rat)=Po.mul (Po.dr a b) [((-1:Int):Rat)]:=by rw [Po.vals_some];rfl
   rw [e20]
   refine zda ((f - 1),b,(Po.mul (Po.dr a b) [((-1:Int):Rat)]),pb,cb,p918,c919,p9,c10,(A++([b]))) (show (b.length≤190∧(Po.mul (Po.dr a b) [((-1:Int):Rat)]).length≤(f - 1)∧(f - 1)≤190∧(A++([b])).length+(f - 1)≤200)∧(Po.cl b=b∧Po.cl (Po.mul (Po.dr a b) [((-1:Int):Rat)])=(Po.mul (Po.dr a b) [((-1:Int):Rat)]))∧Po.stok (f - 1) b (Po.mul (Po.dr a b) [((-1:Int):Rat)])∧(A++([b]))++Po.st (f - 1) b (Po.mul (Po.dr a b) [((-1:Int):Rat)])=(Po.sturm (Po.vals l1)) from by have h9:=Po.sdr_len (a:=a) hcb (show b.length≠0 by omega) hbf;exact ⟨⟨by omega,h9,by omega,by rw [List.length_append];show A.length+1+(f - 1)≤200;omega⟩,⟨hcb,Po.mul_cl _ _⟩,hg.2.2.2,by rw [List.append_assoc,List.singleton_append,←Po.st_yes om hbf];exact hst⟩) (by have h9:=Po.sdr_len (n:=b.length) (a:=a) hcb (show b.length≠0 by omega) (Nat.le_refl _);(show (Po.mul (Po.dr a b) [((-1:Int):Rat)]).length<b.length;omega)) ((.e rfl (by simp) (.of rfl)):SubM _ _) (ho:=((.c (i:=1) rfl .n):PickO _ _ _)) ((.of [10,0,11,12,13,14] rfl):SelR _ _ _)
  ·
   refine zfa<|zi<|zi<|zw<|zd<|ze<|za<|e_mv rfl<|e_p (zb rfl)<|zf<|zd<|zC<|zyb 0 rfl .z ?_
   have hv9:A=(Po.sturm (Po.vals l1)):=by rw [← hst,Po.st_nil om,List.append_nil]
   exact zu Tryz.results130 (pR,cR) trivial (zn rfl) (by rw [← hv9]) (ho:=oN) ((.e (j:=0) rfl (by rw [← hv9]) .n):SelR _ _ _)
end Go.Proofs.YtahiajepeodhoaaGreat.Sp
namespace Go.Proofs.YtahiajepeodhoaaGreat.Po
open Go.Proofs.YtahiajepeodhoaaGreat.Big
theorem cv_hq_len {K L:Nat} {p q:List Rat} (h1:bd K p) (h2:bd L q) (k lo:Nat):∀n,hq (cv p q k lo n)≤1+min n (p.length - lo)*(K+L+1)
  |0=>by show hq 0≤_;rw [hq_zero];omega
  |n+1=>by
    show hq (cv p q k lo n+p.getD (lo+n) 0*q.getD (k - (lo+n)) 0)≤_
    have e3:=cv_hq_len h1 h2 k lo n
    by_cases h:lo+n<p.length
    · have e1 := hq_add (cv p q k lo n) (p.getD (lo + n) 0 * q.getD (k - (lo + n)) 0)
      have e2:=hq_mul (p.getD (lo+n) 0) (q.getD (k - (lo+n)) 0)
      have e4:=h1 (lo+n)
      have e5:=h2 (k - (lo+n))
      rw [show min (n+1) (p.length - lo)=min n (p.length - lo)+1 by omega,Nat.succ_mul]
      omega
    · rw [gD0 (l := p) (by omega), show min (n + 1) (p.length - lo) = min n (p.length - lo) by omega, Rat.zero_mul, Rat.add_zero]
      exact e3
theorem cv_hq_of {K L N:Nat} {p q:List Rat} (h1:bd K p) (h2:bd L q) (hl:p.length≤N) (hb:1+N*(K+L+1)≤200000000000) (k lo n:Nat):hq (cv p q k lo n)≤200000000000:=by
  refine Nat.le_trans (cv_hq_len h1 h2 k lo n) (Nat.le_trans (Nat.add_le_add_left (Nat.mul_le_mul_right _ ?_) _) hb)
  omega
def e1:List Rat:=ofL [-2,1,1]
def e2:List Rat:=ofL [-2,0,1]
def e3:List Rat:=ofL [0,-1,0,1]
end Go.Proofs.YtahiajepeodhoaaGreat.Po
namespace Go.Proofs.YtahiajepeodhoaaGreat.Sp
open Go
set_option linter.unusedVariables false
set_option maxRecDepth 100000
set_option maxHeartbeats 8000000
theorem zjf {p1:Option Addr} {n1:Nat} {c1:Nat} {l1:List (Option Rat)} {u1:Wd} {v1:Wd} {x1:Rat} {u2:Wd} {v2:Wd} {x2:Rat} (hn1:l1.length=n1) (hm1:n1≤190) (hok:Po.sok (Po.vals l1)) (hne:(Po.sturm (Po.vals l1)).length≠0) (hlS:(Po.sturm (Po.vals l1)).length≤400) (hx1:yg x1≤100000000000) (hx2:yg x2≤100000000000) (hv1:Po.vok (Po.sturm (Po.vals l1)) x1) (hv2:Po.vok (Po.sturm (Po.vals l1)) x2) (hle:¬x2<x1):Con ye 107 [.slice p1 n1 c1,.agg #[u1.b,u1.l,v1.b,v1.l],.agg #[u2.b,u2.l,v2.b,v2.l]] [] [slF rE p1 c1 l1,qF true u1 v1 x1,qF true u2 v2 x2] (Y:=Unit) (fun y=>True) (fun y=> .tuple #[.int .i64 (Po.bt (Po.sturm (Po.vals l1)) x1 x2),.int .i64 0]) (fun y=>[]) (fun y=>[]):=by
 refine zl Tryz.func107 rfl rfl rfl (fun c=> ?_)
 show RunC _ _ _ _ _ [(0,.slice p1 n1 c1),(1,.agg #[u1.b,u1.l,v1.b,v1.l]),(2,.agg #[u2.b,u2.l,v2.b,v2.l])] [] [slF rE p1 c1 l1,qF true u1 v1 x1,qF true u2 v2 x2]
 refine zU 0 rfl (fun hL0=> ?_)
 refine ze<|za<|zI rfl rfl (zR rfl rfl) (fun b1=> ?_)
 refine zI rfl rfl (zR rfl rfl) (fun b2=> ?_)
 refine e_p (zb rfl)<|e_p (zb rfl)<|zf<|zd<|ze<|za<|e_mv rfl<|zm rfl rfl (.c rfl .n) ce130 (zif (p1:=p1) (n1:=n1) (c1:=c1) (l1:=l1) (hn1:=ass) (hm1:=ass) (hok:=ass)) (.c (j:=0) rfl .n) ?_
 rintro ⟨p93,c94⟩ -
 dsimp only [aq,nq,cq]
 refine e_p (zb rfl)<|zf<|zd<|ze<|ze<|za<|e_mv rfl<|e_p (zK yd rfl)<|e_p (zwa rfl rfl)<|zf<|zd<|zG rfl (fun h13=> ?_) (fun h13=> ?_)
 ·
  omega
 ·
  refine zB<|zd<|ze<|ze<|za<|e_ru (zc 1 ty32 rfl rfl (.t4 .nil))<|e_ru (zc 0 ty32 rfl rfl (.t4 .nil))<|zJ rfl rfl (.c rfl (.c rfl .n)) ce68 (zOc (k1:=true) (u1:=u1) (v1:=v1) (q1:=x1) (k2:=true) (u2:=u2) (v2:=v2) (q2:=x2) (hl:=by first|omega|rfl|assumption|decide)) (.c (j:=2) rfl (.c (j:=3) rfl .n))<|e_p (zCa rfl rfl)<|zf<|zd<|zG rfl (fun h17=> ?_) (fun h17=> ?_)
  ·
   exact absurd (Po.lt_sgq.1 h17) hle
  ·
   refine zB<|zd<|ze<|za<|e_mv rfl<|e_ru (zc 1 ty32 rfl rfl (.t4 .nil))<|e_ru (zc 0 ty32 rfl rfl (.t4 .nil))<|zJ rfl rfl (.c rfl (.c rfl (.c rfl .n))) ce131 (zng (pL:=p93) (nL:=(Po.sturm (Po.vals l1)).length) (cL:=c94) (L:=(Po.sturm (Po.vals l1))) (u1:=u1) (v1:=v1) (x1:=x1) (u2:=u2) (v2:=v2) (x2:=x2) (hnL:=by first|omega|rfl|assumption|decide) (hmL:=ass) (hx1:=ass) (hx2:=ass) (hv1:=ass) (hv2:=ass)) (.c (j:=0) rfl (.c (j:=2) rfl (.c (j:=3) rfl .n)))<|e_p (zb rfl)<|e_p (zb rfl)<|zf<|zd<|zC ?_
   exact zFa Tryz.results107 () trivial (zn rfl) (zn rfl) rfl (ho:=oN) sN
end Go.Proofs.YtahiajepeodhoaaGreat.Sp
namespace Go.Proofs.YtahiajepeodhoaaGreat.Po
open Go.Proofs.YtahiajepeodhoaaGreat.Big
theorem sub_len (p q:List Rat):(sub p q).length≤max p.length q.length:=by
  unfold sub
  exact Nat.le_trans (cl_le_len _) (by rw [gen_len];exact Nat.le_refl _)
theorem scl_len (p:List Rat) (x:Rat):(scl p x).length≤p.length:=by
  unfold scl
  exact Nat.le_trans (cl_le_len _) (by rw [gen_len];exact Nat.le_refl _)
theorem mul_clr (p q:List Rat):mul p (cl q)=mul p q:=by unfold mul;rw [cl_cl]
theorem dqr_spec {p q:List Rat} (hn:(cl q).length≠0):(dr p q).length<(cl q).length∧add (mul (dq p q) q) (dr p q)=cl p:=by
  have h:=divp_spec (p:=p) (q:=q) (fun e=>hn (by rw [e];rfl))
  unfold dq dr
  rw [if_neg hn,if_neg hn]
  rw [mul_clr] at h
  exact h
end Go.Proofs.YtahiajepeodhoaaGreat.Po
namespace Go.Proofs.YtahiajepeodhoaaGreat.Po
open Go.Proofs.YtahiajepeodhoaaGreat.Big
set_option linter.unusedVariables false
theorem cb_two {K L:Nat} {d1 d2:Int} (h1:d1≠0) (h2:d2≠0) (l1:ln d1≤K) (l2:ln d2≤L):d1*d2≠0∧ln (d1*d2)≤K+L:=⟨Int.mul_ne_zero h1 h2,by have:=zma d1 d2;omega⟩
theorem cb_add {K L:Nat} {p q:List Rat} (h:cb K p) (g:cb L q):cb (K+L+1) (add p q):=by
  obtain ⟨d1,a1,a2,a3⟩:=h
  obtain ⟨d2,b1,b2,b3⟩:=g
  obtain ⟨c1,c2⟩:=cb_two a1 b1 a2 b2
  refine ⟨d1*d2,c1,by omega,fun i=> ?_⟩
  obtain ⟨n,n1,n2⟩:=a3 i
  obtain ⟨m,m1,m2⟩:=b3 i
  refine ⟨n*d2+m*d1,?_,?_⟩
  · have:=zvb (n*d2) (m*d1);have:=zma n d2;have:=zma m d1;omega
  · rw [add_get,Rat.intCast_mul,Rat.intCast_add,Rat.intCast_mul,Rat.intCast_mul,←n2,←m2];grind
theorem cb_sub {K L:Nat} {p q:List Rat} (h:cb K p) (g:cb L q):cb (K+L+1) (sub p q):=by
  obtain ⟨d1,a1,a2,a3⟩:=h
  obtain ⟨d2,b1,b2,b3⟩:=g
  obtain ⟨c1,c2⟩:=cb_two a1 b1 a2 b2
  refine ⟨d1*d2,c1,by omega,fun i=> ?_⟩
  obtain ⟨n,n1,n2⟩:=a3 i
  obtain ⟨m,m1,m2⟩:=b3 i
  refine ⟨n*d2 - m*d1,?_,?_⟩
  · have:=ztf (n*d2) (m*d1);have:=zma n d2;have:=zma m d1;omega
  · rw [sub_get,Rat.intCast_mul,Rat.intCast_sub,Rat.intCast_mul,Rat.intCast_mul,←n2,←m2];grind
theorem co_el {K L A:Nat} {d1 d2:Int} {f g:Nat→Rat} (hf:∀i,∃n:Int,ln n≤K∧f i*(d1:Rat)=(n:Rat)) (hg:∀i,∃n:Int,ln n≤L∧g i*(d2:Rat)=(n:Rat)) (hA:∀i,A≤i→f i=0) (k:Nat):
    ∀n,∃N:Int,ln N≤K+L+min n A∧co f g k n*((d1*d2:Int):Rat)=(N:Rat)
  |0=>⟨0,by rw [zdd];omega,by show (0:Rat)*_=_;rw [Rat.zero_mul];rfl⟩
  |n+1=>by
    obtain ⟨N,h1,h2⟩:=co_el hf hg hA k n
    by_cases hn:A≤n
    · refine ⟨N, by omega, ?_⟩
      show (co f g k n+f n*g (k - n))*_=_
      rw [hA n hn,Rat.zero_mul,Rat.add_zero];exact h2
    · obtain ⟨a, a1, a2⟩ := hf n
      obtain ⟨b,b1,b2⟩:=hg (k - n)
      refine ⟨N+a*b,?_,?_⟩
      · have:=zvb N (a*b);have:=zma a b;omega
      · show (co f g k n + f n * g (k - n)) * _ = _
        rw [Rat.intCast_add,←h2,Rat.intCast_mul a b,←a2,←b2,Rat.intCast_mul];grind
theorem cb_mul {K L A:Nat} {p q:List Rat} (h:cb K p) (g:cb L q) (hA:p.length≤A):cb (K+L+A) (mul p q):=by
  obtain ⟨d1,a1,a2,a3⟩:=h
  obtain ⟨d2,b1,b2,b3⟩:=g
  obtain ⟨c1,c2⟩:=cb_two a1 b1 a2 b2
  refine ⟨d1*d2,c1,by omega,fun i=> ?_⟩
  obtain ⟨N,h1,h2⟩:=co_el (A:=A) a3 b3 (fun i hi=>gD0 (by omega)) i (i+1)
  exact ⟨N,by omega,by rw [mul_get];exact h2⟩
theorem cb_1 {x:Rat} {K:Nat} (h:hq x≤K):cb (1+K) [x]:=by
  have:=cb_of_bd (l:=[x]) (k:=K) (fun i=>by
    cases i with
    |zero=>exact h
    |succ i=>show hq (0:Rat)≤K;rw [hq_zero];have:=hq_pos x;omega)
  exact cb_mono this (by show 1+1*K≤_;omega)
theorem three_pow:∀{d:Nat},1≤d→d+2≤3^d
  |0,h=>by omega
  |1,_=>by decide
  |d+2,_=>by
    have:=three_pow (d:=d+1) (by omega)
    rw [Nat.pow_succ];omega
theorem fall {K A B:Nat} (h:B<A):(K+(A+1 - B)*(K+1)+1)*3^B≤(K+1)*3^A:=by
  obtain ⟨d,rfl⟩:∃d,A=B+d:=⟨A - B,by omega⟩
  have e:K+(B+d+1 - B)*(K+1)+1=(K+1)*(d+2):=by
    rw [show B+d+1 - B=d+1 by omega,Nat.mul_comm (K+1),show d+2=(d+1)+1 by omega,Nat.succ_mul (d+1)];omega
  rw [e,Nat.pow_add,Nat.mul_comm (3^B),←Nat.mul_assoc,Nat.mul_assoc,Nat.mul_assoc]
  have h3:=three_pow (d:=d) (by omega)
  calc (K+1)*((d+2)*3^B)≤(K+1)*(3^d*3^B):=Nat.mul_le_mul_left _ (Nat.mul_le_mul_right _ h3)
    _=(K+1)*(3^d*3^B):=rfl
theorem le_pow (K A:Nat):K+1≤(K+1)*3^A:=Nat.le_mul_of_pos_right _ (Nat.pow_pos (by decide))
theorem gok3:∀(n K A:Nat) (p q:List Rat),cl p=p→cl q=q→cb K p→cb K q→p.length≤A→q.length<A→A≤9→(K+1)*3^A≤5000000000→gok n p q∧cb ((K+1)*3^A) (ge n p q)
  |0,K,A,p,q,_,_,hp,_,_,_,_,_=>⟨trivial,cb_mono hp (by have:=le_pow K A;show K≤_;omega)⟩
  |n+1,K,A,p,q,cp,cq,hp,hq,lp,lq,hA,hb=>by
    have hk:=le_pow K A
    by_cases h0:q.length=0
    · refine ⟨fun k => absurd h0 k, ?_⟩
      rw [ge_nil h0]
      exact cb_mono hp (by omega)
    · have hd := (div_cb (N := A + 1 - q.length) cp cq h0 hp hq (by omega)).2
      have hlt:=dr_less (p:=p) cq h0
      have hml:=mo_len (dr p q)
      have hf:=fall (K:=K) lq
      have hk2:=le_pow (K+(A+1 - q.length)*(K+1)) q.length
      have h10:(A+1)*(K+1)≤10*(K+1):=Nat.mul_le_mul_right _ (by omega)
      have ih:=gok3 n (K+(A+1 - q.length)*(K+1)) q.length q (mo (dr p q)) cq (mo_cl _) (cb_mono hq (by omega)) (cb_mo (dr_cl _ _) hd) (Nat.le_refl _) (by omega) (by omega) (by omega)
      refine ⟨fun _=>⟨dgo_cb (N:=A+1) cp cq h0 hp hq (by omega) (by omega) (by omega),bd_mono (cb_bd hd) (by omega),ih.1⟩,?_⟩
      have e5:ge (n+1) p q=ge n q (mo (dr p q)):=if_neg h0
      rw [e5]
      exact cb_mono ih.2 hf
theorem stok3:∀(n K A:Nat) (p q:List Rat),cl p=p→cl q=q→cb K p→cb K q→p.length≤A→q.length<A→A≤9→(K+1)*3^A≤5000000000→stok n p q∧∀l,l∈st n p q→l.length≤A∧cb ((K+1)*3^A) l
  |0,K,A,_,_,_,_,_,_,_,_,_,_=>⟨trivial,fun l h=>by cases h⟩
  |n+1,K,A,p,q,cp,cq,hp,hq,lp,lq,hA,hb=>by
    have hk:=le_pow K A
    by_cases h0:q.length=0
    · refine ⟨fun k => absurd h0 k, fun l h => ?_⟩
      rw [st_nil h0] at h
      cases h
    · have hd := (div_cb (N := A + 1 - q.length) cp cq h0 hp hq (by omega)).2
      have hlt:=dr_less (p:=p) cq h0
      have hml:=sdr_len (n:=q.length) (a:=p) cq h0 (Nat.le_refl _)
      have hf:=fall (K:=K) lq
      have hk2:=le_pow (K+(A+1 - q.length)*(K+1)) q.length
      have h10:(A+1)*(K+1)≤10*(K+1):=Nat.mul_le_mul_right _ (by omega)
      have ih:=stok3 n (K+(A+1 - q.length)*(K+1)) q.length q (mul (dr p q) [(((-1:Int)):Rat)]) cq (mul_cl _ _) (cb_mono hq (by omega)) (cb_neg hd) (Nat.le_refl _) (by omega) (by omega) (by omega)
      refine ⟨fun _=>⟨bd_mono (cb_bd hq) (by omega),dgo_cb (N:=A+1) cp cq h0 hp hq (by omega) (by omega) (by omega),bd_mono (cb_bd hd) (by omega),ih.1⟩,fun l h=> ?_⟩
      have e5:st (n+1) p q=q :: st n q (mul (dr p q) [(((-1:Int)):Rat)]):=if_neg h0
      rw [e5] at h
      rcases List.mem_cons.1 h with rfl|h
      · exact ⟨by omega,cb_mono hq (by omega)⟩
      · obtain ⟨i1, i2⟩ := ih.2 l h
        exact ⟨by omega,cb_mono i2 hf⟩
theorem sok7 {p:List Rat} (hl:p.length≤7) (h:cb 110 p):sok p∧∀q,q∈sturm p→q.length≤10∧bd 7000000000 q:=by
  have hP:cb 110 (cl p):=cb_cl h
  have hPl:=cl_le_len p
  have hD:cb 113 (der (cl p)):=cb_der hP (by omega)
  have hDl:=der_len (cl p)
  have hDc:=der_cl (cl p)
  have hsq:sqok p∧cb 1746000 (sqf p):=by
    by_cases h0:(cl p).length=0
    · have e : sqf p = [] := if_pos h0
      refine ⟨⟨bd_mono (cb_bd h) (by decide),bd_mono (cb_bd hD) (by decide),fun k=>absurd h0 k⟩,?_⟩
      rw [e];exact cb_mono (cb_of_bd (l:=[]) (k:=1) (fun i=>by rw [gD0 (Nat.zero_le _),hq_zero];decide)) (by decide)
    · have h6 : (113 + 1) * 3 ^ 7 = 249318 := by decide
      have hg:=gok3 (der (cl p)).length 113 7 (mo (cl p)) (mo (der (cl p))) (mo_cl _) (mo_cl _) (cb_mo (cl_cl p) (cb_mono hP (by decide))) (cb_mo hDc hD) (by have:=mo_len (cl p);omega) (by have:=mo_len (der (cl p));omega) (by decide) (by decide)
      have hG:cb 249318 (gcd (cl p) (der (cl p))):=by
        unfold gcd
        rw [cl_cl,hDc]
        exact cb_mono hg.2 (by omega)
      have hGn:(gcd (cl p) (der (cl p))).length≠0:=gcd_ne (by rw [cl_cl];exact h0)
      have hdiv:=(div_cb (N:=7) (cl_cl p) (gcd_cl _ _) hGn hP hG (by omega)).1
      refine ⟨⟨bd_mono (cb_bd h) (by decide),bd_mono (cb_bd hD) (by decide),fun _=>⟨⟨bd_mono (cb_bd hP) (by decide),bd_mono (cb_bd hD) (by decide),?_⟩,dgo_cb (N:=8) (cl_cl p) (gcd_cl _ _) hGn hP hG (by omega) (by decide) (by decide),bd_mono (cb_bd hdiv) (by decide)⟩⟩,?_⟩
      · rw [cl_cl,hDc];exact hg.1
      · unfold sqf
        rw [if_neg h0]
        exact cb_mo (dq_cl _ _) (cb_mono hdiv (by decide))
  obtain ⟨hs1,hs2⟩:=hsq
  have hsl:=sqf_len p
  have hsd:cb 1746003 (der (sqf p)):=cb_der hs2 (by omega)
  have hsdl:=der_len (sqf p)
  have h6:(1746003+1)*3^7=3818510748:=by decide
  have hst:stok (sqf p).length (sqf p) (der (sqf p))∧∀l,l∈st (sqf p).length (sqf p) (der (sqf p))→l.length≤7∧cb 3818510748 l:=by
    by_cases h0:(sqf p).length=0
    · have e : der (sqf p) = [] := List.eq_nil_of_length_eq_zero (by omega)
      rw [h0]
      exact ⟨trivial,fun l h=>by cases h⟩
    · have := stok3 (sqf p).length 1746003 7 (sqf p) (der (sqf p)) (sqf_cl p) (der_cl _) (cb_mono hs2 (by decide)) hsd (by omega) (by omega) (by decide) (by decide)
      rw [h6] at this
      exact this
  refine ⟨⟨hs1,bd_mono (cb_bd hs2) (by decide),bd_mono (cb_bd hsd) (by decide),hst.1⟩,fun q hq=> ?_⟩
  unfold sturm at hq
  split at hq
  · cases hq
  · rcases List.mem_cons.1 hq with rfl | hq
    · exact ⟨by omega,bd_mono (cb_bd hs2) (by decide)⟩
    · obtain ⟨k1, k2⟩ := hst.2 q hq
      exact ⟨by omega,bd_mono (cb_bd k2) (by decide)⟩
end Go.Proofs.YtahiajepeodhoaaGreat.Po
namespace Go.Proofs.YtahiajepeodhoaaGreat.Cam
open Big
theorem rl_cb {e:Ln} (h:In e):Po.cb 3 (rl e):=by
  have key:∀n:Int,Rat.divInt n 0x100000*((0x100000:Int):Rat)=(n:Rat):=fun n=>by
    rw [Rat.divInt_eq_div]
    exact Rat.div_mul_cancel (by decide +kernel)
  refine Po.cb_cl ⟨0x100000,by decide,by decide,fun i=> ?_⟩
  match i with
  |0=>exact ⟨0x100000,by decide,by show ((1:Int):Rat)*_=_;rw [show ((1:Int):Rat)=1 from rfl,Rat.one_mul]⟩
  |1=>exact ⟨e.r0,zSc h.r0.1 h.r0.2,key e.r0⟩
  |2=>exact ⟨e.r1,zSc h.r1.1 h.r1.2,key e.r1⟩
  |3=>exact ⟨e.r2,zSc h.r2.1 h.r2.2,key e.r2⟩
  |n+4=>exact ⟨0,by decide,by show (0:Rat)*_=_;rw [Rat.zero_mul];rfl⟩
theorem xx_cb:Po.cb 1 xx:=⟨1,by decide,by decide,fun i=>by
  match i with
  |0=>exact ⟨0,by decide,by decide +kernel⟩
  |1=>exact ⟨1,by decide,by decide +kernel⟩
  |n+2=>exact ⟨0,by decide,by show (0:Rat)*_=_;rw [Rat.zero_mul];rfl⟩⟩
theorem two_cb:Po.cb 2 [((2:Int):Rat)]:=Po.cb_mono (Po.cb_1 (K:=1) (by decide)) (by decide)
theorem xd_cb {e:Ln} (h:In e):Po.cb 9 (Po.mul xx (Po.der (rl e))):=Po.cb_mono (Po.cb_mul xx_cb (Po.cb_der (rl_cb h) (by have:=rl_len e;omega)) (Nat.le_refl 2)) (by decide)
theorem xd_len (e:Ln):(Po.mul xx (Po.der (rl e))).length≤4:=by
  have a:=Po.mul_len xx (Po.der (rl e));have b:=Po.der_len (rl e);have c:=rl_len e
  have d:xx.length=2:=rfl
  omega
theorem x2_cb {e:Ln} (h:In e):Po.cb 15 (Po.mul (Po.mul xx (Po.der (rl e))) [((2:Int):Rat)]):=Po.cb_mono (Po.cb_mul (xd_cb h) two_cb (xd_len e)) (by decide)
theorem x2_len (e:Ln):(Po.mul (Po.mul xx (Po.der (rl e))) [((2:Int):Rat)]).length≤4:=by
  have a:=Po.mul_len (Po.mul xx (Po.der (rl e))) [((2:Int):Rat)];have b:=xd_len e
  have c:[((2:Int):Rat)].length=1:=rfl
  omega
theorem alo_cb {e:Ln} (h:In e):Po.cb 19 (alo e):=Po.cb_mono (Po.cb_add (rl_cb h) (x2_cb h)) (by decide)
theorem alo_len (e:Ln):(alo e).length≤4:=by
  have a:=Po.add_len (rl e) (Po.mul (Po.mul xx (Po.der (rl e))) [((2:Int):Rat)]);have b:=x2_len e;have c:=rl_len e
  unfold alo;omega
theorem zvg {e:Ln} (h:In e):hq (mulL [tP1 e,tP1 e])≤6∧hq (mulL [tP2 e,tP2 e])≤6∧hq (sumL [mulL [tP1 e,tP1 e],mulL [tP2 e,tP2 e]])≤13∧hq (tq e)≤16:=by
  have a:=m2_hq (tq1 h) (tq1 h)
  have b:=m2_hq (tq2 h) (tq2 h)
  have c:=s2_hq a b
  have d:=m2_hq (a:=((36:Int):Rat)) (A:=3) (by decide) c
  refine ⟨by omega,by omega,by omega,?_⟩
  unfold tq;omega
theorem tan_cb {e:Ln} (h:In e):Po.cb 20 (tan e):=Po.cb_mono (Po.cb_mul xx_cb (Po.cb_1 (zvg h).2.2.2) (Nat.le_refl 2)) (by decide)
theorem tan_len (e:Ln):(tan e).length≤2:=by
  have a:=Po.mul_len xx [tq e]
  have c:[tq e].length=1:=rfl
  have d:xx.length=2:=rfl
  unfold tan;omega
theorem k_hq {k:Int} (h:1≤k∧k≤255):hq (Rat.divInt k 256)≤3:=dq (by decide) (by omega) (by decide)
theorem dk_cb {p:List Rat} {k:Int} (h:Po.cb 19 p) (hk:1≤k∧k≤255):Po.cb 24 (dk p k):=Po.cb_mono (Po.cb_sub h (Po.cb_1 (k_hq hk))) (by decide)
theorem dk_len {p:List Rat} {k:Int} (h:p.length≤4):(dk p k).length≤4:=by
  have a:=Po.sub_len p [Rat.divInt k 256]
  have c:[Rat.divInt k 256].length=1:=rfl
  unfold dk;omega
theorem d2_cb {p:List Rat} {k:Int} (h:Po.cb 19 p) (hl:p.length≤4) (hk:1≤k∧k≤255):Po.cb 52 (Po.mul (dk p k) (dk p k)):=Po.cb_mono (Po.cb_mul (dk_cb h hk) (dk_cb h hk) (dk_len hl)) (by decide)
theorem zwg {p:List Rat} {k:Int} (hl:p.length≤4):(Po.mul (dk p k) (dk p k)).length≤7:=by
  have a:=Po.mul_len (dk p k) (dk p k);have b:=dk_len (k:=k) hl;omega
theorem dd_cb {e:Ln} {p:List Rat} {k:Int} (hin:In e) (h:Po.cb 19 p) (hl:p.length≤4) (hk:1≤k∧k≤255):Po.cb 73 (dd e p k):=Po.cb_mono (Po.cb_sub (d2_cb h hl hk) (tan_cb hin)) (by decide)
theorem dd_len {e:Ln} {p:List Rat} {k:Int} (hl:p.length≤4):(dd e p k).length≤7:=by
  have a:=Po.sub_len (Po.mul (dk p k) (dk p k)) (tan e);have b:=zwg (k:=k) hl;have c:=tan_len e
  unfold dd;omega
end Go.Proofs.YtahiajepeodhoaaGreat.Cam
namespace Go.Proofs.YtahiajepeodhoaaGreat.Po
open Go.Proofs.YtahiajepeodhoaaGreat.Big
theorem scl_cl (l:List Rat) (a:Rat):cl (scl l a)=scl l a:=cl_cl _
theorem last_ne {l:List Rat} (hl:cl l=l) (h:l.length≠0):l.getD (l.length - 1) 0≠0:=lead_ne hl (fun e=>h (by rw [e];rfl))
theorem len_le_of {l m:List Rat} (hl:cl l=l) (h:∀i,m.getD i 0=0→l.getD i 0=0):l.length≤m.length:=by
  by_cases h0:l.length=0
  · omega
  · refine Decidable.byContradiction fun k=>last_ne hl h0 (h _ (gD0 (by omega)))
theorem scl_length {l:List Rat} {a:Rat} (hl:cl l=l) (ha:a≠0):(scl l a).length=l.length:=by
  refine Nat.le_antisymm (scl_len l a) (len_le_of hl fun i h=> ?_)
  rw [scl_get] at h
  rcases Rat.mul_eq_zero.1 h with e|e
  · exact e
  · exact absurd e ha
theorem inv_ne {x:Rat} (h:x≠0):((1:Int):Rat) / x≠0:=fun e=>by
  have:=Rat.div_mul_cancel (a:=((1:Int):Rat)) h
  rw [e,Rat.zero_mul] at this
  exact absurd this (by decide +kernel)
theorem mo_scl {l:List Rat} (hl:cl l=l):∃a,a≠0∧mo l=scl l a:=by
  by_cases h:l.length=0
  · exact ⟨1,by decide +kernel,by unfold mo;rw [if_pos h,List.length_eq_zero_iff.1 h];rfl⟩
  · exact ⟨((1:Int):Rat) / lead l,inv_ne (last_ne hl h),by unfold mo;rw [if_neg h,scl_mul]⟩
theorem mo_length {l:List Rat} (hl:cl l=l):(mo l).length=l.length:=by
  obtain ⟨a,ha,e⟩:=mo_scl hl
  rw [e,scl_length hl ha]
theorem mo_scl' (l:List Rat):mo l=if l.length=0 then [] else scl l (((1:Int):Rat) / lead l):=by unfold mo;rw [scl_mul]
end Go.Proofs.YtahiajepeodhoaaGreat.Po
namespace Go.Proofs.YtahiajepeodhoaaGreat.Po
open Go.Proofs.YtahiajepeodhoaaGreat.Big
theorem ev_scl (x a:Rat) (l:List Rat):ev x (scl l a)=ev x l*a:=by
  rw [scl_mul,ev_mul]
  show ev x l*(0*x+a)=_
  grind
theorem ev_sub (x:Rat) (p q:List Rat):ev x (sub p q)=ev x p - ev x q:=by
  rw [← sub_scl,ev_add,ev_scl,show (((-1:Int):Int):Rat)= -1 by decide +kernel]
  grind
def syn (x:Rat):List Rat→List Rat
  |[]=>[]
  |[_]=>[]
  |_ :: b :: l=>ev x (b :: l) :: syn x (b :: l)
theorem syn_ev (x t:Rat):∀l:List Rat,ev t l=(t - x)*ev t (syn x l)+ev x l
  |[]=>by show (0:Rat)=(t - x)*0+0;grind
  |[a]=>by show 0*t+a=(t - x)*0+(0*x+a);grind
  |a :: b :: l=>by
    have ih:=syn_ev x t (b :: l)
    show ev t (b :: l)*t+a=(t - x)*(ev t (syn x (b :: l))*t+ev x (b :: l))+(ev x (b :: l)*x+a)
    rw [ih];grind
theorem syn_len (x:Rat):∀l:List Rat,(syn x l).length=l.length - 1
  |[]=>rfl
  |[_]=>rfl
  |a :: b :: l=>by
    show (syn x (b :: l)).length+1=l.length+1+1 - 1
    rw [syn_len x (b :: l)];rfl
theorem fresh:∀E:List Rat,∃t,∀e,e∈E→e<t
  |[]=>⟨0,fun e h=>by cases h⟩
  |a :: E=>by
    obtain ⟨t,ht⟩:=fresh E
    by_cases h:a<t
    · exact ⟨t,fun e he=>by rcases List.mem_cons.1 he with rfl|he;exact h;exact ht e he⟩
    · refine ⟨a + 1, fun e he => ?_⟩
      rcases List.mem_cons.1 he with rfl|he
      · grind
      · have:=ht e he;grind
theorem ev_vanish:∀(n:Nat) (l:List Rat),l.length≤n→∀E:List Rat,(∀t,t ∉ E→ev t l=0)→∀t,ev t l=0
  |0,l,hl,_,_,t=>by rw [List.length_eq_zero_iff.1 (show l.length=0 by omega)];rfl
  |n+1,l,hl,E,h,t=>by
    obtain ⟨s,hs⟩:=fresh E
    have hsE:s ∉ E:=fun k=>by have:=hs s k;grind
    have h0:=h s hsE
    have ih:=ev_vanish n (syn s l) (by rw [syn_len];omega) (s :: E) fun t ht=>by
      have h1:=h t fun k=>ht (List.mem_cons_of_mem _ k)
      have h2:=syn_ev s t l
      rw [h0,h1] at h2
      have h3:(t - s)*ev t (syn s l)=0:=by grind
      rcases Rat.mul_eq_zero.1 h3 with k|k
      · exact absurd (List.mem_cons.2 (.inl (by grind))) ht
      · exact k
    rw [syn_ev s t l,ih t,h0];grind
theorem ev_coef:∀l:List Rat,(∀t,ev t l=0)→∀i,l.getD i 0=0
  |[],_,i=>gD0 (Nat.zero_le _)
  |a :: l,h,i=>by
    have ha:a=0:=by
      have:=h 0
      have e:ev 0 (a :: l)=ev 0 l*0+a:=rfl
      rw [e] at this;grind
    have hl:=ev_vanish l.length l (Nat.le_refl _) [0] fun t ht=>by
      have:=h t
      have e:ev t (a :: l)=ev t l*t+a:=rfl
      rw [e,ha,Rat.add_zero] at this
      rcases Rat.mul_eq_zero.1 this with k|k
      · exact k
      · exact absurd (List.mem_cons.2 (.inl k)) ht
    cases i with
    |zero=>exact ha
    |succ i=>exact ev_coef l hl i
theorem ev_eq {p q:List Rat} (h:∀t,ev t p=ev t q) (i:Nat):p.getD i 0=q.getD i 0:=by
  have:=ev_coef (sub p q) (fun t=>by rw [ev_sub,h];grind) i
  rw [sub_get] at this;grind
theorem ev_ext' {p q:List Rat} (hp:cl p=p) (hq:cl q=q) (h:∀t,ev t p=ev t q):p=q:=zRa hp hq (ev_eq h)
theorem der_ext {p q:List Rat} (h:∀t,ev t p=ev t q):der p=der q:=zRa (der_cl _) (der_cl _) fun i=>by rw [der_get,der_get,ev_eq h]
theorem mo_ev {l:List Rat} (hl:cl l=l) (t:Rat):ev t (mo l)*lead l=ev t l:=by
  rw [mo_scl']
  split
  · rename_i h
    rw [List.length_eq_zero_iff.1 h]
    show (0:Rat)*_=0
    grind
  · rename_i h
    have h0:lead l≠0:=last_ne hl h
    rw [ev_scl,Rat.mul_assoc,Rat.div_mul_cancel h0,show ((1:Int):Rat)=1 by decide +kernel,Rat.mul_one]
theorem div_ev {p q:List Rat} (hp:cl p=p) (hq:cl q=q) (h:q.length≠0) (t:Rat):ev t p=ev t (dq p q)*ev t q+ev t (dr p q):=by
  have:=(dqr_spec (p:=p) (q:=q) (by rw [hq];exact h)).2
  rw [hp] at this
  rw [← this,ev_add,ev_mul]
  rw [this]
def dvd (g p:List Rat):Prop:=∃u:List Rat,∀t,ev t p=ev t g*ev t u
theorem ge_dvd:∀(n:Nat) (p q:List Rat),cl p=p→cl q=q→q.length≤n→dvd (ge n p q) p∧dvd (ge n p q) q
  |0,p,q,_,_,hn=>by
    refine ⟨⟨[1],fun t=> ?_⟩,⟨[],fun t=> ?_⟩⟩
    · show ev t p=ev t p*(0*t+1);grind
    · rw [List.length_eq_zero_iff.1 (show q.length = 0 by omega)]
      show (0:Rat)=_*0;grind
  |n+1,p,q,hp,hq,hn=>by
    by_cases h:q.length=0
    · rw [ge_nil h]
      refine ⟨⟨[1],fun t=> ?_⟩,⟨[],fun t=> ?_⟩⟩
      · show ev t p=ev t p*(0*t+1);grind
      · rw [List.length_eq_zero_iff.1 h]
        show (0:Rat)=_*0;grind
    · have e : ge (n + 1) p q = ge n q (mo (dr p q)) := if_neg h
      have hlt:=dr_less (p:=p) hq h
      have hml:=mo_len (dr p q)
      obtain ⟨⟨u,hu⟩,⟨v,hv⟩⟩:=ge_dvd n q (mo (dr p q)) hq (mo_cl _) (by omega)
      rw [e]
      refine ⟨⟨add (mul (dq p q) u) (mul v [lead (dr p q)]),fun t=> ?_⟩,u,hu⟩
      rw [div_ev hp hq h,ev_add,ev_mul,ev_mul,←mo_ev (dr_cl p q),hu,hv]
      show _=_*(_+_*(0*t+lead (dr p q)))
      grind
theorem gcd_dvd (p q:List Rat) (hp:cl p=p) (hq:cl q=q):dvd (gcd p q) p∧dvd (gcd p q) q:=by
  have h:=ge_dvd (cl q).length (mo (cl p)) (mo (cl q)) (mo_cl _) (mo_cl _) (mo_len _)
  obtain ⟨⟨u,hu⟩,⟨v,hv⟩⟩:=h
  unfold gcd
  refine ⟨⟨mul u [lead p],fun t=> ?_⟩,⟨mul v [lead q],fun t=> ?_⟩⟩
  · rw [ev_mul, ← Rat.mul_assoc, ← hu, hp, ← mo_ev hp]
    show _=_*(0*t+lead p);grind
  · rw [ev_mul, ← Rat.mul_assoc, ← hv, hq, ← mo_ev hq]
    show _=_*(0*t+lead q);grind
theorem co_top {f g:Nat→Rat} {a b:Nat} (hf:∀i,a<i→f i=0) (hg:∀i,b<i→g i=0):∀n,n≤a+b+1→co f g (a+b) n=if a<n then f a*g b else 0
  |0,_=>by rw [if_neg (by omega)];rfl
  |n+1,hn=>by
    show co f g (a+b) n+f n*g (a+b - n)=_
    rw [co_top hf hg n (by omega)]
    by_cases h1:n<a
    · rw [if_neg (by omega),if_neg (by omega),hg (a+b - n) (by omega)];grind
    · by_cases h2 : n = a
      · subst h2
        rw [if_neg (by omega),if_pos (by omega),show n+b - n=b by omega];grind
      · rw [if_pos (by omega),if_pos (by omega),hf n (by omega)];grind
theorem mul_length {p q:List Rat} (hp:cl p=p) (hq:cl q=q) (h1:p.length≠0) (h2:q.length≠0):(mul p q).length=p.length+q.length - 1:=by
  refine Nat.le_antisymm (mul_len p q) (Decidable.byContradiction fun k=> ?_)
  have e:=mul_get p q (p.length - 1+(q.length - 1))
  rw [gD0 (by omega)] at e
  unfold C at e
  rw [co_top (fun i hi=>gD0 (by omega)) (fun i hi=>gD0 (by omega)) _ (Nat.le_refl _),if_pos (by omega)] at e
  rcases Rat.mul_eq_zero.1 e.symm with k|k
  · exact last_ne hp h1 k
  · exact last_ne hq h2 k
theorem dr_dvd {p g:List Rat} (hp:cl p=p) (hg:cl g=g) (h:g.length≠0) (k:dvd g p):dr p g=[]:=by
  obtain ⟨u,hu⟩:=k
  have hlt:=dr_less (p:=p) hg h
  have e:dr p g=mul g (sub u (dq p g)):=ev_ext' (dr_cl _ _) (mul_cl _ _) fun t=>by
    have h1:=div_ev hp hg h t
    rw [ev_mul,ev_sub]
    rw [hu t] at h1
    grind
  by_cases h0:(sub u (dq p g)).length=0
  · rw [e,List.length_eq_zero_iff.1 h0,mul_comm',mul_nil]
  · have := mul_length hg (sub_cl u (dq p g)) h h0
    rw [← e] at this
    omega
theorem exact_mul {p g:List Rat} (hp:cl p=p) (hg:cl g=g) (h:g.length≠0) (k:dvd g p):mul (dq p g) g=p:=ev_ext' (mul_cl _ _) hp fun t=>by
  have:=div_ev hp hg h t
  rw [dr_dvd hp hg h k] at this
  rw [ev_mul,this]
  show _=_+(0:Rat);grind
theorem ev_lin (t x:Rat):ev t [-x,1]=t - x:=by show (0*t+1)*t+ -x=t - x;grind
theorem der_syn {x:Rat} {h:List Rat} (h0:ev x h=0) (t:Rat):ev t (der h)=ev t (syn x h)+(t - x)*ev t (der (syn x h)):=by
  have e:der h=der (mul [-x,1] (syn x h)):=der_ext fun t=>by rw [ev_mul,ev_lin,syn_ev x t h,h0];grind
  rw [e,der_mul,ev_add,ev_mul,ev_mul,ev_lin]
  have:ev t (der [-x,1])=1:=by
    have:der [-x,1]=[1]:=zRa (der_cl _) (by decide +kernel) fun i=>by
      rw [der_get]
      match i with
      |0=>show ((1:Int):Rat)*1=1;decide +kernel
      |i+1=>show _*(0:Rat)=0;rw [Rat.mul_zero]
    rw [this];show 0*t+1=1;grind
  rw [this];grind
theorem root_key (x:Rat) (q w:List Rat):∀(n:Nat) (h:List Rat) (k:Rat),h.length≤n→0≤k→(k≠0∨ev x h=0)→(∃t,ev t h≠0)→
    (∀t,k*ev t q*ev t h+(t - x)*ev t q*ev t (der h)=(t - x)*ev t h*ev t w)→ev x q=0
  |0,h,k,hn,_,_,⟨t,ht⟩,_=>absurd (by rw [List.length_eq_zero_iff.1 (show h.length=0 by omega)];rfl) ht
  |n+1,h,k,hn,hk,hc,⟨t0,ht0⟩,e=>by
    by_cases hx:ev x h=0
    · have hd := der_syn hx
      have hs:∀t,ev t h=(t - x)*ev t (syn x h):=fun t=>by rw [syn_ev x t h,hx];grind
      refine root_key x q w n (syn x h) (k+1) (by rw [syn_len];omega) (by grind) (.inl (by grind)) ⟨t0,fun z=>ht0 (by rw [hs,z];grind)⟩ fun t=> ?_
      have hv:=ev_vanish _ (sub (add (mul [k+1] (mul q (syn x h))) (mul [-x,1] (mul q (der (syn x h))))) (mul [-x,1] (mul (syn x h) w))) (Nat.le_refl _) [x] (fun s hs2=>by
        have hsx:s - x≠0:=fun z=>hs2 (List.mem_cons.2 (.inl (by grind)))
        rw [ev_sub,ev_add,ev_mul,ev_mul,ev_mul,ev_mul,ev_mul,ev_mul,ev_lin,show ev s [k+1]=k+1 by show 0*s+(k+1)=k+1;grind]
        have e1:=e s
        rw [hd s,hs s] at e1
        have e2:(s - x)*((k+1)*(ev s q*ev s (syn x h))+(s - x)*(ev s q*ev s (der (syn x h))) - (s - x)*(ev s (syn x h)*ev s w))=0:=by grind
        rcases Rat.mul_eq_zero.1 e2 with z|z
        · exact absurd z hsx
        · exact z) t
      rw [ev_sub,ev_add,ev_mul,ev_mul,ev_mul,ev_mul,ev_mul,ev_mul,ev_lin,show ev t [k+1]=k+1 by show 0*t+(k+1)=k+1;grind] at hv
      grind
    · have hk0 : k ≠ 0 := hc.resolve_right hx
      have e1:=e x
      have e2:k*ev x q*ev x h=0:=by grind
      rcases Rat.mul_eq_zero.1 e2 with z|z
      · rcases Rat.mul_eq_zero.1 z with z | z
        · exact absurd z hk0
        · exact z
      · exact absurd z hx
theorem ev_some {l:List Rat} (hl:cl l=l) (h:l.length≠0):∃t,ev t l≠0:=Classical.byContradiction fun k=>last_ne hl h (ev_coef l (fun t=>Decidable.byContradiction fun z=>k ⟨t,z⟩) _)
theorem sqf_root {p:List Rat} (hp:(cl p).length≠0) (x:Rat):ev x (sqf p)=0↔ev x p=0:=by
  have hc:=cl_cl p
  have hg:=gcd_cl (cl p) (der (cl p))
  have hn:(gcd (cl p) (der (cl p))).length≠0:=gcd_ne (by rw [hc];exact hp)
  obtain ⟨d1,v,hv⟩:=gcd_dvd (cl p) (der (cl p)) hc (der_cl _)
  have hm:=exact_mul hc hg hn d1
  have he:sqf p=mo (dq (cl p) (gcd (cl p) (der (cl p)))):=if_neg hp
  generalize hG:gcd (cl p) (der (cl p))=g at*
  generalize hQ:dq (cl p) g=q at*
  have hqc:cl q=q:=by rw [← hQ];exact dq_cl _ _
  have hpx:ev x p=ev x q*ev x g:=by rw [← ev_cl,←hm,ev_mul]
  have hqn:q.length≠0:=fun z=>by
    rw [List.length_eq_zero_iff.1 z,mul_nil] at hm
    exact hp (by rw [← hm];rfl)
  have hq0:ev x (sqf p)=0↔ev x q=0:=by
    have:=mo_ev hqc x
    rw [he]
    constructor
    · intro z;rw [z] at this;grind
    · intro z
      rw [z] at this
      rcases Rat.mul_eq_zero.1 this with k|k
      · exact k
      · exact absurd k (last_ne hqc hqn)
  rw [hq0,hpx]
  constructor
  · intro z;rw [z];grind
  · intro z
    rcases Rat.mul_eq_zero.1 z with z|z
    · exact z
    · refine root_key x q (sub v (der q)) g.length g 0 (Nat.le_refl _) (by grind) (.inr z) (ev_some hg hn) fun t => ?_
      have e1:ev t (der (cl p))=ev t (der q)*ev t g+ev t q*ev t (der g):=by
        have:der (cl p)=der (mul q g):=by rw [hm]
        rw [this,der_mul,ev_add,ev_mul,ev_mul]
      rw [hv t] at e1
      rw [ev_sub]
      grind
end Go.Proofs.YtahiajepeodhoaaGreat.Po
namespace Go.Proofs.YtahiajepeodhoaaGreat.Po
open Go.Proofs.YtahiajepeodhoaaGreat.Big
theorem half2:Rat.divInt 1 2*2=1:=by decide +kernel
theorem sqf_nil (p:List Rat):(sqf p).length=0↔(cl p).length=0:=by
  constructor
  · intro h
    refine Decidable.byContradiction fun k=> ?_
    have he:sqf p=mo (dq (cl p) (gcd (cl p) (der (cl p)))):=if_neg k
    have hn:(gcd (cl p) (der (cl p))).length≠0:=gcd_ne (by rw [cl_cl];exact k)
    have hm:=exact_mul (cl_cl p) (gcd_cl (cl p) (der (cl p))) hn (gcd_dvd (cl p) (der (cl p)) (cl_cl p) (der_cl _)).1
    rw [he,mo_length (dq_cl _ _)] at h
    rw [List.length_eq_zero_iff.1 h,mul_nil] at hm
    exact k (by rw [← hm];rfl)
  · intro h
    unfold sqf
    rw [if_pos h];rfl
theorem sturm_nil (p:List Rat):(sturm p).length=0↔(cl p).length=0:=by
  rw [← sqf_nil]
  unfold sturm
  split
  · rename_i h;exact ⟨fun _=>h,fun _=>rfl⟩
  · rename_i h;exact ⟨fun k=>by simp at k,fun k=>absurd k h⟩
end Go.Proofs.YtahiajepeodhoaaGreat.Po
namespace Go.Proofs.YtahiajepeodhoaaGreat.Cam
open Big
set_option linter.unusedVariables false
theorem evd_hq {x:Rat} {K L:Nat} {l:List Rat} (h:Po.bd K l) (hx:hq x≤L) (hl:l.length≤9) (i:Nat):hq (Po.ev x (l.drop i))≤1+9*(K+L+1):=by
  have a:=Po.ev_hq (K:=K) hx (l:=l.drop i) (hqA_drop h i)
  have b:(l.drop i).length*(K+L+1)≤9*(K+L+1):=Nat.mul_le_mul_right _ (by rw [List.length_drop];omega)
  omega
theorem pos_no {p:List Rat} {t:Rat} (h:Po.ev ((0:Int):Rat) p≤0):pos p t=false:=by unfold pos;rw [if_pos h]
theorem pos_su {p:List Rat} {t:Rat} (h:¬Po.ev ((0:Int):Rat) p≤0) (k:sure 5 (bern p t)≠0):pos p t=decide (0<sure 5 (bern p t)):=by unfold pos;rw [if_neg h,if_pos k]
theorem pos_ct {p:List Rat} {t:Rat} (h:¬Po.ev ((0:Int):Rat) p≤0) (k:¬sure 5 (bern p t)≠0):pos p t=decide (Po.bt (Po.sturm p) ((0:Int):Rat) t=0):=by unfold pos;rw [if_neg h,if_neg k]
theorem pos_len {p:List Rat} (h:¬Po.ev ((0:Int):Rat) p≤0):1≤p.length:=by
  cases p with
  |nil=>exact absurd (show Po.ev ((0:Int):Rat) []≤0 from by show (0:Rat)≤0;exact Rat.le_refl) h
  |cons a l=>exact Nat.succ_le_succ (Nat.zero_le _)
theorem bern_cb {l:List Rat} {t:Rat} (hl:hqA 10000 l) (ht:hq t≤100) (h:l.length≤9):Po.cb 900001 (bern l t):=by
  refine Po.cb_mono (Po.cb_of_bd (k:=100000) (bern_hq hl ht h)) ?_
  rw [bern_len];omega
theorem lim_0 (e:Ln):¬lim e<((0:Int):Rat):=by
  have : 0 ≤ lim e := by unfold lim; rcases Rat.le_total (a := 0) (b := Rat.divInt e.fd e.f) with h | h
                         · exact Rat.mul_nonneg h h
                         · have := Rat.mul_nonneg (a := -Rat.divInt e.fd e.f) (b := -Rat.divInt e.fd e.f) (by grind) (by grind)
                           grind
  rw [show ((0:Int):Rat)=0 from rfl]
  grind
theorem csz {K L:Nat} {p q:List Rat} (h1:Po.bd K p) (h2:Po.bd L q) (hl:p.length≤9) (hK:K≤100000) (hL:L≤100000):∀k lo n,lo+n≤k+1→hq (Po.cv (Po.cl p) (Po.cl q) k lo n)≤200000000000:=fun k lo n _=>
  Po.cv_hq_of (N:=9) (Po.bd_cl h1) (Po.bd_cl h2) (Nat.le_trans (Po.cl_le_len _) hl) (by omega) k lo n
theorem bd1 {x:Rat} {K:Nat} (h:hq x≤K):Po.bd K [x]:=fun i=>by
  cases i with
  |zero=>exact h
  |succ i=>show hq (0:Rat)≤K;rw [hq_zero];have:=hq_pos x;omega
def pp (e:Ln) (i:Nat):List Rat:=[rl e,alo e].getD i []
theorem pp_0 (e:Ln):pp e 0=rl e:=rfl
theorem pp_1 (e:Ln):pp e 1=alo e:=rfl
theorem pp_cb {e:Ln} (h:In e):∀i,i<2→Po.cb 19 (pp e i)
  |0,_=>Po.cb_mono (rl_cb h) (by decide)
  |1,_=>alo_cb h
theorem pp_len {e:Ln}:∀i,(pp e i).length≤4
  |0=>rl_len e
  |1=>alo_len e
  |n+2=>Nat.zero_le _
theorem adm_no {e:Ln} {k:Int} {i:Nat} (hi:i<2) (h:¬adm1 e k (pp e i)=true):adm e k=false:=by
  unfold adm
  rcases (show i=0∨i=1 by omega) with rfl|rfl
  · rw [pp_0] at h
    rw [Bool.eq_false_iff.2 h];rfl
  · rw [pp_1] at h
    rw [Bool.eq_false_iff.2 h,Bool.and_false]
theorem adm_yes {e:Ln} {k:Int} (h:∀i,i<2→adm1 e k (pp e i)=true):adm e k=true:=by
  unfold adm
  have h0:=h 0 (by decide)
  have h1:=h 1 (by decide)
  rw [pp_0] at h0
  rw [pp_1] at h1
  rw [h0,h1];rfl
theorem adm1_f {e:Ln} {k:Int} {p:List Rat} (h:(!pos (dk p k) (lim e))=true):true=decide (¬adm1 e k p=true):=by
  have h1:pos (dk p k) (lim e)=false:=by simpa using h
  unfold adm1
  rw [h1];rfl
theorem adm1_t {e:Ln} {k:Int} {p:List Rat} (h:(!pos (dk p k) (lim e))=false):(!pos (dd e p k) (lim e))=decide (¬adm1 e k p=true):=by
  have h1:pos (dk p k) (lim e)=true:=by simpa using h
  unfold adm1
  rw [h1]
  cases pos (dd e p k) (lim e) <;> rfl
theorem srch_done {f:Nat→Bool} {n i j:Nat} (h:¬i<j):srch f n i j=i:=by
  cases n with
  |zero=>rfl
  |succ n=>unfold srch;rw [if_neg h]
theorem srch_lo {f:Nat→Bool} {n i j:Nat} (h:i<j) (k:¬f ((i+j) / 2)=true) (hn:0<n):srch f n i j=srch f (n - 1) ((i+j) / 2+1) j:=by
  obtain ⟨m,rfl⟩:∃m,n=m+1:=⟨n - 1,by omega⟩
  conv=>lhs;unfold srch
  rw [if_pos h,if_neg k,Nat.add_sub_cancel]
theorem srch_hi {f:Nat→Bool} {n i j:Nat} (h:i<j) (k:f ((i+j) / 2)=true) (hn:0<n):srch f n i j=srch f (n - 1) i ((i+j) / 2):=by
  obtain ⟨m,rfl⟩:∃m,n=m+1:=⟨n - 1,by omega⟩
  conv=>lhs;unfold srch
  rw [if_pos h,if_pos k,Nat.add_sub_cancel]
theorem srch_le {f:Nat→Bool}:∀(n i j:Nat),i≤j→srch f n i j≤j
  |0,i,j,h=>h
  |n+1,i,j,h=>by
    unfold srch
    split
    · split
      · have:=srch_le (f:=f) n i ((i+j) / 2) (by omega);omega
      · exact srch_le n _ j (by omega)
    · exact h
theorem srch_below {f:Nat→Bool}:∀(n i j:Nat),(0<i→f (i - 1)=false)→0<srch f n i j→f (srch f n i j - 1)=false
  |0,i,j,h,hp=>h hp
  |n+1,i,j,h,hp=>by
    unfold srch at hp ⊢
    split
    · rename_i hij
      rw [if_pos hij] at hp
      split
      · rename_i hf
        rw [if_pos hf] at hp
        exact srch_below n i _ h hp
      · rename_i hf
        rw [if_neg hf] at hp
        exact srch_below n _ j (fun _=>by rw [Nat.add_sub_cancel];exact Bool.eq_false_iff.2 hf) hp
    · rename_i hij
      rw [if_neg hij] at hp
      exact h hp
theorem md_le (e:Ln):md e≤255:=srch_le _ _ _ (by decide)
theorem md_adm {e:Ln} (h:md e≠0):adm e ((md e:Nat):Int)=true:=by
  have:=srch_below (f:=fun i=> !adm e ((i+1:Nat):Int)) 255 0 255 (fun h=>by omega) (Nat.pos_of_ne_zero h)
  rw [Bool.not_eq_false'] at this
  rw [show srch (fun i=> !adm e ((i+1:Nat):Int)) 255 0 255 - 1+1=md e by show md e - 1+1=md e;omega] at this
  exact this
end Go.Proofs.YtahiajepeodhoaaGreat.Cam
namespace Go.Proofs.YtahiajepeodhoaaGreat.Sp
open Go
set_option linter.unusedVariables false
set_option maxRecDepth 100000
set_option maxHeartbeats 8000000
theorem zOe {p:Option Addr} {n:Nat} {cap:Nat} {l:List Rat} {wt1:Wd} {wt2:Wd} {t:Rat} (hn:l.length=n) (hn7:n≤7) (hc:Po.cb 110 l) (hcl:Po.cl l=l) (ht:yg t≤100) (ht0:¬t<((0:Int):Rat)):Con ye 78 [.slice p n cap,.agg #[wt1.b,wt1.l,wt2.b,wt2.l]] [] [slF rQ p cap l,qF true wt1 wt2 t] (Y:=Unit) (fun y=>True) (fun y=> .bool (Cam.pos l t)) (fun y=>[]) (fun y=>[]):=by
 refine zl Tryz.func78 rfl rfl rfl (fun c=> ?_)
 show RunC _ _ _ _ _ [(0,.slice p n cap),(1,.agg #[wt1.b,wt1.l,wt2.b,wt2.l])] [] [slF rQ p cap l,qF true wt1 wt2 t]
 refine zU 0 rfl (fun hL0=> ?_)
 have hb:=Po.cb_bd hc
 have hlA:Cam.hqA 10000 l:=fun i=>Nat.le_trans (hb i) dd
 have hz0:yg ((0:Int):Rat)≤3:=by decide
 obtain ⟨hsk1,hsk2⟩:=Po.sok7 (p:=l) om hc
 refine ze<|za<|zI rfl rfl (zR rfl rfl) (fun b1=> ?_)
 refine e_p (zb rfl)<|zf<|zd<|ze<|ze<|za<|e_mv rfl<|zm rfl rfl (.c rfl .n) ce58 (zxa (z:=0) (hz:=by first|rfl|assumption|omega|decide)) (.n) ?_
 rintro ⟨w32,w43⟩ -
 dsimp only [aq,nq,cq]
 refine zna (addQe 0 rfl)<|zna (addQE 2 rfl)<|zm rfl rfl (.c rfl (.c rfl .n)) ce70 (zmd (p1:=p) (n1:=n) (c1:=cap) (l1:=(l.map some)) (u1:=w32) (v1:=w43) (x1:=(some ((0:Int):Rat))) (hn1:=by exact (List.length_map _).trans hn) (hm1:=by first|rfl|assumption|omega|decide) (hx:=by first|rfl|assumption|omega|decide) (hb1:=by intro i;rw [Po.msome];exact Nat.le_trans (hb i) dd) (hs:=by intro i;rw [Po.vals_some];exact Nat.le_trans (Cam.evd_hq hb hz0 om i) dd)) (.c (j:=0) rfl (.c (j:=1) rfl .n)) ?_
 rintro ⟨w34,w45⟩ -
 dsimp only [aq,nq,cq]
 have e6:(Po.ev ((some ((0:Int):Rat)).getD 0) (Po.vals (l.map some)):Rat)=Po.ev ((0:Int):Rat) l:=by rw [Po.vals_some];rfl
 rw [e6]
 refine zJ rfl rfl (.c rfl .n) ce98 (zFb (k1:=true) (u1:=w34) (v1:=w45) (q1:=(Po.ev ((0:Int):Rat) l))) (.c (j:=0) rfl .n)<|e_p (zxb rfl rfl)<|zf<|zd<|zG rfl (fun h12=> ?_) (fun h12=> ?_)
 ·
  refine ze<|za<|e_p (zb rfl)<|zf<|zd<|zC<|zk ?_
  exact zu Tryz.results78 () trivial (zn rfl) (by rw [Cam.pos_no (Big.sgq_le.1 h12)]) (ho:=oN) sN
 ·
  have he0:¬Po.ev ((0:Int):Rat) l≤0:=fun k=>h12 (Big.sgq_le.2 k)
  have hn1:1≤n:=by have h9:=Cam.pos_len he0;omega
  refine zB<|zd<|ze<|ze<|za<|e_mv rfl<|e_ru (zc 0 ty32 rfl rfl (.t4 .nil))<|zm rfl rfl (.c rfl (.c rfl .n)) ce106 (zOf (p:=p) (n:=n) (cap:=cap) (l:=l) (wt1:=wt1) (wt2:=wt2) (t:=t) (hn:=ass) (hn1:=by first|rfl|assumption|omega|decide) (hn9:=by first|rfl|assumption|omega|decide) (hl:=by exact hlA) (ht:=ass)) (.c (j:=4) rfl (.c (j:=5) rfl .n)) ?_
  rintro ⟨p97,c98⟩ -
  dsimp only [aq,nq,cq]
  refine zJ rfl rfl (.c rfl (.c rfl .n)) ce105 (zff (p:=p97) (n:=n) (cap:=c98) (l:=(Cam.bern l t)) (K:=900001) (d:=5) (hn:=by exact (Cam.bern_len l t).trans hn) (hn1:=by first|rfl|assumption|omega|decide) (hn9:=by first|rfl|assumption|omega|decide) (hc:=by exact Cam.bern_cb hlA ht om) (hK:=by first|rfl|assumption|omega|decide)) (.c (j:=0) rfl .n)<|e_p (zb rfl)<|zf<|zd<|ze<|za<|e_mv rfl<|e_p (zib rfl rfl)<|zf<|zd<|zG rfl (fun h18=> ?_) (fun h18=> ?_)
  ·
   refine ze<|za<|e_mv rfl<|e_p (zCa rfl rfl)<|e_p (zb rfl)<|zf<|zd<|zC<|zk ?_
   exact zu Tryz.results78 () trivial (zn rfl) (by rw [Cam.pos_su he0 h18]) (ho:=oN) sN
  ·
   refine zB<|zd<|ze<|zV (OW:=[]) (O:=[boxA b1 32 (cw [wt1,wt2])]) 100000 mixed (.then .ret) kr<|e_dm 0 rfl rfl rfl<|e_u 2 rfl rfl (zc 0 ty32 rfl rfl (.t4 .nil))<|e_one 1 (zp rfl rfl rfl rfl (.c rfl .n) ce58 (zxa (z:=0) (hz:=by first|rfl|assumption|omega|decide)) (.n) ?_)
   rintro ⟨w39,w410⟩ -
   dsimp only [aq,nq,cq]
   refine e_one 3 (zbb rfl rfl rfl rfl (.c rfl (.c rfl (.c rfl .n))) ce107 (zjf (p1:=p) (n1:=n) (c1:=cap) (l1:=(l.map some)) (u1:=w39) (v1:=w410) (x1:=((0:Int):Rat)) (u2:=wt1) (v2:=wt2) (x2:=t) (hn1:=by exact (List.length_map _).trans hn) (hm1:=by first|rfl|assumption|omega|decide) (hok:=by rw [Po.vals_some];exact hsk1) (hne:=by rw [Po.vals_some];exact fun k=>absurd ((Po.sturm_nil l).1 k) (by rw [hcl];omega)) (hlS:=by rw [Po.vals_some];have h9:=Po.sturm_len l;omega) (hx1:=by first|rfl|assumption|omega|decide) (hx2:=by first|rfl|assumption|omega|decide) (hv1:=by rw [Po.vals_some];exact Po.vok_sturm hsk2 (Nat.le_trans hz0 dd)) (hv2:=by rw [Po.vals_some];exact Po.vok_sturm hsk2 (Nat.le_trans ht dd)) (hle:=ass)) (.c (j:=3) rfl (.c (j:=0) rfl (.c (j:=7) rfl .n))) ?_)
   refine e_dm 4 rfl rfl rfl<|e_pv 5 rfl rfl (zq rfl rfl)<|e_pv 6 rfl rfl (zq rfl rfl)<|e_pv 7 rfl rfl (zb rfl)<|e_pv 8 rfl rfl (zb rfl)<|zH kr<|zd<|ze<|za<|e_mv rfl<|e_p (zwa rfl rfl)<|e_p (zb rfl)<|zf<|zd<|zC ?_
   exact zu Tryz.results78 () trivial (zn rfl) (by rw [Cam.pos_ct he0 h18,Po.vals_some]) (ho:=oN) sN
end Go.Proofs.YtahiajepeodhoaaGreat.Sp
namespace Go.Proofs.YtahiajepeodhoaaGreat.Sp
open Go
set_option linter.unusedVariables false
set_option maxRecDepth 100000
set_option maxHeartbeats 1000000
theorem zog {e:Cam.Ln} {wa1:Wd} {wa2:Wd} {wb1:Wd} {wb2:Wd} {wc1:Wd} {wc2:Wd} {wp1:Wd} {wp2:Wd} {wq1:Wd} {wq2:Wd} {wt1:Wd} {wt2:Wd} {pm:Option Addr} {cm:Nat} {k:Int} (hin:Cam.In e) (hok:Cam.ok e) (hk:1≤k∧k≤255):Con ye 46 [.agg #[wa1.b,wa1.l,wa2.b,wa2.l,wb1.b,wb1.l,wb2.b,wb2.l,wc1.b,wc1.l,wc2.b,wc2.l,wp1.b,wp1.l,wp2.b,wp2.l,wq1.b,wq1.l,wq2.b,wq2.l,wt1.b,wt1.l,wt2.b,wt2.l,.slice pm ((Cam.rl e).length) cm],.int .i64 k] [] [qF true wa1 wa2 (Rat.divInt e.r0 0x100000),qF true wb1 wb2 (Rat.divInt e.r1 0x100000),qF true wc1 wc2 (Rat.divInt e.r2 0x100000),qF true wp1 wp2 (Cam.tP1 e),qF true wq1 wq2 (Cam.tP2 e),qF true wt1 wt2 (Cam.lim e),slF rQ pm cm (Cam.rl e)] (Y:=Unit) (fun y=>True) (fun y=> .bool (Cam.adm e k)) (fun y=>[]) (fun y=>[]):=by
 refine zl Tryz.func46 rfl rfl rfl (fun c=> ?_)
 show RunC _ _ _ _ _ [(0,.agg #[wa1.b,wa1.l,wa2.b,wa2.l,wb1.b,wb1.l,wb2.b,wb2.l,wc1.b,wc1.l,wc2.b,wc2.l,wp1.b,wp1.l,wp2.b,wp2.l,wq1.b,wq1.l,wq2.b,wq2.l,wt1.b,wt1.l,wt2.b,wt2.l,.slice pm ((Cam.rl e).length) cm]),(1,.int .i64 k)] [] [qF true wa1 wa2 (Rat.divInt e.r0 0x100000),qF true wb1 wb2 (Rat.divInt e.r1 0x100000),qF true wc1 wc2 (Rat.divInt e.r2 0x100000),qF true wp1 wp2 (Cam.tP1 e),qF true wq1 wq2 (Cam.tP2 e),qF true wt1 wt2 (Cam.lim e),slF rQ pm cm (Cam.rl e)]
 refine zU 6 rfl (fun hL6=> ?_)
 have hlq:=Cam.lim_hq hin hok
 have hl0:=Cam.lim_0 e
 have hrb:=Po.cb_bd (Cam.rl_cb hin)
 have hrl:=Cam.rl_len e
 have hdl:=Po.der_len (Cam.rl e)
 have hdb:=Po.cb_bd (Po.cb_der (Cam.rl_cb hin) om)
 have hxb:=Po.cb_bd Cam.xx_cb
 have hmb:=Po.cb_bd (Cam.xd_cb hin)
 have hml:=Cam.xd_len e
 have hsb:=Po.cb_bd (Cam.x2_cb hin)
 have hsl:=Cam.x2_len e
 have htb:=Po.cb_bd (Cam.tan_cb hin)
 have htl:=Cam.tan_len e
 have hkb:=Cam.bd1 (Cam.k_hq hk)
 have h2b:=Cam.bd1 (x:=((2:Int):Rat)) (K:=1) dd
 obtain ⟨hp1,hp2,hp3,hp4⟩:=Cam.zvg hin
 have ht1:=Cam.tq1 hin
 have ht2:=Cam.tq2 hin
 have hqb:=Cam.bd1 hp4
 refine ze<|za<|zI rfl rfl (zR rfl rfl) (fun b1=> ?_)
 refine e_p (zb rfl)<|zf<|zd<|ze<|znc 0 rfl .z<|za<|e_mv rfl<|zm rfl rfl (.c rfl (.c rfl .n)) ce47 (zwb (z1:=k) (z2:=256) (hz1:=by first|omega|assumption|rfl|decide|(simp;done)) (hz2:=by first|omega|assumption|rfl|decide|(simp;done)) (hy:=by first|omega|assumption|rfl|decide|(simp;done))) (.n) ?_
 rintro ⟨w32,w43⟩ -
 dsimp only [aq,nq,cq]
 refine zva rfl rfl (zA (r:=rQ) (k:=1) ya inf32 rfl dd dd dd (.c (x:=(Rat.divInt k 256)) (cs:=[w32.b,w32.l,w43.b,w43.l]) (w32,w43) rfl rfl rfl (fun g hr=>Holds.get 0 rfl hr) .n)) (fun b4 _=> ?_)
 refine e_p (zb rfl)<|zf<|zd<|ze<|za<|zm rfl rfl (.c rfl .n) ce58 (zxa (z:=0) (hz:=by first|omega|assumption|rfl|decide|(simp;done))) (.n) ?_
 rintro ⟨w35,w46⟩ -
 dsimp only [aq,nq,cq]
 refine zm rfl rfl (.c rfl .n) ce58 (zxa (z:=1) (hz:=by first|omega|assumption|rfl|decide|(simp;done))) (.n) ?_
 rintro ⟨w37,w48⟩ -
 dsimp only [aq,nq,cq]
 refine zva rfl rfl (zA (r:=rQ) (k:=2) ya inf32 rfl dd dd dd (.c (x:=((0:Int):Rat)) (cs:=[w35.b,w35.l,w46.b,w46.l]) (w35,w46) rfl rfl rfl (fun g hr=>Holds.get 1 rfl hr) (.c (x:=((1:Int):Rat)) (cs:=[w37.b,w37.l,w48.b,w48.l]) (w37,w48) rfl rfl rfl (fun g hr=>Holds.get 0 rfl hr) .n))) (fun b9 _=> ?_)
 refine e_p (zb rfl)<|zf<|zd<|ze<|zjb 0 rfl .z ?_
 have e10:([((0:Int):Rat),((1:Int):Rat)]:List Rat)=Cam.xx:=by rfl
 rw [e10]
 refine zjb 1 rfl (.s .z)<|zV (OW:=[]) (O:=[emA,emA,emA]) 100000 mixed (.then .ret) kr<|e_pv 0 rfl rfl (zg yc rfl sz60 rfl rfl)<|e_u 1 rfl rfl (zt (j:=24) 5 ty60 rfl rfl rfl rfl)<|e_dm 2 rfl rfl rfl<|e_pv 3 rfl rfl (zg yc rfl sz60 rfl rfl)<|e_u 4 rfl rfl (zt (j:=24) 5 ty60 rfl rfl rfl rfl) ?_
 first|refine zNa (addQE 12 rfl) ?_|refine zCb (addQE 12 rfl) ?_
 refine e_one 5 (zp rfl rfl rfl rfl (.c rfl .n) ce76 (zjc (p1:=pm) (n1:=(Cam.rl e).length) (c1:=cm) (l1:=((Cam.rl e).map some)) (hn1:=by exact List.length_map _) (hm1:=by first|omega|assumption|rfl|decide|(simp;done)) (hb1:=by intro i;rw [Po.msome];exact Nat.le_trans (hrb i) dd)) (.c (j:=0) rfl .n) ?_)
 rintro ⟨p911,c912⟩ -
 dsimp only [aq,nq,cq]
 have e13:(Po.der (Po.vals ((Cam.rl e).map some)):List Rat)=Po.der (Cam.rl e):=by first|(rw [Po.vals_some];done)|(rw [Po.vals_some];rfl)
 rw [e13]
 first|refine zNa (addQE 3 rfl) ?_|refine zCb (addQE 3 rfl) ?_
 first|refine zNa (addQE 1 rfl) ?_|refine zCb (addQE 1 rfl) ?_
 refine e_one 6 (zp rfl rfl rfl rfl (.c rfl (.c rfl .n)) ce75 (zXc (p1:=some ⟨b9,0,none⟩) (n1:=2) (c1:=2) (l1:=(Cam.xx.map some)) (p2:=p911) (n2:=(Po.der (Cam.rl e)).length) (c2:=c912) (l2:=((Po.der (Cam.rl e)).map some)) (hn1:=by exact List.length_map _) (hm1:=by first|omega|assumption|rfl|decide|(simp;done)) (hn2:=by exact List.length_map _) (hm2:=by first|omega|assumption|rfl|decide|(simp;done)) (hm12:=by first|omega|assumption|rfl|decide|(simp;done)) (hb1:=by rw [Po.vals_some];exact fun i=>Nat.le_trans (hxb i) dd) (hb2:=by rw [Po.vals_some];exact fun i=>Nat.le_trans (hdb i) dd) (hs:=by rw [Po.vals_some,Po.vals_some];exact Cam.csz hxb hdb dd dd dd)) (.c (j:=1) rfl (.c (j:=0) rfl .n)) ?_)
 rintro ⟨p914,c915⟩ -
 dsimp only [aq,nq,cq]
 have e16:(Po.mul (Po.vals (Cam.xx.map some)) (Po.vals ((Po.der (Cam.rl e)).map some)):List Rat)=Po.mul Cam.xx (Po.der (Cam.rl e)):=by first|(rw [Po.vals_some,Po.vals_some];done)|(rw [Po.vals_some,Po.vals_some];rfl)
 rw [e16]
 refine e_one 7 (zp rfl rfl rfl rfl (.c rfl .n) ce58 (zxa (z:=2) (hz:=by first|omega|assumption|rfl|decide|(simp;done))) (.n) ?_)
 rintro ⟨w317,w418⟩ -
 dsimp only [aq,nq,cq]
 first|refine zNa (addQe 0 rfl) ?_|refine zCb (addQe 0 rfl) ?_
 first|refine zNa (addQE 2 rfl) ?_|refine zCb (addQE 2 rfl) ?_
 refine e_one 8 (zp rfl rfl rfl rfl (.c rfl (.c rfl .n)) ce74 (zac (p1:=p914) (n1:=(Po.mul Cam.xx (Po.der (Cam.rl e))).length) (c1:=c915) (l1:=((Po.mul Cam.xx (Po.der (Cam.rl e))).map some)) (u1:=w317) (v1:=w418) (x1:=(some ((2:Int):Rat))) (hn1:=by exact List.length_map _) (hm1:=by first|omega|assumption|rfl|decide|(simp;done)) (hm9:=by first|omega|assumption|rfl|decide|(simp;done)) (hb1:=by rw [Po.vals_some];exact fun i=>Nat.le_trans (hmb i) dd) (hb2:=by exact fun i=>Nat.le_trans (h2b i) dd) (hs:=by rw [Po.vals_some];exact Cam.csz hmb h2b om dd dd)) (.c (j:=0) rfl (.c (j:=1) rfl .n)) ?_)
 rintro ⟨p919,c920⟩ -
 dsimp only [aq,nq,cq]
 have e21:(Po.mul (Po.vals ((Po.mul Cam.xx (Po.der (Cam.rl e))).map some)) (Po.vals [(some ((2:Int):Rat))]):List Rat)=Po.mul (Po.mul Cam.xx (Po.der (Cam.rl e))) [((2:Int):Rat)]:=by first|(rw [Po.vals_some];done)|(rw [Po.vals_some];rfl)
 rw [e21]
 first|refine zNa (addQE 0 rfl) ?_|refine zCb (addQE 0 rfl) ?_
 refine e_one 9 (zp rfl rfl rfl rfl (.c rfl (.c rfl .n)) ce73 (zMe (p1:=pm) (n1:=(Cam.rl e).length) (c1:=cm) (l1:=((Cam.rl e).map some)) (p2:=p919) (n2:=(Po.mul (Po.mul Cam.xx (Po.der (Cam.rl e))) [((2:Int):Rat)]).length) (c2:=c920) (l2:=((Po.mul (Po.mul Cam.xx (Po.der (Cam.rl e))) [((2:Int):Rat)]).map some)) (hn1:=by exact List.length_map _) (hm1:=by first|omega|assumption|rfl|decide|(simp;done)) (hn2:=by exact List.length_map _) (hm2:=by first|omega|assumption|rfl|decide|(simp;done)) (hb:=by intro i;rw [Po.msome,Po.msome];have h8:=hrb i;have h9:=hsb i;omega)) (.c (j:=9) rfl (.c (j:=0) rfl .n)) ?_)
 rintro ⟨p922,c923⟩ -
 dsimp only [aq,nq,cq]
 have e24:(Po.add (Po.vals ((Cam.rl e).map some)) (Po.vals ((Po.mul (Po.mul Cam.xx (Po.der (Cam.rl e))) [((2:Int):Rat)]).map some)):List Rat)=Cam.alo e:=by first|(rw [Po.vals_some,Po.vals_some];done)|(rw [Po.vals_some,Po.vals_some];rfl)
 rw [e24]
 refine e_pv 10 rfl rfl (zb rfl)<|zH kr<|zd<|ze<|zV (OW:=[]) (O:=[emA,emA,emA]) 15 mixed (.then .ret) kr<|e_pv 0 rfl rfl (zg yc rfl sz32 rfl rfl)<|e_u 1 rfl rfl (zQ (j:=12) 16 ty32 rfl rfl rfl (.s8 (.s4 (.t4 .nil))))<|e_pv 2 rfl rfl (zg yc rfl sz32 rfl rfl)<|e_u 3 rfl rfl (zQ (j:=12) 16 ty32 rfl rfl rfl (.s8 (.s4 (.t4 .nil))))<|e_pv 6 rfl rfl (zg yc rfl sz32 rfl rfl)<|e_u 7 rfl rfl (zQ (j:=16) 16 ty32 rfl rfl rfl (.s8 (.s8 (.t4 .nil))))<|e_pv 8 rfl rfl (zg yc rfl sz32 rfl rfl)<|e_u 9 rfl rfl (zQ (j:=16) 16 ty32 rfl rfl rfl (.s8 (.s8 (.t4 .nil))))<|zW (m':=[(38,.agg (cw [wq1,wq2]).toArray),(36,.agg (cw [wq1,wq2]).toArray),(32,.agg (cw [wp1,wp2]).toArray),(30,.agg (cw [wp1,wp2]).toArray),(7,.slice p922 ((Cam.alo e).length) c923),(6,.slice (some ⟨b9,0,none⟩) 2 2),(5,.slice (some ⟨b4,0,none⟩) 1 1),(2,.pointer (some ⟨b1,0,none⟩))]) (R':=[slF rQ p922 c923 (Cam.alo e),slF rE (some ⟨b9,0,none⟩) 2 (Cam.xx.map some),slF rE pm cm ((Cam.rl e).map some),slF rQ (some ⟨b4,0,none⟩) 1 ([(Rat.divInt k 256)]),slF rQ (some ⟨b9,0,none⟩) 2 (Cam.xx),atF b1 0 [wa1.b,wa1.l,wa2.b,wa2.l,wb1.b,wb1.l,wb2.b,wb2.l,wc1.b,wc1.l,wc2.b,wc2.l,wp1.b,wp1.l,wp2.b,wp2.l,wq1.b,wq1.l,wq2.b,wq2.l,wt1.b,wt1.l,wt2.b,wt2.l,.slice pm ((Cam.rl e).length) cm],qF true wa1 wa2 (Rat.divInt e.r0 0x100000),qF true wb1 wb2 (Rat.divInt e.r1 0x100000),qF true wc1 wc2 (Rat.divInt e.r2 0x100000),qF true wp1 wp2 (Cam.tP1 e),qF true wq1 wq2 (Cam.tP2 e),qF true wt1 wt2 (Cam.lim e),slF rQ pm cm (Cam.rl e)]) (mR rfl) (List.Perm.refl _) (List.Perm.refl _) ((.of [0,8,10,11,12,16,17,18,19,20,21,22,23] rfl):SelR _ _ _)<|a_start<|a_step 4 rfl (X:=Nat) (fun x=> .slice (some ⟨x,0,none⟩) 2 2) (fun x=>[]) (fun x=>[slF rQ (some ⟨x,0,none⟩) 2 ([(Cam.tP1 e),(Cam.tP1 e)])]) [] kr rfl kr kr kr (fun _=> ?_) ?_
 ·
  refine zW (m':=[(32,.agg (cw [wp1,wp2]).toArray),(30,.agg (cw [wp1,wp2]).toArray)]) (R':=[qF true wp1 wp2 (Cam.tP1 e)]) ((.c rfl (.c rfl .n)):SubM _ _) (List.Perm.refl _) (List.Perm.refl _) ((.c (j:=9) rfl .n):SelR _ _ _)<|e_one 0 (zIa rfl rfl rfl rfl (zA (r:=rQ) (k:=2) yb inf32 rfl dd dd dd (.c (x:=(Cam.tP1 e)) (cs:=[wp1.b,wp1.l,wp2.b,wp2.l]) (wp1,wp2) rfl rfl rfl (fun g hr=>Holds.get 0 rfl hr) (.c (x:=(Cam.tP1 e)) (cs:=[wp1.b,wp1.l,wp2.b,wp2.l]) (wp1,wp2) rfl rfl rfl (fun g hr=>Holds.get 0 rfl hr) .n))) (fun u4_1 _=> ?_))
  refine zla 0 rfl .z<|zH kr ?_
  exact zT u4_1 trivial ((.c rfl .n):SubM _ _) (ho:=oN) (s0 rfl)
 refine a_step 5 rfl (X:=Wd×Wd) (fun x=> .agg #[x.1.b,x.1.l,x.2.b,x.2.l]) (fun x=>[]) (fun x=>[qF true x.1 x.2 (Cam.mulL ([(Cam.tP1 e),(Cam.tP1 e)]))]) [0] kr rfl kr kr kr (fun _=> ?_) ?_
 ·
  rintro g4_0
  refine zW (m':=[(33,.slice (some ⟨g4_0,0,none⟩) 2 2)]) (R':=[slF rQ (some ⟨g4_0,0,none⟩) 2 ([(Cam.tP1 e),(Cam.tP1 e)])]) ((.c rfl .n):SubM _ _) (List.Perm.refl _) (List.Perm.refl _) (s0 rfl)<|e_one 0 (zp rfl rfl rfl rfl (.c rfl .n) ce56 (zAa (p:=some ⟨g4_0,0,none⟩) (n:=2) (cap:=2) (l:=[(Cam.tP1 e),(Cam.tP1 e)]) (hn:=by exact rfl) (hn9:=dd) (hl:=by exact Cam.hqA_cons om (Cam.hqA_cons om (Cam.hqA_nil dd))) (hn1:=dd)) (.c (j:=0) rfl .n) ?_)
  rintro ⟨u5_1,u5_2⟩ -
  dsimp only [aq,nq,cq]
  refine zH kr ?_
  exact zT (u5_1,u5_2) trivial ((.c rfl .n):SubM _ _) (ho:=oN) (s0 rfl)
 refine a_step 10 rfl (X:=Nat) (fun x=> .slice (some ⟨x,0,none⟩) 2 2) (fun x=>[]) (fun x=>[slF rQ (some ⟨x,0,none⟩) 2 ([(Cam.tP2 e),(Cam.tP2 e)])]) [] kr rfl kr kr kr (fun _=> ?_) ?_
 ·
  refine zW (m':=[(38,.agg (cw [wq1,wq2]).toArray),(36,.agg (cw [wq1,wq2]).toArray)]) (R':=[qF true wq1 wq2 (Cam.tP2 e)]) ((.c rfl (.c rfl .n)):SubM _ _) (List.Perm.refl _) (List.Perm.refl _) ((.c (j:=10) rfl .n):SelR _ _ _)<|e_one 0 (zIa rfl rfl rfl rfl (zA (r:=rQ) (k:=2) yb inf32 rfl dd dd dd (.c (x:=(Cam.tP2 e)) (cs:=[wq1.b,wq1.l,wq2.b,wq2.l]) (wq1,wq2) rfl rfl rfl (fun g hr=>Holds.get 0 rfl hr) (.c (x:=(Cam.tP2 e)) (cs:=[wq1.b,wq1.l,wq2.b,wq2.l]) (wq1,wq2) rfl rfl rfl (fun g hr=>Holds.get 0 rfl hr) .n))) (fun u10_1 _=> ?_))
  refine zla 0 rfl .z<|zH kr ?_
  exact zT u10_1 trivial ((.c rfl .n):SubM _ _) (ho:=oN) (s0 rfl)
 refine a_step 11 rfl (X:=Wd×Wd) (fun x=> .agg #[x.1.b,x.1.l,x.2.b,x.2.l]) (fun x=>[]) (fun x=>[qF true x.1 x.2 (Cam.mulL ([(Cam.tP2 e),(Cam.tP2 e)]))]) [0] kr rfl kr kr kr (fun _=> ?_) ?_
 ·
  rintro g10_0
  refine zW (m':=[(39,.slice (some ⟨g10_0,0,none⟩) 2 2)]) (R':=[slF rQ (some ⟨g10_0,0,none⟩) 2 ([(Cam.tP2 e),(Cam.tP2 e)])]) ((.c rfl .n):SubM _ _) (List.Perm.refl _) (List.Perm.refl _) (s0 rfl)<|e_one 0 (zp rfl rfl rfl rfl (.c rfl .n) ce56 (zAa (p:=some ⟨g10_0,0,none⟩) (n:=2) (cap:=2) (l:=[(Cam.tP2 e),(Cam.tP2 e)]) (hn:=by exact rfl) (hn9:=dd) (hl:=by exact Cam.hqA_cons om (Cam.hqA_cons om (Cam.hqA_nil dd))) (hn1:=dd)) (.c (j:=0) rfl .n) ?_)
  rintro ⟨u11_1,u11_2⟩ -
  dsimp only [aq,nq,cq]
  refine zH kr ?_
  exact zT (u11_1,u11_2) trivial ((.c rfl .n):SubM _ _) (ho:=oN) (s0 rfl)
 refine a_step 12 rfl (X:=Nat) (fun x=> .slice (some ⟨x,0,none⟩) 2 2) (fun x=>[]) (fun x=>[slF rQ (some ⟨x,0,none⟩) 2 ([(Cam.mulL ([(Cam.tP1 e),(Cam.tP1 e)])),(Cam.mulL ([(Cam.tP2 e),(Cam.tP2 e)]))])]) [0,2] kr rfl kr kr kr (fun _=> ?_) ?_
 ·
  rintro ⟨g11_0,g11_1⟩
  rintro ⟨g5_0,g5_1⟩
  refine zW (m':=[(40,.agg (cw [g11_0,g11_1]).toArray),(34,.agg (cw [g5_0,g5_1]).toArray)]) (R':=[qF true g11_0 g11_1 (Cam.mulL ([(Cam.tP2 e),(Cam.tP2 e)])),qF true g5_0 g5_1 (Cam.mulL ([(Cam.tP1 e),(Cam.tP1 e)]))]) ((.c rfl (.c rfl .n)):SubM _ _) (List.Perm.refl _) (List.Perm.refl _) ((.of [0,1] rfl):SelR _ _ _)<|e_one 0 (zIa rfl rfl rfl rfl (zA (r:=rQ) (k:=2) yb inf32 rfl dd dd dd (.c (x:=(Cam.mulL ([(Cam.tP1 e),(Cam.tP1 e)]))) (cs:=[g5_0.b,g5_0.l,g5_1.b,g5_1.l]) (g5_0,g5_1) rfl rfl rfl (fun g hr=>Holds.get 1 rfl hr) (.c (x:=(Cam.mulL ([(Cam.tP2 e),(Cam.tP2 e)]))) (cs:=[g11_0.b,g11_0.l,g11_1.b,g11_1.l]) (g11_0,g11_1) rfl rfl rfl (fun g hr=>Holds.get 0 rfl hr) .n))) (fun u12_1 _=> ?_))
  refine zla 0 rfl .z<|zH kr ?_
  exact zT u12_1 trivial ((.c rfl .n):SubM _ _) (ho:=oN) (s0 rfl)
 refine a_step 13 rfl (X:=Wd×Wd) (fun x=> .agg #[x.1.b,x.1.l,x.2.b,x.2.l]) (fun x=>[]) (fun x=>[qF true x.1 x.2 (Cam.sumL ([(Cam.mulL ([(Cam.tP1 e),(Cam.tP1 e)])),(Cam.mulL ([(Cam.tP2 e),(Cam.tP2 e)]))]))]) [0] kr rfl kr kr kr (fun _=> ?_) ?_
 ·
  rintro g12_0
  refine zW (m':=[(41,.slice (some ⟨g12_0,0,none⟩) 2 2)]) (R':=[slF rQ (some ⟨g12_0,0,none⟩) 2 ([(Cam.mulL ([(Cam.tP1 e),(Cam.tP1 e)])),(Cam.mulL ([(Cam.tP2 e),(Cam.tP2 e)]))])]) ((.c rfl .n):SubM _ _) (List.Perm.refl _) (List.Perm.refl _) (s0 rfl)<|e_one 0 (zp rfl rfl rfl rfl (.c rfl .n) ce59 (zAb (p:=some ⟨g12_0,0,none⟩) (n:=2) (cap:=2) (l:=[(Cam.mulL ([(Cam.tP1 e),(Cam.tP1 e)])),(Cam.mulL ([(Cam.tP2 e),(Cam.tP2 e)]))]) (hn:=by exact rfl) (hn9:=dd) (hl:=by exact Cam.hqA_cons om (Cam.hqA_cons om (Cam.hqA_nil dd)))) (.c (j:=0) rfl .n) ?_)
  rintro ⟨u13_1,u13_2⟩ -
  dsimp only [aq,nq,cq]
  refine zH kr ?_
  exact zT (u13_1,u13_2) trivial ((.c rfl .n):SubM _ _) (ho:=oN) (s0 rfl)
 refine a_step 14 rfl (X:=Nat) (fun x=> .pointer (some ⟨x,0,none⟩)) (fun x=>[boxA x 32 [.bool false,.slice none 0 0,.bool false,.slice none 0 0]]) (fun x=>[]) [] kr rfl kr kr kr (fun _=> ?_) ?_
 ·
  refine zW (m':=[]) (R':=[]) (.n:SubM _ _) (List.Perm.refl _) (List.Perm.refl _) sN<|e_one 0 (zIa rfl rfl rfl rfl (zr zr32 rfl) (fun u14_1 _=> ?_))
  refine zH kr ?_
  exact zT u14_1 trivial ((.c rfl .n):SubM _ _) (ho:=(o0 rfl)) sN
 refine a_fin (k':=1) (L':=(lb 16 32767)) kr kr kr kr kr kr kr ?_
 rintro g14_0 ⟨g13_0,g13_1⟩ _ _ _ _ _
 refine zW (m':=[(8,.pointer (some ⟨g14_0,0,none⟩)),(42,.agg (cw [g13_0,g13_1]).toArray),(38,.agg (cw [wq1,wq2]).toArray),(36,.agg (cw [wq1,wq2]).toArray),(32,.agg (cw [wp1,wp2]).toArray),(30,.agg (cw [wp1,wp2]).toArray),(7,.slice p922 ((Cam.alo e).length) c923),(6,.slice (some ⟨b9,0,none⟩) 2 2),(5,.slice (some ⟨b4,0,none⟩) 1 1),(2,.pointer (some ⟨b1,0,none⟩))]) (OW':=[boxA g14_0 32 (cw [wz,wz])]) (R':=[qF true g13_0 g13_1 (Cam.sumL ([(Cam.mulL ([(Cam.tP1 e),(Cam.tP1 e)])),(Cam.mulL ([(Cam.tP2 e),(Cam.tP2 e)]))])),slF rQ p922 c923 (Cam.alo e),slF rE (some ⟨b9,0,none⟩) 2 (Cam.xx.map some),slF rE pm cm ((Cam.rl e).map some),slF rQ (some ⟨b4,0,none⟩) 1 ([(Rat.divInt k 256)]),slF rQ (some ⟨b9,0,none⟩) 2 (Cam.xx),atF b1 0 [wa1.b,wa1.l,wa2.b,wa2.l,wb1.b,wb1.l,wb2.b,wb2.l,wc1.b,wc1.l,wc2.b,wc2.l,wp1.b,wp1.l,wp2.b,wp2.l,wq1.b,wq1.l,wq2.b,wq2.l,wt1.b,wt1.l,wt2.b,wt2.l,.slice pm ((Cam.rl e).length) cm],qF true wa1 wa2 (Rat.divInt e.r0 0x100000),qF true wb1 wb2 (Rat.divInt e.r1 0x100000),qF true wc1 wc2 (Rat.divInt e.r2 0x100000),qF true wp1 wp2 (Cam.tP1 e),qF true wq1 wq2 (Cam.tP2 e),qF true wt1 wt2 (Cam.lim e),slF rQ pm cm (Cam.rl e)]) (mR rfl) (List.Perm.refl _) (List.Perm.refl _) ((.of [0,6,7,8,9,10,11,12,13,14,15,16,17,18] rfl):SelR _ _ _)<|e_one 15 (zv kr rfl rfl rfl rfl rfl sz32 rfl (.t4 .nil) ?_)
 refine zH kr<|zd<|ze<|znc 0 rfl .z<|zV (OW:=[]) (O:=[emA,emA,emA,emA]) 100000 mixed (.then .ret) kr<|e_dm 0 rfl rfl rfl<|e_u 2 rfl rfl (zQ (j:=0) 0 ty32 rfl rfl rfl (.t4 .nil))<|e_one 1 (zp rfl rfl rfl rfl (.c rfl .n) ce58 (zxa (z:=36) (hz:=by first|omega|assumption|rfl|decide|(simp;done))) (.n) ?_)
 rintro ⟨w325,w426⟩ -
 dsimp only [aq,nq,cq]
 refine e_one 3 (zIa rfl rfl rfl rfl (zA (r:=rQ) (k:=2) yb inf32 rfl dd dd dd (.c (x:=((36:Int):Rat)) (cs:=[w325.b,w325.l,w426.b,w426.l]) (w325,w426) rfl rfl rfl (fun g hr=>Holds.get 0 rfl hr) (.c (x:=(Cam.sumL ([(Cam.mulL ([(Cam.tP1 e),(Cam.tP1 e)])),(Cam.mulL ([(Cam.tP2 e),(Cam.tP2 e)]))]))) (cs:=[g13_0.b,g13_0.l,g13_1.b,g13_1.l]) (g13_0,g13_1) rfl rfl rfl (fun g hr=>Holds.get 2 rfl hr) .n))) (fun b27 _=> ?_))
 refine zla 0 rfl .z<|e_one 4 (zp rfl rfl rfl rfl (.c rfl .n) ce56 (zAa (p:=some ⟨b27,0,none⟩) (n:=2) (cap:=2) (l:=[((36:Int):Rat),(Cam.sumL ([(Cam.mulL ([(Cam.tP1 e),(Cam.tP1 e)])),(Cam.mulL ([(Cam.tP2 e),(Cam.tP2 e)]))]))]) (hn:=by exact rfl) (hn9:=dd) (hl:=by exact Cam.hqA_cons dd (Cam.hqA_cons om (Cam.hqA_nil dd))) (hn1:=dd)) (.c (j:=0) rfl .n) ?_)
 rintro ⟨w328,w429⟩ -
 dsimp only [aq,nq,cq]
 first|refine zNa (addQe 0 rfl) ?_|refine zCb (addQe 0 rfl) ?_
 refine e_one 5 (zp rfl rfl rfl rfl (.c rfl (.c rfl .n)) ce74 (zac (p1:=some ⟨b9,0,none⟩) (n1:=2) (c1:=2) (l1:=(Cam.xx.map some)) (u1:=w328) (v1:=w429) (x1:=(some (Cam.mulL ([((36:Int):Rat),(Cam.sumL ([(Cam.mulL ([(Cam.tP1 e),(Cam.tP1 e)])),(Cam.mulL ([(Cam.tP2 e),(Cam.tP2 e)]))]))])))) (hn1:=by exact List.length_map _) (hm1:=by first|omega|assumption|rfl|decide|(simp;done)) (hm9:=by first|omega|assumption|rfl|decide|(simp;done)) (hb1:=by rw [Po.vals_some];exact fun i=>Nat.le_trans (hxb i) dd) (hb2:=by exact fun i=>Nat.le_trans (hqb i) dd) (hs:=by rw [Po.vals_some];exact Cam.csz hxb hqb dd dd dd)) (.c (j:=7) rfl (.c (j:=0) rfl .n)) ?_)
 rintro ⟨p930,c931⟩ -
 dsimp only [aq,nq,cq]
 have e32:(Po.mul (Po.vals (Cam.xx.map some)) (Po.vals [(some (Cam.mulL ([((36:Int):Rat),(Cam.sumL ([(Cam.mulL ([(Cam.tP1 e),(Cam.tP1 e)])),(Cam.mulL ([(Cam.tP2 e),(Cam.tP2 e)]))]))])))]):List Rat)=Cam.tan e:=by first|(rw [Po.vals_some];done)|(rw [Po.vals_some];rfl)
 rw [e32]
 refine e_pv 6 rfl rfl (zb rfl)<|zH kr<|zd<|ze<|ze<|za<|e_p (zg yc rfl sz60 rfl rfl)<|e_ru (zt (j:=24) 12 ty60 rfl rfl rfl rfl)<|e_mv rfl<|zva rfl rfl (zA (r:=rS rQ) (k:=2) yd inf60 rfl dd dd dd (.c (x:=(Cam.rl e)) (cs:=[.slice pm ((Cam.rl e).length) cm]) (pm,cm) rfl rfl rfl (fun g hr=>Holds.get 19 rfl hr) (.c (x:=(Cam.alo e)) (cs:=[.slice p922 ((Cam.alo e).length) c923]) (p922,c923) rfl rfl rfl (fun g hr=>Holds.get 7 rfl hr) .n))) (fun b33 _=> ?_)
 refine e_p (zK yd rfl)<|e_mv rfl<|zf<|zd<|zx<|zjb 0 rfl .z<|zja (X:=Nat) (fun x:Nat=>x≤2∧∀q,q<x→Cam.adm1 e k (Cam.pp e q)=true) (fun x=>[(54,.int .i64 ((x:Nat):Int)),(53,.int .i64 2),(52,.slice (some ⟨b33,0,none⟩) 2 2),(9,.slice p930 ((Cam.tan e).length) c931),(5,.slice (some ⟨b4,0,none⟩) 1 1),(2,.pointer (some ⟨b1,0,none⟩))]) (fun x=>[]) (fun x=>[slF (rS rQ) (some ⟨b33,0,none⟩) 2 ([(Cam.rl e),(Cam.alo e)]),slF rQ p930 c931 (Cam.tan e),slF rE pm cm ((Cam.rl e).map some),slF rQ (some ⟨b4,0,none⟩) 1 ([(Rat.divInt k 256)]),atF b1 0 [wa1.b,wa1.l,wa2.b,wa2.l,wb1.b,wb1.l,wb2.b,wb2.l,wc1.b,wc1.l,wc2.b,wc2.l,wp1.b,wp1.l,wp2.b,wp2.l,wq1.b,wq1.l,wq2.b,wq2.l,wt1.b,wt1.l,wt2.b,wt2.l,.slice pm ((Cam.rl e).length) cm],qF true wa1 wa2 (Rat.divInt e.r0 0x100000),qF true wb1 wb2 (Rat.divInt e.r1 0x100000),qF true wc1 wc2 (Rat.divInt e.r2 0x100000),qF true wp1 wp2 (Cam.tP1 e),qF true wq1 wq2 (Cam.tP2 e),qF true wt1 wt2 (Cam.lim e),slF rQ pm cm (Cam.rl e)]) (fun x:Nat=>2 - x) 0 (show 0≤2∧∀q,q<0→Cam.adm1 e k (Cam.pp e q)=true from by exact ⟨by decide,fun q h=>by omega⟩) ((.e rfl cgs (.of rfl)):SubM _ _) (ho:=oN) ((.of [0,1,10,11,13,14,15,16,17,18,19,20] rfl):SelR _ _ _) ?_
 rintro i hI
 replace hI:i≤2∧∀q,q<i→Cam.adm1 e k (Cam.pp e q)=true:=hI
 try dsimp only
 obtain ⟨hi,hall⟩:=hI
 refine ze<|za<|e_p (zX rfl rfl)<|zf<|zd<|ze<|zG rfl (fun h55=> ?_) (fun h55=> ?_)
 ·
  refine zB<|zd<|ze<|zx<|ze<|za<|r_vl rfl rfl (zpa (x0:=(([(Cam.rl e),(Cam.alo e)]).getD i [])) 0 i rfl yd sz60 rfl (by first|rfl|assumption|omega|(simp;done)) rfl rfl (gD (d:=[]) (by first|omega|(show i<2;omega)))) ?_
  rintro ⟨b34,o35,p36,c37⟩ -
  dsimp only [aq,nq,cq]
  have e38:(([(Cam.rl e),(Cam.alo e)]).getD i []:List Rat)=Cam.pp e i:=by rfl
  rw [e38]
  refine e_ru (zt (j:=0) 0 ty60 rfl rfl rfl rfl)<|e_p (zb rfl)<|zf<|zd<|ze ?_
  have hpb:=Po.cb_bd (Cam.pp_cb hin i om)
  have hpl:=Cam.pp_len (e:=e) i
  have hdkb:=Po.cb_bd (Cam.dk_cb (Cam.pp_cb hin i om) hk)
  have hdkl:=Cam.dk_len (k:=k) hpl
  have hd2b:=Po.cb_bd (Cam.d2_cb (Cam.pp_cb hin i om) hpl hk)
  have hd2l:=Cam.zwg (k:=k) hpl
  have hddl:=Cam.dd_len (e:=e) (k:=k) hpl
  refine za<|e_mv rfl<|e_mv rfl<|zna (addQE 1 rfl)<|zna (addQE 6 rfl)<|zm rfl rfl (.c rfl (.c rfl .n)) ce77 (zJd (p1:=p36) (n1:=(Cam.pp e i).length) (c1:=c37) (l1:=((Cam.pp e i).map some)) (p2:=some ⟨b4,0,none⟩) (n2:=1) (c2:=1) (l2:=(([(Rat.divInt k 256)]).map some)) (hn1:=by exact List.length_map _) (hm1:=by first|omega|assumption|rfl|decide|(simp;done)) (hn2:=by exact List.length_map _) (hm2:=by first|omega|assumption|rfl|decide|(simp;done)) (hb:=by intro i;rw [Po.msome,Po.msome];have h8:=hpb i;have h9:=hkb i;omega)) (.c (j:=1) rfl (.c (j:=0) rfl .n)) ?_
  rintro ⟨p939,c940⟩ -
  dsimp only [aq,nq,cq]
  have e41:(Po.sub (Po.vals ((Cam.pp e i).map some)) (Po.vals (([(Rat.divInt k 256)]).map some)):List Rat)=Cam.dk (Cam.pp e i) k:=by first|(rw [Po.vals_some,Po.vals_some];done)|(rw [Po.vals_some,Po.vals_some];rfl)
  rw [e41]
  refine e_p (zb rfl)<|zf<|zd<|zOa (X:=Unit) (fun x=>True) (fun x=>[(76,.bool (decide (¬Cam.adm1 e k (Cam.pp e i)=true))),(54,.int .i64 ((i:Nat):Int)),(53,.int .i64 2),(52,.slice (some ⟨b33,0,none⟩) 2 2),(9,.slice p930 ((Cam.tan e).length) c931),(5,.slice (some ⟨b4,0,none⟩) 1 1),(2,.pointer (some ⟨b1,0,none⟩))]) (fun x=>[]) (fun x=>[slF rE (some ⟨b4,0,none⟩) 1 (([(Rat.divInt k 256)]).map some),slF (rS rQ) (some ⟨b33,0,none⟩) 2 ([(Cam.rl e),(Cam.alo e)]),slF rQ p930 c931 (Cam.tan e),slF rE pm cm ((Cam.rl e).map some),slF rQ (some ⟨b4,0,none⟩) 1 ([(Rat.divInt k 256)]),atF b1 0 [wa1.b,wa1.l,wa2.b,wa2.l,wb1.b,wb1.l,wb2.b,wb2.l,wc1.b,wc1.l,wc2.b,wc2.l,wp1.b,wp1.l,wp2.b,wp2.l,wq1.b,wq1.l,wq2.b,wq2.l,wt1.b,wt1.l,wt2.b,wt2.l,.slice pm ((Cam.rl e).length) cm],qF true wa1 wa2 (Rat.divInt e.r0 0x100000),qF true wb1 wb2 (Rat.divInt e.r1 0x100000),qF true wc1 wc2 (Rat.divInt e.r2 0x100000),qF true wp1 wp2 (Cam.tP1 e),qF true wq1 wq2 (Cam.tP2 e),qF true wt1 wt2 (Cam.lim e),slF rQ pm cm (Cam.rl e)]) ?_ ?_
  ·
   refine zV (OW:=[]) (O:=[]) 100000 mixed (.then (.block (.then (.then (.block (.then .ret)))))) kr<|e_dm 0 rfl rfl rfl<|e_pv 1 rfl rfl (zg yc rfl sz32 rfl rfl)<|e_u 2 rfl rfl (zQ (j:=20) 9 ty32 rfl rfl rfl (.s8 (.s8 (.s4 (.t4 .nil)))))<|e_one 3 (zbb rfl rfl rfl rfl (.c rfl (.c rfl .n)) ce78 (zOe (p:=p939) (n:=(Cam.dk (Cam.pp e i) k).length) (cap:=c940) (l:=(Cam.dk (Cam.pp e i) k)) (wt1:=wt1) (wt2:=wt2) (t:=(Cam.lim e)) (hn:=by first|omega|assumption|rfl|decide|(simp;done)) (hn7:=om) (hc:=by exact Po.cb_mono (Cam.dk_cb (Cam.pp_cb hin i om) hk) dd) (hcl:=by exact Po.sub_cl _ _) (ht:=by first|omega|assumption|rfl|decide|(simp;done)) (ht0:=by first|omega|assumption|rfl|decide|(simp;done))) (.c (j:=0) rfl (.c (j:=15) rfl .n)) ?_)
   refine e_pv 4 rfl rfl (zqb rfl)<|d_pv_b 5 rfl rfl kr kr rfl rfl (zga rfl) (fun h66=> ?_) (fun h66=> ?_)
   ·
    refine e_skip 6 rfl rfl<|e_skip 7 rfl rfl<|e_skip 8 rfl rfl<|e_skip 9 rfl rfl<|e_skip 10 rfl rfl<|e_skip 11 rfl rfl<|e_skip 12 rfl rfl<|e_skip 13 rfl rfl<|e_skip 14 rfl rfl<|e_pv 15 rfl rfl (zE rfl rfl)<|zH kr ?_
    exact zT () tt9 ((.e rfl (congrArg Value.bool (by first|exact Cam.adm1_f h66|exact Cam.adm1_t h66)) (.of rfl)):SubM _ _) (ho:=oN) ((.of [1,5,6,7,8,9,10,11,12,13,14,15,16] rfl):SelR _ _ _)
   ·
    refine e_dm 6 rfl rfl rfl<|e_dm 7 rfl rfl rfl<|e_dm 9 rfl rfl rfl<|e_pv 11 rfl rfl (zg yc rfl sz32 rfl rfl)<|e_u 12 rfl rfl (zQ (j:=20) 9 ty32 rfl rfl rfl (.s8 (.s8 (.s4 (.t4 .nil))))) ?_
    first|refine zNa (addQE 0 rfl) ?_|refine zCb (addQE 0 rfl) ?_
    refine e_one 8 (zp rfl rfl rfl rfl (.c rfl (.c rfl .n)) ce75 (zXc (p1:=p939) (n1:=(Cam.dk (Cam.pp e i) k).length) (c1:=c940) (l1:=((Cam.dk (Cam.pp e i) k).map some)) (p2:=p939) (n2:=(Cam.dk (Cam.pp e i) k).length) (c2:=c940) (l2:=((Cam.dk (Cam.pp e i) k).map some)) (hn1:=by exact List.length_map _) (hm1:=by first|omega|assumption|rfl|decide|(simp;done)) (hn2:=by exact List.length_map _) (hm2:=by first|omega|assumption|rfl|decide|(simp;done)) (hm12:=by first|omega|assumption|rfl|decide|(simp;done)) (hb1:=by rw [Po.vals_some];exact fun i=>Nat.le_trans (hdkb i) dd) (hb2:=by rw [Po.vals_some];exact fun i=>Nat.le_trans (hdkb i) dd) (hs:=by rw [Po.vals_some];exact Cam.csz hdkb hdkb om dd dd)) (.c (j:=0) rfl (.c (j:=0) rfl .n)) ?_)
    rintro ⟨p942,c943⟩ -
    dsimp only [aq,nq,cq]
    have e44:(Po.mul (Po.vals ((Cam.dk (Cam.pp e i) k).map some)) (Po.vals ((Cam.dk (Cam.pp e i) k).map some)):List Rat)=Po.mul (Cam.dk (Cam.pp e i) k) (Cam.dk (Cam.pp e i) k):=by first|(rw [Po.vals_some];done)|(rw [Po.vals_some];rfl)
    rw [e44]
    first|refine zNa (addQE 0 rfl) ?_|refine zCb (addQE 0 rfl) ?_
    first|refine zNa (addQE 9 rfl) ?_|refine zCb (addQE 9 rfl) ?_
    refine e_one 10 (zp rfl rfl rfl rfl (.c rfl (.c rfl .n)) ce77 (zJd (p1:=p942) (n1:=(Po.mul (Cam.dk (Cam.pp e i) k) (Cam.dk (Cam.pp e i) k)).length) (c1:=c943) (l1:=((Po.mul (Cam.dk (Cam.pp e i) k) (Cam.dk (Cam.pp e i) k)).map some)) (p2:=p930) (n2:=(Cam.tan e).length) (c2:=c931) (l2:=((Cam.tan e).map some)) (hn1:=by exact List.length_map _) (hm1:=by first|omega|assumption|rfl|decide|(simp;done)) (hn2:=by exact List.length_map _) (hm2:=by first|omega|assumption|rfl|decide|(simp;done)) (hb:=by intro i;rw [Po.msome,Po.msome];have h8:=hd2b i;have h9:=htb i;omega)) (.c (j:=1) rfl (.c (j:=0) rfl .n)) ?_)
    rintro ⟨p945,c946⟩ -
    dsimp only [aq,nq,cq]
    have e47:(Po.sub (Po.vals ((Po.mul (Cam.dk (Cam.pp e i) k) (Cam.dk (Cam.pp e i) k)).map some)) (Po.vals ((Cam.tan e).map some)):List Rat)=Cam.dd e (Cam.pp e i) k:=by first|(rw [Po.vals_some,Po.vals_some];done)|(rw [Po.vals_some,Po.vals_some];rfl)
    rw [e47]
    refine e_one 13 (zbb rfl rfl rfl rfl (.c rfl (.c rfl .n)) ce78 (zOe (p:=p945) (n:=(Cam.dd e (Cam.pp e i) k).length) (cap:=c946) (l:=(Cam.dd e (Cam.pp e i) k)) (wt1:=wt1) (wt2:=wt2) (t:=(Cam.lim e)) (hn:=by first|omega|assumption|rfl|decide|(simp;done)) (hn7:=om) (hc:=by exact Po.cb_mono (Cam.dd_cb hin (Cam.pp_cb hin i om) hpl hk) dd) (hcl:=by exact Po.sub_cl _ _) (ht:=by first|omega|assumption|rfl|decide|(simp;done)) (ht0:=by first|omega|assumption|rfl|decide|(simp;done))) (.c (j:=0) rfl (.c (j:=20) rfl .n)) ?_)
    refine e_pv 14 rfl rfl (zqb rfl)<|e_pv 15 rfl rfl (zE rfl rfl)<|zH kr ?_
    exact zT () tt9 ((.e rfl (congrArg Value.bool (by first|exact Cam.adm1_f h66|exact Cam.adm1_t h66)) (.of rfl)):SubM _ _) (ho:=oN) ((.of [6,10,11,12,13,14,15,16,17,18,19,20,21] rfl):SelR _ _ _)
  ·
   rintro ⟨⟩ -
   try dsimp only
   refine zG rfl (fun h76=> ?_) (fun h76=> ?_)
   ·
    refine ze<|za<|e_p (zb rfl)<|zf<|zd<|zC<|zM<|zk<|zk<|zM<|zk ?_
    exact zu Tryz.results46 () trivial (zn rfl) (by rw [Cam.adm_no om h76]) (ho:=oN) sN
   ·
    refine zB<|zP<|zd<|za<|e_p (zL (z:=(((i+1):Nat):Int)) rfl rfl (w64 om))<|e_mv rfl<|zf<|zda (i+1) (show (i+1)≤2∧∀q,q<(i+1)→Cam.adm1 e k (Cam.pp e q)=true from by exact ⟨by omega,fun q hq=>by by_cases e1:q=i;rw [e1];exact Decidable.not_not.1 h76;exact hall q om⟩) (by show 2 - (i+1)<2 - i;omega) (mR rfl) (ho:=oN) ((.of [1,2,3,4,5,6,7,8,9,10,11,12] rfl):SelR _ _ _)
 ·
  refine zfa<|zi<|zi<|zw<|zd<|ze<|za<|e_p (zb rfl)<|zf<|zd<|zC ?_
  exact zu Tryz.results46 () trivial (zn rfl) (by rw [Cam.adm_yes (fun q hq=>hall q om)]) (ho:=oN) sN
end Go.Proofs.YtahiajepeodhoaaGreat.Sp
namespace Go.Proofs.YtahiajepeodhoaaGreat.Cam
open Big
set_option linter.unusedVariables false
def mdc (e:Ln):Int:=if ck e=0 then (if md e=0 then 13 else 0) else ck e
theorem mdc_no {e:Ln} (h:ck e≠0):mdc e=ck e:=if_neg h
theorem mdc_13 {e:Ln} (h:ck e=0) (k:md e=0):mdc e=13:=by unfold mdc;rw [if_pos h,if_pos k]
theorem mdc_0 {e:Ln} (h:ck e=0) (k:md e≠0):mdc e=0:=by unfold mdc;rw [if_pos h,if_neg k]
theorem mdc_ok {e:Ln} (h:mdc e=0):ck e=0∧md e≠0:=by
  unfold mdc at h
  split at h
  · rename_i g
    split at h
    · omega
    · rename_i k;exact ⟨g,k⟩
  · rename_i g;exact absurd h g
def nadm (e:Ln) (i:Nat):Bool:= !adm e ((i+1:Nat):Int)
def e0:Ln:=⟨64,0,0,-131072,0,0,0,0,64⟩
theorem e0_in:In e0:=⟨by decide,by decide,by decide,by decide,by decide,by decide,by decide,by decide,by decide⟩
theorem e0_ok:ok e0:=by decide
theorem e0_ck:ck e0=0:=if_pos e0_ok
theorem e0_md:md e0=159:=by decide +kernel
theorem e0_mdc:mdc e0=0:=mdc_0 e0_ck (by rw [e0_md];decide)
theorem e0_ins:ins e0 (Rat.divInt 1 2) ((0:Int):Rat):=by decide +kernel
theorem e0_dX:dX e0 (Rat.divInt 1 2) ((0:Int):Rat)=Rat.divInt 31 64:=by decide +kernel
def ez:Ln:=⟨0,0,0,0,0,0,0,0,0⟩
theorem ez_in:In ez:=⟨by decide,by decide,by decide,by decide,by decide,by decide,by decide,by decide,by decide⟩
theorem ez_ck:ck ez=2:=if_neg (by decide)
theorem e0_pc {x y:Rat}:pc e0 [(some x,some y)]=0:=pc_yes e0_ck fun j hj=>by
  have:j=0:=by have:j<1:=hj;omega
  subst this;rfl
theorem pc_some {e:Ln} {x y:Rat} (h:ok e):pc e [(some x,some y)]=0:=pc_yes (if_pos h) fun j hj=>by
  have:j=0:=by have:j<1:=hj;omega
  subst this;rfl
theorem dX_hq {e:Ln} {x y:Rat} (h:In e) (hx:hq x≤100) (hy:hq y≤100):hq (dX e x y)≤100000∧hq (dY e x y)≤100000:=by
  have a:=sq_hq hx hy
  have b:=ev_hq a (rl e) (rl_hq h)
  have c:=rl_len e
  have d:(rl e).length*(4*100+1+4)≤4*(4*100+1+4):=Nat.mul_le_mul_right _ c
  have t1:=tq1 h
  have t2:=tq2 h
  have two:hq ((2:Int):Rat)≤3:=by decide
  have m1:=hq_mul x (Po.ev (sq x y) (rl e))
  have m2:=hq_mul y (Po.ev (sq x y) (rl e))
  have m3:=hq_mul ((2:Int):Rat) x
  have m4:=hq_mul ((2:Int):Rat) y
  have m5:=hq_mul (((2:Int):Rat)*x) y
  have m6:=hq_mul (((2:Int):Rat)*x) x
  have m7:=hq_mul (((2:Int):Rat)*y) y
  have a1:=hq_add (sq x y) (((2:Int):Rat)*x*x)
  have a2:=hq_add (sq x y) (((2:Int):Rat)*y*y)
  have n1:=hq_mul (tP1 e) (((2:Int):Rat)*x*y)
  have n2:=hq_mul (tP2 e) (((2:Int):Rat)*x*y)
  have n3:=hq_mul (tP2 e) (sq x y+((2:Int):Rat)*x*x)
  have n4:=hq_mul (tP1 e) (sq x y+((2:Int):Rat)*y*y)
  have s1:=hq_add (x*Po.ev (sq x y) (rl e)) (tP1 e*(((2:Int):Rat)*x*y))
  have s2:=hq_add (x*Po.ev (sq x y) (rl e)+tP1 e*(((2:Int):Rat)*x*y)) (tP2 e*(sq x y+((2:Int):Rat)*x*x))
  have s3:=hq_add (y*Po.ev (sq x y) (rl e)) (tP1 e*(sq x y+((2:Int):Rat)*y*y))
  have s4:=hq_add (y*Po.ev (sq x y) (rl e)+tP1 e*(sq x y+((2:Int):Rat)*y*y)) (tP2 e*(((2:Int):Rat)*x*y))
  unfold dX dY
  omega
end Go.Proofs.YtahiajepeodhoaaGreat.Cam
namespace Go.Proofs.YtahiajepeodhoaaGreat.Sp
open Go
set_option linter.unusedVariables false
structure Ep where
  (tm x y z a b c d:Int)
deriving DecidableEq
section
variable {P : Program} {n : Sz} {m : Fm} {O : List As} {R : List Fa} {d : Option Tmp} {ty : TypeId} {ps : String} {af : Array Edge} {gd : Option (Nat × Bool)}
theorem pv_shr {t t2:TypeId} {x y:Operand} {k k2:IntKind} {a b z:Int} (h1:evo m x=some (.int k a)) (h2:evo m y=some (.int k2 b)) (hb:0≤b) (hz:a / 2^min b.toNat k.bits=z):PV P n ⟨d,.binOp .shr t x y t2,ty,ps,af,gd⟩ m (.int k z):=fun ac w f=>by
  simp [execOp,f.ev h1,f.ev h2,eqGuard_at_int,binOp_shr,shift_shr_any _ _ _ _ hb,hz]
end
end Go.Proofs.YtahiajepeodhoaaGreat.Sp
namespace Go.Proofs.YtahiajepeodhoaaGreat.Sh
end Go.Proofs.YtahiajepeodhoaaGreat.Sh
namespace Go.Proofs.YtahiajepeodhoaaGreat.Sp
open Go
end Go.Proofs.YtahiajepeodhoaaGreat.Sp
namespace Go.Proofs.YtahiajepeodhoaaGreat.Sp
open Go
set_option linter.unusedVariables false
set_option maxRecDepth 100000
set_option maxHeartbeats 8000000
theorem zpg {e:Cam.Ln} {wa1:Wd} {wa2:Wd} {wb1:Wd} {wb2:Wd} {wc1:Wd} {wc2:Wd} {wp1:Wd} {wp2:Wd} {wq1:Wd} {wq2:Wd} {wt1:Wd} {wt2:Wd} {pm:Option Addr} {cm:Nat} {bm:Nat} {i:Nat} (hin:Cam.In e) (hok:Cam.ok e) (hi:i<255):Con ye 45 [.int .i64 ((i:Nat):Int),.pointer (some ⟨bm,0,none⟩)] [] [atF bm 0 [wa1.b,wa1.l,wa2.b,wa2.l,wb1.b,wb1.l,wb2.b,wb2.l,wc1.b,wc1.l,wc2.b,wc2.l,wp1.b,wp1.l,wp2.b,wp2.l,wq1.b,wq1.l,wq2.b,wq2.l,wt1.b,wt1.l,wt2.b,wt2.l,.slice pm ((Cam.rl e).length) cm],qF true wa1 wa2 (Rat.divInt e.r0 0x100000),qF true wb1 wb2 (Rat.divInt e.r1 0x100000),qF true wc1 wc2 (Rat.divInt e.r2 0x100000),qF true wp1 wp2 (Cam.tP1 e),qF true wq1 wq2 (Cam.tP2 e),qF true wt1 wt2 (Cam.lim e),slF rQ pm cm (Cam.rl e)] (Y:=Unit) (fun y=>True) (fun y=> .bool (Cam.nadm e i)) (fun y=>[]) (fun y=>[]):=by
 refine zl Tryz.func45 rfl rfl rfl (fun c=> ?_)
 show RunC _ _ _ _ _ [(0,.int .i64 ((i:Nat):Int)),(1,.pointer (some ⟨bm,0,none⟩))] [] [atF bm 0 [wa1.b,wa1.l,wa2.b,wa2.l,wb1.b,wb1.l,wb2.b,wb2.l,wc1.b,wc1.l,wc2.b,wc2.l,wp1.b,wp1.l,wp2.b,wp2.l,wq1.b,wq1.l,wq2.b,wq2.l,wt1.b,wt1.l,wt2.b,wt2.l,.slice pm ((Cam.rl e).length) cm],qF true wa1 wa2 (Rat.divInt e.r0 0x100000),qF true wb1 wb2 (Rat.divInt e.r1 0x100000),qF true wc1 wc2 (Rat.divInt e.r2 0x100000),qF true wp1 wp2 (Cam.tP1 e),qF true wq1 wq2 (Cam.tP2 e),qF true wt1 wt2 (Cam.lim e),slF rQ pm cm (Cam.rl e)]
 refine zU 7 rfl (fun hL7=> ?_)
 refine ze<|za<|e_p (zb rfl)<|zf<|zd<|ze<|za<|e_ru (zQ (j:=0) 0 ty62 rfl rfl rfl (.t8 (.t8 (.t8 (.take .nil)))))<|e_mv rfl<|e_p (zL (z:=(((i+1):Nat):Int)) rfl rfl (w64 om))<|zJ rfl rfl (.c rfl (.c rfl .n)) ce46 (zog (e:=e) (wa1:=wa1) (wa2:=wa2) (wb1:=wb1) (wb2:=wb2) (wc1:=wc1) (wc2:=wc2) (wp1:=wp1) (wp2:=wp2) (wq1:=wq1) (wq2:=wq2) (wt1:=wt1) (wt2:=wt2) (pm:=pm) (cm:=cm) (k:=(((i+1):Nat):Int)) (hin:=ass) (hok:=ass) (hk:=cbo)) (.c (j:=1) rfl (.c (j:=2) rfl (.c (j:=3) rfl (.c (j:=4) rfl (.c (j:=5) rfl (.c (j:=6) rfl (.c (j:=7) rfl .n)))))))<|e_p (zqb rfl)<|e_p (zb rfl)<|zf<|zd<|zC ?_
 exact zu Tryz.results45 () trivial (zn rfl) (by rfl) (ho:=oN) sN
theorem zkf {e:Cam.Ln} {wa1:Wd} {wa2:Wd} {wb1:Wd} {wb2:Wd} {wc1:Wd} {wc2:Wd} {wp1:Wd} {wp2:Wd} {wq1:Wd} {wq2:Wd} {wt1:Wd} {wt2:Wd} {pm:Option Addr} {cm:Nat} {bm:Nat} (hin:Cam.In e) (hok:Cam.ok e):Con ye 44 [.int .i64 255,.func (.func 45) #[] #[.pointer (some ⟨bm,0,none⟩)]] [] [atF bm 0 [wa1.b,wa1.l,wa2.b,wa2.l,wb1.b,wb1.l,wb2.b,wb2.l,wc1.b,wc1.l,wc2.b,wc2.l,wp1.b,wp1.l,wp2.b,wp2.l,wq1.b,wq1.l,wq2.b,wq2.l,wt1.b,wt1.l,wt2.b,wt2.l,.slice pm ((Cam.rl e).length) cm],qF true wa1 wa2 (Rat.divInt e.r0 0x100000),qF true wb1 wb2 (Rat.divInt e.r1 0x100000),qF true wc1 wc2 (Rat.divInt e.r2 0x100000),qF true wp1 wp2 (Cam.tP1 e),qF true wq1 wq2 (Cam.tP2 e),qF true wt1 wt2 (Cam.lim e),slF rQ pm cm (Cam.rl e)] (Y:=Unit) (fun y=>True) (fun y=> .int .i64 (((Cam.md e):Nat):Int)) (fun y=>[]) (fun y=>[]):=by
 refine zl Tryz.func44 rfl rfl rfl (fun c=> ?_)
 show RunC _ _ _ _ _ [(0,.int .i64 255),(1,.func (.func 45) #[] #[.pointer (some ⟨bm,0,none⟩)])] [] [atF bm 0 [wa1.b,wa1.l,wa2.b,wa2.l,wb1.b,wb1.l,wb2.b,wb2.l,wc1.b,wc1.l,wc2.b,wc2.l,wp1.b,wp1.l,wp2.b,wp2.l,wq1.b,wq1.l,wq2.b,wq2.l,wt1.b,wt1.l,wt2.b,wt2.l,.slice pm ((Cam.rl e).length) cm],qF true wa1 wa2 (Rat.divInt e.r0 0x100000),qF true wb1 wb2 (Rat.divInt e.r1 0x100000),qF true wc1 wc2 (Rat.divInt e.r2 0x100000),qF true wp1 wp2 (Cam.tP1 e),qF true wq1 wq2 (Cam.tP2 e),qF true wt1 wt2 (Cam.lim e),slF rQ pm cm (Cam.rl e)]
 refine zU 7 rfl (fun hL7=> ?_)
 refine ze<|za<|e_p (zb rfl)<|zf<|zd<|ze<|za<|e_mv rfl<|e_p (zb rfl)<|e_p (zb rfl)<|zf<|zd<|ze<|zx<|zja (X:=Nat×Nat×Nat) (fun x:Nat×Nat×Nat=>(x.1≤x.2.1∧x.2.1≤255∧x.2.1 - x.1≤x.2.2)∧Cam.srch (Cam.nadm e) x.2.2 x.1 x.2.1=Cam.md e) (fun x=>[(6,.int .i64 ((x.2.1:Nat):Int)),(5,.int .i64 ((x.1:Nat):Int)),(4,.int .i64 0),(1,.func (.func 45) #[] #[.pointer (some ⟨bm,0,none⟩)])]) (fun x=>[]) (fun x=>[atF bm 0 [wa1.b,wa1.l,wa2.b,wa2.l,wb1.b,wb1.l,wb2.b,wb2.l,wc1.b,wc1.l,wc2.b,wc2.l,wp1.b,wp1.l,wp2.b,wp2.l,wq1.b,wq1.l,wq2.b,wq2.l,wt1.b,wt1.l,wt2.b,wt2.l,.slice pm ((Cam.rl e).length) cm],qF true wa1 wa2 (Rat.divInt e.r0 0x100000),qF true wb1 wb2 (Rat.divInt e.r1 0x100000),qF true wc1 wc2 (Rat.divInt e.r2 0x100000),qF true wp1 wp2 (Cam.tP1 e),qF true wq1 wq2 (Cam.tP2 e),qF true wt1 wt2 (Cam.lim e),slF rQ pm cm (Cam.rl e)]) (fun x:Nat×Nat×Nat=>x.2.1 - x.1) (0,255,255) (show (0≤255∧255≤255∧255 - 0≤255)∧Cam.srch (Cam.nadm e) 255 0 255=Cam.md e from by exact ⟨⟨by decide,by decide,by decide⟩,rfl⟩) ((.e rfl (by rfl) (.e rfl (by rfl) (.c rfl (.c rfl .n)))):SubM _ _) (ho:=oN) ((.of [0,1,2,3,4,5,6,7] rfl):SelR _ _ _) ?_
 rintro ⟨i,j,f⟩ hI
 replace hI:(i≤j∧j≤255∧j - i≤f)∧Cam.srch (Cam.nadm e) f i j=Cam.md e:=hI
 try dsimp only
 obtain ⟨⟨hij,hj,hf⟩,hs⟩:=hI
 refine ze<|ze<|za<|e_mv rfl<|e_mv rfl<|e_p (zX rfl rfl)<|zf<|zd<|zG rfl (fun h11=> ?_) (fun h11=> ?_)
 ·
  refine zB<|zd<|zx<|ze<|za<|e_mv rfl<|e_mv rfl<|e_p (zL (z:=(((i+j):Nat):Int)) rfl rfl (w64 om))<|e_p (zD (z:=(((i+j):Nat):Int)) rfl (by rw [Tryz.underlying3];rfl) Tryz.underlying87 (wu64 om))<|e_p (pv_shr (z:=((((i+j):Nat):Int) / 2)) rfl rfl dd rfl)<|e_p (zD (z:=((((i+j):Nat):Int) / 2)) rfl (by rw [Tryz.underlying87];rfl) Tryz.underlying3 (w64 om)) ?_
  have e1:(((((i+j):Nat):Int) / 2):Int)=((((i+j) / 2):Nat):Int):=by omega
  rw [e1]
  refine e_p (zb rfl)<|zf<|zd<|ze<|za<|e_mv rfl<|e_mv rfl<|zKc (first:=[]) (cap:=[.pointer (some ⟨bm,0,none⟩)]) rfl rfl rfl (.c rfl .n) ce45 (zpg (e:=e) (wa1:=wa1) (wa2:=wa2) (wb1:=wb1) (wb2:=wb2) (wc1:=wc1) (wc2:=wc2) (wp1:=wp1) (wp2:=wp2) (wq1:=wq1) (wq2:=wq2) (wt1:=wt1) (wt2:=wt2) (pm:=pm) (cm:=cm) (bm:=bm) (i:=((i+j) / 2)) (hin:=ass) (hok:=ass) (hi:=cbo)) (.c (j:=0) rfl (.c (j:=1) rfl (.c (j:=2) rfl (.c (j:=3) rfl (.c (j:=4) rfl (.c (j:=5) rfl (.c (j:=6) rfl (.c (j:=7) rfl .n)))))))) ?_
  rintro ⟨⟩ -
  dsimp only [aq,nq,cq]
  refine e_p (zqb rfl)<|zf<|zd<|zZa rfl (fun h21=> ?_) (fun h21=> ?_)
  ·
   refine za<|e_mv rfl<|e_p (zL (z:=(((((i+j) / 2)+1):Nat):Int)) rfl rfl (w64 om))<|e_p (zb rfl)<|zf<|zP<|zda (((i+j) / 2+1),j,(f - 1)) (show (((i+j) / 2+1)≤j∧j≤255∧j - ((i+j) / 2+1)≤(f - 1))∧Cam.srch (Cam.nadm e) (f - 1) ((i+j) / 2+1) j=Cam.md e from by exact ⟨⟨by omega,by omega,by omega⟩,(Cam.srch_lo (f:=(Cam.nadm e)) om (by simpa using h21) om).symm.trans hs⟩) (by show j - ((i+j) / 2+1)<j - i;omega) ((.c rfl (.e rfl cgs (.c rfl (.c rfl .n)))):SubM _ _) (ho:=oN) ((.of [0,1,2,3,4,5,6,7] rfl):SelR _ _ _)
  ·
   refine za<|e_mv rfl<|e_p (zb rfl)<|zf<|zP<|zda (i,((i+j) / 2),(f - 1)) (show (i≤((i+j) / 2)∧((i+j) / 2)≤255∧((i+j) / 2) - i≤(f - 1))∧Cam.srch (Cam.nadm e) (f - 1) i ((i+j) / 2)=Cam.md e from by exact ⟨⟨by omega,by omega,by omega⟩,(Cam.srch_hi (f:=(Cam.nadm e)) om (by simpa using h21) om).symm.trans hs⟩) (by show (i+j) / 2 - i<j - i;omega) (mR rfl) (ho:=oN) ((.of [0,1,2,3,4,5,6,7] rfl):SelR _ _ _)
 ·
  refine zfa<|zi<|zi<|zw<|zd<|ze<|za<|e_mv rfl<|e_p (zb rfl)<|zf<|zd<|zC ?_
  exact zu Tryz.results44 () trivial (zn rfl) (by rw [← hs,Cam.srch_done om]) (ho:=oN) sN
theorem znd {e:Cam.Ln} (hin:Cam.In e):Con ye 14 [.agg #[.int .i64 (e.f),.int .i64 (e.cx),.int .i64 (e.cy),.int .i64 (e.r0),.int .i64 (e.r1),.int .i64 (e.r2),.int .i64 (e.p1),.int .i64 (e.p2),.int .i64 (e.fd)]] [] [] (Y:=Wd×Wd) (fun y=>True) (fun y=> .tuple #[.agg #[y.1.b,y.1.l,y.2.b,y.2.l],.int .i64 (Cam.mdc e)]) (fun y=>[]) (fun y=>[qF (decide (Cam.mdc e=0)) y.1 y.2 (if Cam.mdc e=0 then Rat.divInt ((Cam.md e:Nat):Int) 256 else 0)]):=by
 refine zl Tryz.func14 rfl rfl rfl (fun c=> ?_)
 show RunC _ _ _ _ _ [(0,.agg #[.int .i64 (e.f),.int .i64 (e.cx),.int .i64 (e.cy),.int .i64 (e.r0),.int .i64 (e.r1),.int .i64 (e.r2),.int .i64 (e.p1),.int .i64 (e.p2),.int .i64 (e.fd)])] [] []
 obtain ⟨hf1,hcx1,hcy1,hr01,hr11,hr21,hp11,hp21,hfd1⟩:=id hin
 refine ze<|za<|zI rfl rfl (zR rfl rfl) (fun b1=> ?_)
 refine zI rfl rfl (zr zr32 rfl) (fun b2=> ?_)
 refine e_p (zb rfl)<|zf<|zd<|ze<|ze<|za<|e_ru (zc 1 ty27 rfl rfl (.t8 (.take .nil)))<|zJ rfl rfl (.c rfl .n) ce24 (zBc (e:=e) (hin:=ass)) (.n)<|e_p (zb rfl)<|zf<|zd<|ze<|za<|e_mv rfl<|e_p (zib rfl rfl)<|zf<|zd<|zG rfl (fun h10=> ?_) (fun h10=> ?_)
 ·
  refine ze<|za<|e_p (zN zr32 rfl Tryz.underlying32 (.c sz30 (.c sz30 .n)) .n .n)<|e_mv rfl<|zj 0 rfl rfl rfl rfl rfl sz32 rfl (.t4 .nil) .z<|e_p (zb rfl)<|zf<|zd<|zC<|zk<|znb (qF false wz wz 0) (fun g _=>qF_none g) ?_
  exact zFa Tryz.results14 (wz,wz) trivial (zo 0 ty32 rfl rfl (.t4 .nil)) (zn rfl) (by rw [Cam.mdc_no h10];rfl) (ho:=oN) ((.e (j:=0) rfl (by rw [Cam.mdc_no h10,if_neg h10,decide_eq_false h10]) .n):SelR _ _ _)
 ·
  have hok:Cam.ok e:=Cam.ck_ok (Decidable.not_not.1 h10)
  have hmd:=Cam.md_le e
  refine zB<|zd<|ze<|za<|e_ru (zc 1 ty27 rfl rfl (.t8 (.take .nil)))<|zm rfl rfl (.c rfl .n) ce33 (zRc (e:=e) (hin:=ass) (hok:=by first|rfl|assumption|omega|decide)) (.n) ?_
  rintro ⟨wa13,wa24,wb15,wb26,wc17,wc28,wp19,wp210,wq111,wq212,wt113,wt214,pm15,cm16⟩ -
  dsimp only [aq,nq,cq]
  refine zI rfl rfl (zr zr62 rfl) (fun b17=> ?_)
  refine zj 0 rfl rfl rfl rfl rfl sz62 rfl (.t8 (.t8 (.t8 (.take .nil)))) .z<|zf<|zd<|ze<|znc 0 rfl .z<|za<|e_p (zYc .n (.c rfl .n))<|zJ rfl rfl (.c rfl (.c rfl .n)) ce44 (zkf (e:=e) (wa1:=wa13) (wa2:=wa24) (wb1:=wb15) (wb2:=wb26) (wc1:=wc17) (wc2:=wc28) (wp1:=wp19) (wp2:=wp210) (wq1:=wq111) (wq2:=wq212) (wt1:=wt113) (wt2:=wt214) (pm:=pm15) (cm:=cm16) (bm:=b17) (hin:=ass) (hok:=by first|rfl|assumption|omega|decide)) (.c (j:=0) rfl (.c (j:=1) rfl (.c (j:=2) rfl (.c (j:=3) rfl (.c (j:=4) rfl (.c (j:=5) rfl (.c (j:=6) rfl (.c (j:=7) rfl .n))))))))<|e_p (zb rfl)<|zf<|zd<|ze<|ze<|za<|e_mv rfl<|e_p (zwa rfl rfl)<|zf<|zd<|zG rfl (fun h18=> ?_) (fun h18=> ?_)
  ·
   refine ze<|za<|e_p (zN zr32 rfl Tryz.underlying32 (.c sz30 (.c sz30 .n)) .n .n)<|zj 1 rfl rfl rfl rfl rfl sz32 rfl (.t4 .nil) (.s .z)<|e_p (zb rfl)<|zf<|zd<|zC<|zk<|znb (qF false wz wz 0) (fun g _=>qF_none g) ?_
   exact zFa Tryz.results14 (wz,wz) trivial (zo 1 ty32 rfl rfl (.t4 .nil)) (zn rfl) (by rw [Cam.mdc_13 (Decidable.not_not.1 h10) om];rfl) (ho:=oN) ((.e (j:=0) rfl (by rw [Cam.mdc_13 (Decidable.not_not.1 h10) om];rfl) .n):SelR _ _ _)
  ·
   refine zB<|zd<|ze<|za<|e_mv rfl<|zm rfl rfl (.c rfl (.c rfl .n)) ce47 (zwb (z1:=(((Cam.md e):Nat):Int)) (z2:=256) (hz1:=by first|rfl|assumption|omega|decide) (hz2:=by first|rfl|assumption|omega|decide) (hy:=by first|rfl|assumption|omega|decide)) (.n) ?_
   rintro ⟨w318,w419⟩ -
   dsimp only [aq,nq,cq]
   refine zj 1 rfl rfl rfl rfl rfl sz32 rfl (.t4 .nil) (.s .z)<|e_p (zb rfl)<|zf<|zd<|zC ?_
   exact zFa Tryz.results14 (w318,w419) trivial (zo 1 ty32 rfl rfl (.t4 .nil)) (zn rfl) (by rw [Cam.mdc_0 (Decidable.not_not.1 h10) om]) (ho:=oN) ((.e (j:=0) rfl (by rw [Cam.mdc_0 (Decidable.not_not.1 h10) om];rfl) .n):SelR _ _ _)
end Go.Proofs.YtahiajepeodhoaaGreat.Sp
namespace Go.Proofs.YtahiajepeodhoaaGreat.Sp
open Go
set_option linter.unusedVariables false
set_option maxRecDepth 100000
set_option maxHeartbeats 8000000
theorem zfe {e:Cam.Ln} {wa1:Wd} {wa2:Wd} {wb1:Wd} {wb2:Wd} {wc1:Wd} {wc2:Wd} {wp1:Wd} {wp2:Wd} {wq1:Wd} {wq2:Wd} {wt1:Wd} {wt2:Wd} {pm:Option Addr} {cm:Nat} {u1:Wd} {u2:Wd} {v1:Wd} {v2:Wd} {qx:Rat} {qy:Rat} (hin:Cam.In e) (hok:Cam.ok e) (hx:yg qx≤100) (hy:yg qy≤100):Con ye 35 [.agg #[wa1.b,wa1.l,wa2.b,wa2.l,wb1.b,wb1.l,wb2.b,wb2.l,wc1.b,wc1.l,wc2.b,wc2.l,wp1.b,wp1.l,wp2.b,wp2.l,wq1.b,wq1.l,wq2.b,wq2.l,wt1.b,wt1.l,wt2.b,wt2.l,.slice pm ((Cam.rl e).length) cm],.agg #[u1.b,u1.l,u2.b,u2.l,v1.b,v1.l,v2.b,v2.l]] [] [qF true wa1 wa2 (Rat.divInt e.r0 0x100000),qF true wb1 wb2 (Rat.divInt e.r1 0x100000),qF true wc1 wc2 (Rat.divInt e.r2 0x100000),qF true wp1 wp2 (Cam.tP1 e),qF true wq1 wq2 (Cam.tP2 e),qF true wt1 wt2 (Cam.lim e),slF rQ pm cm (Cam.rl e),qF true u1 u2 qx,qF true v1 v2 qy] (Y:=Wd×Wd×Wd×Wd) (fun y=>True) (fun y=> .agg #[y.1.b,y.1.l,y.2.1.b,y.2.1.l,y.2.2.1.b,y.2.2.1.l,y.2.2.2.b,y.2.2.2.l]) (fun y=>[]) (fun y=>[qF true y.1 y.2.1 (Cam.dX e qx qy),qF true y.2.2.1 y.2.2.2 (Cam.dY e qx qy)]):=by
 refine zl Tryz.func35 rfl rfl rfl (fun c=> ?_)
 show RunC _ _ _ _ _ [(0,.agg #[wa1.b,wa1.l,wa2.b,wa2.l,wb1.b,wb1.l,wb2.b,wb2.l,wc1.b,wc1.l,wc2.b,wc2.l,wp1.b,wp1.l,wp2.b,wp2.l,wq1.b,wq1.l,wq2.b,wq2.l,wt1.b,wt1.l,wt2.b,wt2.l,.slice pm ((Cam.rl e).length) cm]),(1,.agg #[u1.b,u1.l,u2.b,u2.l,v1.b,v1.l,v2.b,v2.l])] [] [qF true wa1 wa2 (Rat.divInt e.r0 0x100000),qF true wb1 wb2 (Rat.divInt e.r1 0x100000),qF true wc1 wc2 (Rat.divInt e.r2 0x100000),qF true wp1 wp2 (Cam.tP1 e),qF true wq1 wq2 (Cam.tP2 e),qF true wt1 wt2 (Cam.lim e),slF rQ pm cm (Cam.rl e),qF true u1 u2 qx,qF true v1 v2 qy]
 refine zU 6 rfl (fun hL6=> ?_)
 have hsq:=Cam.sq_hq hx hy
 have hrq:=Cam.ev_hq hsq (Cam.rl e) (Cam.rl_hq hin)
 have hrl:=Cam.rl_len e
 have hrk:(Cam.rl e).length*(4*100+1+4)≤4*(4*100+1+4):=Nat.mul_le_mul_right _ hrl
 have ht1:=Cam.tq1 hin
 have ht2:=Cam.tq2 hin
 have h2q:yg ((2:Int):Rat)≤3:=by decide
 have hp3:=Cam.m3_hq h2q hx hy
 have hpx:=Cam.m3_hq h2q hx hx
 have hpy:=Cam.m3_hq h2q hy hy
 have hqx:=Cam.s2_hq hsq hpx
 have hqy:=Cam.s2_hq hsq hpy
 have hrX:=Cam.m2_hq hx hrq
 have hrY:=Cam.m2_hq hy hrq
 have hu1:=Cam.m2_hq ht1 hp3
 have hu2:=Cam.m2_hq ht2 hp3
 have hu3:=Cam.m2_hq ht1 hqy
 have hu4:=Cam.m2_hq ht2 hqx
 have hl26:Cam.hqA 1000000000 [((2:Int):Rat),qx,qy]:=by exact Cam.hqA_cons om (Cam.hqA_cons om (Cam.hqA_cons om (Cam.hqA_nil dd)))
 have hl30:Cam.hqA 1000000000 [qx,Po.ev (Cam.sq qx qy) (Cam.rl e)]:=by exact Cam.hqA_cons om (Cam.hqA_cons om (Cam.hqA_nil dd))
 have hl35:Cam.hqA 1000000000 [Cam.tP1 e,Cam.mulL [((2:Int):Rat),qx,qy]]:=by exact Cam.hqA_cons om (Cam.hqA_cons om (Cam.hqA_nil dd))
 have hl43:Cam.hqA 1000000000 [((2:Int):Rat),qx,qx]:=by exact Cam.hqA_cons om (Cam.hqA_cons om (Cam.hqA_cons om (Cam.hqA_nil dd)))
 have hl45:Cam.hqA 1000000000 [Cam.sq qx qy,Cam.mulL [((2:Int):Rat),qx,qx]]:=by exact Cam.hqA_cons om (Cam.hqA_cons om (Cam.hqA_nil dd))
 have hl47:Cam.hqA 1000000000 [Cam.tP2 e,Cam.sumL [Cam.sq qx qy,Cam.mulL [((2:Int):Rat),qx,qx]]]:=by exact Cam.hqA_cons om (Cam.hqA_cons om (Cam.hqA_nil dd))
 have hl49:Cam.hqA 1000000000 [Cam.mulL [qx,Po.ev (Cam.sq qx qy) (Cam.rl e)],Cam.mulL [Cam.tP1 e,Cam.mulL [((2:Int):Rat),qx,qy]],Cam.mulL [Cam.tP2 e,Cam.sumL [Cam.sq qx qy,Cam.mulL [((2:Int):Rat),qx,qx]]]]:=by exact Cam.hqA_cons om (Cam.hqA_cons om (Cam.hqA_cons om (Cam.hqA_nil dd)))
 have hl53:Cam.hqA 1000000000 [qy,Po.ev (Cam.sq qx qy) (Cam.rl e)]:=by exact Cam.hqA_cons om (Cam.hqA_cons om (Cam.hqA_nil dd))
 have hl61:Cam.hqA 1000000000 [((2:Int):Rat),qy,qy]:=by exact Cam.hqA_cons om (Cam.hqA_cons om (Cam.hqA_cons om (Cam.hqA_nil dd)))
 have hl63:Cam.hqA 1000000000 [Cam.sq qx qy,Cam.mulL [((2:Int):Rat),qy,qy]]:=by exact Cam.hqA_cons om (Cam.hqA_cons om (Cam.hqA_nil dd))
 have hl65:Cam.hqA 1000000000 [Cam.tP1 e,Cam.sumL [Cam.sq qx qy,Cam.mulL [((2:Int):Rat),qy,qy]]]:=by exact Cam.hqA_cons om (Cam.hqA_cons om (Cam.hqA_nil dd))
 have hl70:Cam.hqA 1000000000 [Cam.tP2 e,Cam.mulL [((2:Int):Rat),qx,qy]]:=by exact Cam.hqA_cons om (Cam.hqA_cons om (Cam.hqA_nil dd))
 have hl72:Cam.hqA 1000000000 [Cam.mulL [qy,Po.ev (Cam.sq qx qy) (Cam.rl e)],Cam.mulL [Cam.tP1 e,Cam.sumL [Cam.sq qx qy,Cam.mulL [((2:Int):Rat),qy,qy]]],Cam.mulL [Cam.tP2 e,Cam.mulL [((2:Int):Rat),qx,qy]]]:=by exact Cam.hqA_cons om (Cam.hqA_cons om (Cam.hqA_cons om (Cam.hqA_nil dd)))
 refine ze<|za<|zI rfl rfl (zR rfl rfl) (fun b1=> ?_)
 refine zI rfl rfl (zR rfl rfl) (fun b2=> ?_)
 refine zI rfl rfl (zr zr34 rfl) (fun b3=> ?_)
 refine zf<|zd<|ze<|zV (OW:=[]) (O:=[boxA b3 34 (cw [wz,wz,wz,wz]),boxA b2 34 (cw [u1,u2,v1,v2]),boxA b1 62 [wa1.b,wa1.l,wa2.b,wa2.l,wb1.b,wb1.l,wb2.b,wb2.l,wc1.b,wc1.l,wc2.b,wc2.l,wp1.b,wp1.l,wp2.b,wp2.l,wq1.b,wq1.l,wq2.b,wq2.l,wt1.b,wt1.l,wt2.b,wt2.l,.slice pm ((Cam.rl e).length) cm]]) 11 mixed (.then .ret) kr<|e_pv 0 rfl rfl (zg yf rfl sz32 rfl rfl)<|e_u 1 rfl rfl (zc 1 ty32 rfl rfl (.t4 .nil))<|e_pv 2 rfl rfl (zg yf rfl sz32 rfl rfl)<|e_u 3 rfl rfl (zc 1 ty32 rfl rfl (.s4 (.t4 .nil)))<|e_u 4 rfl rfl (zc 1 ty34 rfl rfl (.t8 .nil))<|zW (m':=[(15,.agg (cw [u1,u2,v1,v2]).toArray),(14,.agg (cw [v1,v2]).toArray),(12,.agg (cw [u1,u2]).toArray),(4,.pointer (some ⟨b3,0,none⟩)),(2,.pointer (some ⟨b1,0,none⟩))]) (R':=[qF true wa1 wa2 (Rat.divInt e.r0 0x100000),qF true wb1 wb2 (Rat.divInt e.r1 0x100000),qF true wc1 wc2 (Rat.divInt e.r2 0x100000),qF true wp1 wp2 (Cam.tP1 e),qF true wq1 wq2 (Cam.tP2 e),qF true wt1 wt2 (Cam.lim e),slF rQ pm cm (Cam.rl e),qF true u1 u2 qx,qF true v1 v2 qy]) (mR rfl) (List.Perm.refl _) (List.Perm.refl _) ((.of [0,1,2,3,4,5,6,7,8] rfl):SelR _ _ _)<|a_start<|a_step 5 rfl (X:=Wd×Wd) (fun x=> .agg #[x.1.b,x.1.l,x.2.b,x.2.l]) (fun x=>[]) (fun x=>[qF true x.1 x.2 (Cam.sq qx qy)]) [] kr rfl kr kr kr (fun _=> ?_) ?_
 ·
  refine zW (m':=[(15,.agg (cw [u1,u2,v1,v2]).toArray)]) (R':=[qF true u1 u2 qx,qF true v1 v2 qy]) ((.c rfl .n):SubM _ _) (List.Perm.refl _) (List.Perm.refl _) ((.of [7,8] rfl):SelR _ _ _)<|e_one 0 (zp rfl rfl rfl rfl (.c rfl .n) ce69 (zld (u1:=u1) (u2:=u2) (v1:=v1) (v2:=v2) (qx:=qx) (qy:=qy) (hx:=ass) (hy:=ass)) (.c (j:=0) rfl (.c (j:=1) rfl .n)) ?_)
  rintro ⟨u5_1,u5_2⟩ -
  dsimp only [aq,nq,cq]
  refine zH kr ?_
  exact zT (u5_1,u5_2) trivial ((.c rfl .n):SubM _ _) (ho:=oN) (s0 rfl)
 refine a_step 6 rfl (X:=Wd×Wd) (fun x=> .agg #[x.1.b,x.1.l,x.2.b,x.2.l]) (fun x=>[]) (fun x=>[qF true x.1 x.2 ((2:Int):Rat)]) [] kr rfl kr kr kr (fun _=> ?_) ?_
 ·
  refine zW (m':=[]) (R':=[]) (.n:SubM _ _) (List.Perm.refl _) (List.Perm.refl _) sN<|e_one 0 (zp rfl rfl rfl rfl (.c rfl .n) ce58 (zxa (z:=2) (hz:=by first|rfl|assumption|omega|decide|(simp;done))) (.n) ?_)
  rintro ⟨u6_1,u6_2⟩ -
  dsimp only [aq,nq,cq]
  refine zH kr ?_
  exact zT (u6_1,u6_2) trivial ((.c rfl .n):SubM _ _) (ho:=oN) (s0 rfl)
 refine a_step 7 rfl (X:=Nat) (fun x=> .pointer (some ⟨x,0,none⟩)) (fun x=>[boxA x 32 [.bool false,.slice none 0 0,.bool false,.slice none 0 0]]) (fun x=>[]) [] kr rfl kr kr kr (fun _=> ?_) ?_
 ·
  refine zW (m':=[]) (R':=[]) (.n:SubM _ _) (List.Perm.refl _) (List.Perm.refl _) sN<|e_one 0 (zIa rfl rfl rfl rfl (zr zr32 rfl) (fun u7_1 _=> ?_))
  refine zH kr ?_
  exact zT u7_1 trivial ((.c rfl .n):SubM _ _) (ho:=(o0 rfl)) sN
 refine a_step 8 rfl (X:=Nat) (fun x=> .pointer (some ⟨x,0,none⟩)) (fun x=>[boxA x 32 [.bool false,.slice none 0 0,.bool false,.slice none 0 0]]) (fun x=>[]) [] kr rfl kr kr kr (fun _=> ?_) ?_
 ·
  refine zW (m':=[]) (R':=[]) (.n:SubM _ _) (List.Perm.refl _) (List.Perm.refl _) sN<|e_one 0 (zIa rfl rfl rfl rfl (zr zr32 rfl) (fun u8_1 _=> ?_))
  refine zH kr ?_
  exact zT u8_1 trivial ((.c rfl .n):SubM _ _) (ho:=(o0 rfl)) sN
 refine a_step 9 rfl (X:=Nat) (fun x=> .pointer (some ⟨x,0,none⟩)) (fun x=>[boxA x 32 [.bool false,.slice none 0 0,.bool false,.slice none 0 0]]) (fun x=>[]) [] kr rfl kr kr kr (fun _=> ?_) ?_
 ·
  refine zW (m':=[]) (R':=[]) (.n:SubM _ _) (List.Perm.refl _) (List.Perm.refl _) sN<|e_one 0 (zIa rfl rfl rfl rfl (zr zr32 rfl) (fun u9_1 _=> ?_))
  refine zH kr ?_
  exact zT u9_1 trivial ((.c rfl .n):SubM _ _) (ho:=(o0 rfl)) sN
 refine a_step 10 rfl (X:=Nat) (fun x=> .pointer (some ⟨x,0,none⟩)) (fun x=>[boxA x 32 [.bool false,.slice none 0 0,.bool false,.slice none 0 0]]) (fun x=>[]) [] kr rfl kr kr kr (fun _=> ?_) ?_
 ·
  refine zW (m':=[]) (R':=[]) (.n:SubM _ _) (List.Perm.refl _) (List.Perm.refl _) sN<|e_one 0 (zIa rfl rfl rfl rfl (zr zr32 rfl) (fun u10_1 _=> ?_))
  refine zH kr ?_
  exact zT u10_1 trivial ((.c rfl .n):SubM _ _) (ho:=(o0 rfl)) sN
 refine a_fin (k':=4) (L':=(lb 15 2047)) kr kr kr kr kr kr kr ?_
 rintro g10_0 g9_0 g8_0 g7_0 ⟨g6_0,g6_1⟩ ⟨g5_0,g5_1⟩
 refine zW (m':=[(8,.pointer (some ⟨g10_0,0,none⟩)),(7,.pointer (some ⟨g9_0,0,none⟩)),(6,.pointer (some ⟨g8_0,0,none⟩)),(5,.pointer (some ⟨g7_0,0,none⟩)),(17,.agg (cw [g6_0,g6_1]).toArray),(16,.agg (cw [g5_0,g5_1]).toArray),(15,.agg (cw [u1,u2,v1,v2]).toArray),(14,.agg (cw [v1,v2]).toArray),(12,.agg (cw [u1,u2]).toArray),(4,.pointer (some ⟨b3,0,none⟩)),(2,.pointer (some ⟨b1,0,none⟩))]) (OW':=[boxA g10_0 32 (cw [wz,wz]),boxA g9_0 32 (cw [wz,wz]),boxA g8_0 32 (cw [wz,wz]),boxA g7_0 32 (cw [wz,wz])]) (R':=[qF true g6_0 g6_1 ((2:Int):Rat),qF true g5_0 g5_1 (Cam.sq qx qy),qF true wa1 wa2 (Rat.divInt e.r0 0x100000),qF true wb1 wb2 (Rat.divInt e.r1 0x100000),qF true wc1 wc2 (Rat.divInt e.r2 0x100000),qF true wp1 wp2 (Cam.tP1 e),qF true wq1 wq2 (Cam.tP2 e),qF true wt1 wt2 (Cam.lim e),slF rQ pm cm (Cam.rl e),qF true u1 u2 qx,qF true v1 v2 qy]) (mR rfl) (List.Perm.refl _) (List.Perm.refl _) ((.of [0,1,2,3,4,5,6,7,8,9,10] rfl):SelR _ _ _)<|zza (zea (i:=3) rfl)<|e_one 11 (zv kr rfl rfl rfl rfl rfl sz32 rfl (.t4 .nil) ?_)
 refine zza (zea (i:=3) rfl)<|e_one 12 (zv kr rfl rfl rfl rfl rfl sz32 rfl (.t4 .nil) ?_)
 refine zza (zea (i:=3) rfl)<|e_one 13 (zv kr rfl rfl rfl rfl rfl sz32 rfl (.t4 .nil) ?_)
 refine zza (zea (i:=3) rfl)<|e_one 14 (zv kr rfl rfl rfl rfl rfl sz32 rfl (.t4 .nil) ?_)
 refine zH kr<|zd<|ze<|zTb (eF g5_0 g5_1 (some (Cam.sq qx qy))) (fun g h=>qF_e (Holds.get 1 rfl h))<|za<|e_p (zg yc rfl sz60 rfl rfl)<|e_ru (zh 6 ty60 rfl rfl rfl)<|e_ru (zc 1 ty32 rfl rfl (.t4 .nil))<|zna (addQE 9 rfl)<|zm rfl rfl (.c rfl (.c rfl .n)) ce70 (zmd (p1:=pm) (n1:=(Cam.rl e).length) (c1:=cm) (l1:=((Cam.rl e).map some)) (u1:=g5_0) (v1:=g5_1) (x1:=(some (Cam.sq qx qy))) (hn1:=by exact List.length_map _) (hm1:=om) (hx:=by show yg (Cam.sq qx qy)≤_;omega) (hb1:=by intro i;have h9:=Cam.rl_hq hin i;rw [Po.msome];omega) (hs:=by intro i;rw [Po.vals_some];exact Nat.le_trans (Cam.rl_drop hin hsq i) dd)) (.c (j:=0) rfl (.c (j:=1) rfl .n)) ?_
 rintro ⟨w34,w45⟩ -
 dsimp only [aq,nq,cq]
 refine zI rfl rfl (zr zr32 rfl) (fun b6=> ?_)
 refine zj 0 rfl rfl rfl rfl rfl sz32 rfl (.t4 .nil) .z<|zf<|zd<|ze ?_
 have e7:(Po.ev ((some (Cam.sq qx qy)).getD 0) (Po.vals ((Cam.rl e).map some)):Rat)=Po.ev (Cam.sq qx qy) (Cam.rl e):=by rw [Po.vals_some];rfl
 rw [e7]
 refine za<|e_ru (zc 1 ty32 rfl rfl (.t4 .nil))<|e_ru (zc 4 ty32 rfl rfl (.t4 .nil))<|e_ru (zc 3 ty32 rfl rfl (.t4 .nil))<|zva rfl rfl (zA (r:=rQ) (k:=3) yb inf32 rfl dd dd dd (.c (x:=((2:Int):Rat)) (cs:=[g6_0.b,g6_0.l,g6_1.b,g6_1.l]) (g6_0,g6_1) rfl rfl rfl (fun g hr=>Holds.get 3 rfl hr) (.c (x:=qx) (cs:=[u1.b,u1.l,u2.b,u2.l]) (u1,u2) rfl rfl rfl (fun g hr=>Holds.get 12 rfl hr) (.c (x:=qy) (cs:=[v1.b,v1.l,v2.b,v2.l]) (v1,v2) rfl rfl rfl (fun g hr=>Holds.get 13 rfl hr) .n)))) (fun b8 _=> ?_)
 refine zba 0 rfl .z<|zm rfl rfl (.c rfl .n) ce56 (zAa (p:=some ⟨b8,0,none⟩) (n:=3) (cap:=3) (l:=[((2:Int):Rat),qx,qy]) (hn:=by exact rfl) (hn9:=dd) (hl:=by exact hl26) (hn1:=dd)) (.c (j:=0) rfl .n) ?_
 rintro ⟨w39,w410⟩ -
 dsimp only [aq,nq,cq]
 refine zI rfl rfl (zr zr32 rfl) (fun b11=> ?_)
 refine zj 0 rfl rfl rfl rfl rfl sz32 rfl (.t4 .nil) .z<|zf<|zd<|ze<|zqa (.c (i:=7) rfl (.c (i:=0) rfl (.c (i:=1) rfl (.c (i:=1) rfl (.c (i:=1) rfl (.c (i:=1) rfl (.c (i:=1) rfl (.c (i:=2) rfl .n))))))))<|zV (OW:=[boxA b3 34 (cw [wz,wz,wz,wz])]) (O:=[boxA b11 32 (cw [w39,w410]),boxA b6 32 (cw [w34,w45]),boxA g10_0 32 (cw [g6_0,g6_1]),boxA g9_0 32 (cw [g5_0,g5_1]),boxA g8_0 32 (cw [v1,v2]),boxA g7_0 32 (cw [u1,u2]),boxA b1 62 [wa1.b,wa1.l,wa2.b,wa2.l,wb1.b,wb1.l,wb2.b,wb2.l,wc1.b,wc1.l,wc2.b,wc2.l,wp1.b,wp1.l,wp2.b,wp2.l,wq1.b,wq1.l,wq2.b,wq2.l,wt1.b,wt1.l,wt2.b,wt2.l,.slice pm ((Cam.rl e).length) cm]]) 47 mixed (.then .ret) kr<|e_uw 0 rfl rfl (zc 6 ty32 rfl rfl (.t4 .nil))<|e_uw 1 rfl rfl (zc 2 ty32 rfl rfl (.t4 .nil))<|e_pv 4 rfl rfl (zg yc rfl sz32 rfl rfl)<|e_uw 5 rfl rfl (zc 7 ty32 rfl rfl (.s8 (.s4 (.t4 .nil))))<|e_uw 6 rfl rfl (zc 1 ty32 rfl rfl (.t4 .nil))<|e_pv 9 rfl rfl (zg yc rfl sz32 rfl rfl)<|e_uw 10 rfl rfl (zc 7 ty32 rfl rfl (.s8 (.s8 (.t4 .nil))))<|e_uw 11 rfl rfl (zc 4 ty32 rfl rfl (.t4 .nil))<|e_uw 12 rfl rfl (zc 3 ty32 rfl rfl (.t4 .nil))<|e_uw 13 rfl rfl (zc 6 ty32 rfl rfl (.t4 .nil))<|e_uw 14 rfl rfl (zc 6 ty32 rfl rfl (.t4 .nil))<|e_uw 23 rfl rfl (zc 5 ty32 rfl rfl (.t4 .nil))<|e_uw 24 rfl rfl (zc 2 ty32 rfl rfl (.t4 .nil))<|e_pv 27 rfl rfl (zg yc rfl sz32 rfl rfl)<|e_uw 28 rfl rfl (zc 7 ty32 rfl rfl (.s8 (.s4 (.t4 .nil))))<|e_uw 29 rfl rfl (zc 4 ty32 rfl rfl (.t4 .nil))<|e_uw 30 rfl rfl (zc 3 ty32 rfl rfl (.t4 .nil))<|e_uw 31 rfl rfl (zc 5 ty32 rfl rfl (.t4 .nil))<|e_uw 32 rfl rfl (zc 5 ty32 rfl rfl (.t4 .nil))<|e_pv 39 rfl rfl (zg yc rfl sz32 rfl rfl)<|e_uw 40 rfl rfl (zc 7 ty32 rfl rfl (.s8 (.s8 (.t4 .nil))))<|e_uw 41 rfl rfl (zc 1 ty32 rfl rfl (.t4 .nil))<|zW (m':=[(68,.agg (cw [w39,w410]).toArray),(67,.agg (cw [wq1,wq2]).toArray),(59,.agg (cw [v1,v2]).toArray),(58,.agg (cw [v1,v2]).toArray),(57,.agg (cw [g6_0,g6_1]).toArray),(56,.agg (cw [g5_0,g5_1]).toArray),(55,.agg (cw [wp1,wp2]).toArray),(51,.agg (cw [w34,w45]).toArray),(50,.agg (cw [v1,v2]).toArray),(41,.agg (cw [u1,u2]).toArray),(40,.agg (cw [u1,u2]).toArray),(39,.agg (cw [g6_0,g6_1]).toArray),(38,.agg (cw [g5_0,g5_1]).toArray),(37,.agg (cw [wq1,wq2]).toArray),(33,.agg (cw [w39,w410]).toArray),(32,.agg (cw [wp1,wp2]).toArray),(28,.agg (cw [w34,w45]).toArray),(27,.agg (cw [u1,u2]).toArray),(4,.pointer (some ⟨b3,0,none⟩))]) (R':=[qF true w39 w410 (Cam.mulL ([((2:Int):Rat),qx,qy])),qF true w34 w45 (Po.ev (Cam.sq qx qy) (Cam.rl e)),slF rE pm cm ((Cam.rl e).map some),eF g5_0 g5_1 (some (Cam.sq qx qy)),qF true g6_0 g6_1 ((2:Int):Rat),qF true g5_0 g5_1 (Cam.sq qx qy),qF true wa1 wa2 (Rat.divInt e.r0 0x100000),qF true wb1 wb2 (Rat.divInt e.r1 0x100000),qF true wc1 wc2 (Rat.divInt e.r2 0x100000),qF true wp1 wp2 (Cam.tP1 e),qF true wq1 wq2 (Cam.tP2 e),qF true wt1 wt2 (Cam.lim e),slF rQ pm cm (Cam.rl e),qF true u1 u2 qx,qF true v1 v2 qy]) (mR rfl) (List.Perm.refl _) (List.Perm.refl _) ((.of [0,2,3,4,5,6,7,8,9,10,11,12,13,14,15] rfl):SelR _ _ _) ?_
 refine a_start<|a_step 2 rfl (X:=Nat) (fun x=> .slice (some ⟨x,0,none⟩) 2 2) (fun x=>[]) (fun x=>[slF rQ (some ⟨x,0,none⟩) 2 ([qx,(Po.ev (Cam.sq qx qy) (Cam.rl e))])]) [] kr rfl kr kr kr (fun _=> ?_) ?_
 ·
  refine zW (m':=[(28,.agg (cw [w34,w45]).toArray),(27,.agg (cw [u1,u2]).toArray)]) (R':=[qF true w34 w45 (Po.ev (Cam.sq qx qy) (Cam.rl e)),qF true u1 u2 qx]) ((.c rfl (.c rfl .n)):SubM _ _) (List.Perm.refl _) (List.Perm.refl _) ((.of [1,13] rfl):SelR _ _ _)<|e_one 0 (zIa rfl rfl rfl rfl (zA (r:=rQ) (k:=2) yb inf32 rfl dd dd dd (.c (x:=qx) (cs:=[u1.b,u1.l,u2.b,u2.l]) (u1,u2) rfl rfl rfl (fun g hr=>Holds.get 1 rfl hr) (.c (x:=(Po.ev (Cam.sq qx qy) (Cam.rl e))) (cs:=[w34.b,w34.l,w45.b,w45.l]) (w34,w45) rfl rfl rfl (fun g hr=>Holds.get 0 rfl hr) .n))) (fun u2_1r2 _=> ?_))
  refine zla 0 rfl .z<|zH kr ?_
  exact zT u2_1r2 trivial ((.c rfl .n):SubM _ _) (ho:=oN) (s0 rfl)
 refine a_step 3 rfl (X:=Wd×Wd) (fun x=> .agg #[x.1.b,x.1.l,x.2.b,x.2.l]) (fun x=>[]) (fun x=>[qF true x.1 x.2 (Cam.mulL ([qx,(Po.ev (Cam.sq qx qy) (Cam.rl e))]))]) [0] kr rfl kr kr kr (fun _=> ?_) ?_
 ·
  rintro g2_0r2
  refine zW (m':=[(29,.slice (some ⟨g2_0r2,0,none⟩) 2 2)]) (R':=[slF rQ (some ⟨g2_0r2,0,none⟩) 2 ([qx,(Po.ev (Cam.sq qx qy) (Cam.rl e))])]) ((.c rfl .n):SubM _ _) (List.Perm.refl _) (List.Perm.refl _) (s0 rfl)<|e_one 0 (zp rfl rfl rfl rfl (.c rfl .n) ce56 (zAa (p:=some ⟨g2_0r2,0,none⟩) (n:=2) (cap:=2) (l:=[qx,(Po.ev (Cam.sq qx qy) (Cam.rl e))]) (hn:=by exact rfl) (hn9:=dd) (hl:=by exact hl30) (hn1:=dd)) (.c (j:=0) rfl .n) ?_)
  rintro ⟨u3_1r2,u3_2r2⟩ -
  dsimp only [aq,nq,cq]
  refine zH kr ?_
  exact zT (u3_1r2,u3_2r2) trivial ((.c rfl .n):SubM _ _) (ho:=oN) (s0 rfl)
 refine a_step 7 rfl (X:=Nat) (fun x=> .slice (some ⟨x,0,none⟩) 2 2) (fun x=>[]) (fun x=>[slF rQ (some ⟨x,0,none⟩) 2 ([(Cam.tP1 e),(Cam.mulL ([((2:Int):Rat),qx,qy]))])]) [] kr rfl kr kr kr (fun _=> ?_) ?_
 ·
  refine zW (m':=[(33,.agg (cw [w39,w410]).toArray),(32,.agg (cw [wp1,wp2]).toArray)]) (R':=[qF true w39 w410 (Cam.mulL ([((2:Int):Rat),qx,qy])),qF true wp1 wp2 (Cam.tP1 e)]) ((.c rfl (.c rfl .n)):SubM _ _) (List.Perm.refl _) (List.Perm.refl _) ((.of [0,9] rfl):SelR _ _ _)<|e_one 0 (zIa rfl rfl rfl rfl (zA (r:=rQ) (k:=2) yb inf32 rfl dd dd dd (.c (x:=(Cam.tP1 e)) (cs:=[wp1.b,wp1.l,wp2.b,wp2.l]) (wp1,wp2) rfl rfl rfl (fun g hr=>Holds.get 1 rfl hr) (.c (x:=(Cam.mulL ([((2:Int):Rat),qx,qy]))) (cs:=[w39.b,w39.l,w410.b,w410.l]) (w39,w410) rfl rfl rfl (fun g hr=>Holds.get 0 rfl hr) .n))) (fun u7_1r2 _=> ?_))
  refine zla 0 rfl .z<|zH kr ?_
  exact zT u7_1r2 trivial ((.c rfl .n):SubM _ _) (ho:=oN) (s0 rfl)
 refine a_step 8 rfl (X:=Wd×Wd) (fun x=> .agg #[x.1.b,x.1.l,x.2.b,x.2.l]) (fun x=>[]) (fun x=>[qF true x.1 x.2 (Cam.mulL ([(Cam.tP1 e),(Cam.mulL ([((2:Int):Rat),qx,qy]))]))]) [0] kr rfl kr kr kr (fun _=> ?_) ?_
 ·
  rintro g7_0r2
  refine zW (m':=[(34,.slice (some ⟨g7_0r2,0,none⟩) 2 2)]) (R':=[slF rQ (some ⟨g7_0r2,0,none⟩) 2 ([(Cam.tP1 e),(Cam.mulL ([((2:Int):Rat),qx,qy]))])]) ((.c rfl .n):SubM _ _) (List.Perm.refl _) (List.Perm.refl _) (s0 rfl)<|e_one 0 (zp rfl rfl rfl rfl (.c rfl .n) ce56 (zAa (p:=some ⟨g7_0r2,0,none⟩) (n:=2) (cap:=2) (l:=[(Cam.tP1 e),(Cam.mulL ([((2:Int):Rat),qx,qy]))]) (hn:=by exact rfl) (hn9:=dd) (hl:=by exact hl35) (hn1:=dd)) (.c (j:=0) rfl .n) ?_)
  rintro ⟨u8_1r2,u8_2r2⟩ -
  dsimp only [aq,nq,cq]
  refine zH kr ?_
  exact zT (u8_1r2,u8_2r2) trivial ((.c rfl .n):SubM _ _) (ho:=oN) (s0 rfl)
 refine a_step 15 rfl (X:=Nat) (fun x=> .slice (some ⟨x,0,none⟩) 3 3) (fun x=>[]) (fun x=>[slF rQ (some ⟨x,0,none⟩) 3 ([((2:Int):Rat),qx,qx])]) [] kr rfl kr kr kr (fun _=> ?_) ?_
 ·
  refine zW (m':=[(41,.agg (cw [u1,u2]).toArray),(40,.agg (cw [u1,u2]).toArray),(39,.agg (cw [g6_0,g6_1]).toArray)]) (R':=[qF true g6_0 g6_1 ((2:Int):Rat),qF true u1 u2 qx]) (mR rfl) (List.Perm.refl _) (List.Perm.refl _) ((.of [4,13] rfl):SelR _ _ _)<|e_one 0 (zIa rfl rfl rfl rfl (zA (r:=rQ) (k:=3) yb inf32 rfl dd dd dd (.c (x:=((2:Int):Rat)) (cs:=[g6_0.b,g6_0.l,g6_1.b,g6_1.l]) (g6_0,g6_1) rfl rfl rfl (fun g hr=>Holds.get 0 rfl hr) (.c (x:=qx) (cs:=[u1.b,u1.l,u2.b,u2.l]) (u1,u2) rfl rfl rfl (fun g hr=>Holds.get 1 rfl hr) (.c (x:=qx) (cs:=[u1.b,u1.l,u2.b,u2.l]) (u1,u2) rfl rfl rfl (fun g hr=>Holds.get 1 rfl hr) .n)))) (fun u15_1r2 _=> ?_))
  refine zla 0 rfl .z<|zH kr ?_
  exact zT u15_1r2 trivial ((.c rfl .n):SubM _ _) (ho:=oN) (s0 rfl)
 refine a_step 16 rfl (X:=Wd×Wd) (fun x=> .agg #[x.1.b,x.1.l,x.2.b,x.2.l]) (fun x=>[]) (fun x=>[qF true x.1 x.2 (Cam.mulL ([((2:Int):Rat),qx,qx]))]) [0] kr rfl kr kr kr (fun _=> ?_) ?_
 ·
  rintro g15_0r2
  refine zW (m':=[(42,.slice (some ⟨g15_0r2,0,none⟩) 3 3)]) (R':=[slF rQ (some ⟨g15_0r2,0,none⟩) 3 ([((2:Int):Rat),qx,qx])]) ((.c rfl .n):SubM _ _) (List.Perm.refl _) (List.Perm.refl _) (s0 rfl)<|e_one 0 (zp rfl rfl rfl rfl (.c rfl .n) ce56 (zAa (p:=some ⟨g15_0r2,0,none⟩) (n:=3) (cap:=3) (l:=[((2:Int):Rat),qx,qx]) (hn:=by exact rfl) (hn9:=dd) (hl:=by exact hl43) (hn1:=dd)) (.c (j:=0) rfl .n) ?_)
  rintro ⟨u16_1r2,u16_2r2⟩ -
  dsimp only [aq,nq,cq]
  refine zH kr ?_
  exact zT (u16_1r2,u16_2r2) trivial ((.c rfl .n):SubM _ _) (ho:=oN) (s0 rfl)
 refine a_step 17 rfl (X:=Nat) (fun x=> .slice (some ⟨x,0,none⟩) 2 2) (fun x=>[]) (fun x=>[slF rQ (some ⟨x,0,none⟩) 2 ([(Cam.sq qx qy),(Cam.mulL ([((2:Int):Rat),qx,qx]))])]) [0] kr rfl kr kr kr (fun _=> ?_) ?_
 ·
  rintro ⟨g16_0r2,g16_1r2⟩
  refine zW (m':=[(43,.agg (cw [g16_0r2,g16_1r2]).toArray),(38,.agg (cw [g5_0,g5_1]).toArray)]) (R':=[qF true g16_0r2 g16_1r2 (Cam.mulL ([((2:Int):Rat),qx,qx])),eF g5_0 g5_1 (some (Cam.sq qx qy)),qF true g5_0 g5_1 (Cam.sq qx qy)]) ((.c rfl (.c rfl .n)):SubM _ _) (List.Perm.refl _) (List.Perm.refl _) ((.of [0,4,6] rfl):SelR _ _ _)<|e_one 0 (zIa rfl rfl rfl rfl (zA (r:=rQ) (k:=2) yb inf32 rfl dd dd dd (.c (x:=(Cam.sq qx qy)) (cs:=[g5_0.b,g5_0.l,g5_1.b,g5_1.l]) (g5_0,g5_1) rfl rfl rfl (fun g hr=>Holds.get 2 rfl hr) (.c (x:=(Cam.mulL ([((2:Int):Rat),qx,qx]))) (cs:=[g16_0r2.b,g16_0r2.l,g16_1r2.b,g16_1r2.l]) (g16_0r2,g16_1r2) rfl rfl rfl (fun g hr=>Holds.get 0 rfl hr) .n))) (fun u17_1r2 _=> ?_))
  refine zla 0 rfl .z<|zH kr ?_
  exact zT u17_1r2 trivial ((.c rfl .n):SubM _ _) (ho:=oN) (s0 rfl)
 refine a_step 18 rfl (X:=Wd×Wd) (fun x=> .agg #[x.1.b,x.1.l,x.2.b,x.2.l]) (fun x=>[]) (fun x=>[qF true x.1 x.2 (Cam.sumL ([(Cam.sq qx qy),(Cam.mulL ([((2:Int):Rat),qx,qx]))]))]) [0] kr rfl kr kr kr (fun _=> ?_) ?_
 ·
  rintro g17_0r2
  refine zW (m':=[(44,.slice (some ⟨g17_0r2,0,none⟩) 2 2)]) (R':=[slF rQ (some ⟨g17_0r2,0,none⟩) 2 ([(Cam.sq qx qy),(Cam.mulL ([((2:Int):Rat),qx,qx]))])]) ((.c rfl .n):SubM _ _) (List.Perm.refl _) (List.Perm.refl _) (s0 rfl)<|e_one 0 (zp rfl rfl rfl rfl (.c rfl .n) ce59 (zAb (p:=some ⟨g17_0r2,0,none⟩) (n:=2) (cap:=2) (l:=[(Cam.sq qx qy),(Cam.mulL ([((2:Int):Rat),qx,qx]))]) (hn:=by exact rfl) (hn9:=dd) (hl:=by exact hl45)) (.c (j:=0) rfl .n) ?_)
  rintro ⟨u18_1r2,u18_2r2⟩ -
  dsimp only [aq,nq,cq]
  refine zH kr ?_
  exact zT (u18_1r2,u18_2r2) trivial ((.c rfl .n):SubM _ _) (ho:=oN) (s0 rfl)
 refine a_step 19 rfl (X:=Nat) (fun x=> .slice (some ⟨x,0,none⟩) 2 2) (fun x=>[]) (fun x=>[slF rQ (some ⟨x,0,none⟩) 2 ([(Cam.tP2 e),(Cam.sumL ([(Cam.sq qx qy),(Cam.mulL ([((2:Int):Rat),qx,qx]))]))])]) [0] kr rfl kr kr kr (fun _=> ?_) ?_
 ·
  rintro ⟨g18_0r2,g18_1r2⟩
  refine zW (m':=[(45,.agg (cw [g18_0r2,g18_1r2]).toArray),(37,.agg (cw [wq1,wq2]).toArray)]) (R':=[qF true g18_0r2 g18_1r2 (Cam.sumL ([(Cam.sq qx qy),(Cam.mulL ([((2:Int):Rat),qx,qx]))])),qF true wq1 wq2 (Cam.tP2 e)]) ((.c rfl (.c rfl .n)):SubM _ _) (List.Perm.refl _) (List.Perm.refl _) ((.of [0,11] rfl):SelR _ _ _)<|e_one 0 (zIa rfl rfl rfl rfl (zA (r:=rQ) (k:=2) yb inf32 rfl dd dd dd (.c (x:=(Cam.tP2 e)) (cs:=[wq1.b,wq1.l,wq2.b,wq2.l]) (wq1,wq2) rfl rfl rfl (fun g hr=>Holds.get 1 rfl hr) (.c (x:=(Cam.sumL ([(Cam.sq qx qy),(Cam.mulL ([((2:Int):Rat),qx,qx]))]))) (cs:=[g18_0r2.b,g18_0r2.l,g18_1r2.b,g18_1r2.l]) (g18_0r2,g18_1r2) rfl rfl rfl (fun g hr=>Holds.get 0 rfl hr) .n))) (fun u19_1r2 _=> ?_))
  refine zla 0 rfl .z<|zH kr ?_
  exact zT u19_1r2 trivial ((.c rfl .n):SubM _ _) (ho:=oN) (s0 rfl)
 refine a_step 20 rfl (X:=Wd×Wd) (fun x=> .agg #[x.1.b,x.1.l,x.2.b,x.2.l]) (fun x=>[]) (fun x=>[qF true x.1 x.2 (Cam.mulL ([(Cam.tP2 e),(Cam.sumL ([(Cam.sq qx qy),(Cam.mulL ([((2:Int):Rat),qx,qx]))]))]))]) [0] kr rfl kr kr kr (fun _=> ?_) ?_
 ·
  rintro g19_0r2
  refine zW (m':=[(46,.slice (some ⟨g19_0r2,0,none⟩) 2 2)]) (R':=[slF rQ (some ⟨g19_0r2,0,none⟩) 2 ([(Cam.tP2 e),(Cam.sumL ([(Cam.sq qx qy),(Cam.mulL ([((2:Int):Rat),qx,qx]))]))])]) ((.c rfl .n):SubM _ _) (List.Perm.refl _) (List.Perm.refl _) (s0 rfl)<|e_one 0 (zp rfl rfl rfl rfl (.c rfl .n) ce56 (zAa (p:=some ⟨g19_0r2,0,none⟩) (n:=2) (cap:=2) (l:=[(Cam.tP2 e),(Cam.sumL ([(Cam.sq qx qy),(Cam.mulL ([((2:Int):Rat),qx,qx]))]))]) (hn:=by exact rfl) (hn9:=dd) (hl:=by exact hl47) (hn1:=dd)) (.c (j:=0) rfl .n) ?_)
  rintro ⟨u20_1r2,u20_2r2⟩ -
  dsimp only [aq,nq,cq]
  refine zH kr ?_
  exact zT (u20_1r2,u20_2r2) trivial ((.c rfl .n):SubM _ _) (ho:=oN) (s0 rfl)
 refine a_step 21 rfl (X:=Nat) (fun x=> .slice (some ⟨x,0,none⟩) 3 3) (fun x=>[]) (fun x=>[slF rQ (some ⟨x,0,none⟩) 3 ([(Cam.mulL ([qx,(Po.ev (Cam.sq qx qy) (Cam.rl e))])),(Cam.mulL ([(Cam.tP1 e),(Cam.mulL ([((2:Int):Rat),qx,qy]))])),(Cam.mulL ([(Cam.tP2 e),(Cam.sumL ([(Cam.sq qx qy),(Cam.mulL ([((2:Int):Rat),qx,qx]))]))]))])]) [0,6,8] kr rfl kr kr kr (fun _=> ?_) ?_
 ·
  rintro ⟨g20_0r2,g20_1r2⟩
  rintro ⟨g8_0r2,g8_1r2⟩
  rintro ⟨g3_0r2,g3_1r2⟩
  refine zW (m':=[(47,.agg (cw [g20_0r2,g20_1r2]).toArray),(35,.agg (cw [g8_0r2,g8_1r2]).toArray),(30,.agg (cw [g3_0r2,g3_1r2]).toArray)]) (R':=[qF true g20_0r2 g20_1r2 (Cam.mulL ([(Cam.tP2 e),(Cam.sumL ([(Cam.sq qx qy),(Cam.mulL ([((2:Int):Rat),qx,qx]))]))])),qF true g8_0r2 g8_1r2 (Cam.mulL ([(Cam.tP1 e),(Cam.mulL ([((2:Int):Rat),qx,qy]))])),qF true g3_0r2 g3_1r2 (Cam.mulL ([qx,(Po.ev (Cam.sq qx qy) (Cam.rl e))]))]) (mR rfl) (List.Perm.refl _) (List.Perm.refl _) ((.of [0,1,2] rfl):SelR _ _ _)<|e_one 0 (zIa rfl rfl rfl rfl (zA (r:=rQ) (k:=3) yb inf32 rfl dd dd dd (.c (x:=(Cam.mulL ([qx,(Po.ev (Cam.sq qx qy) (Cam.rl e))]))) (cs:=[g3_0r2.b,g3_0r2.l,g3_1r2.b,g3_1r2.l]) (g3_0r2,g3_1r2) rfl rfl rfl (fun g hr=>Holds.get 2 rfl hr) (.c (x:=(Cam.mulL ([(Cam.tP1 e),(Cam.mulL ([((2:Int):Rat),qx,qy]))]))) (cs:=[g8_0r2.b,g8_0r2.l,g8_1r2.b,g8_1r2.l]) (g8_0r2,g8_1r2) rfl rfl rfl (fun g hr=>Holds.get 1 rfl hr) (.c (x:=(Cam.mulL ([(Cam.tP2 e),(Cam.sumL ([(Cam.sq qx qy),(Cam.mulL ([((2:Int):Rat),qx,qx]))]))]))) (cs:=[g20_0r2.b,g20_0r2.l,g20_1r2.b,g20_1r2.l]) (g20_0r2,g20_1r2) rfl rfl rfl (fun g hr=>Holds.get 0 rfl hr) .n)))) (fun u21_1r2 _=> ?_))
  refine zla 0 rfl .z<|zH kr ?_
  exact zT u21_1r2 trivial ((.c rfl .n):SubM _ _) (ho:=oN) (s0 rfl)
 refine a_step 22 rfl (X:=Wd×Wd) (fun x=> .agg #[x.1.b,x.1.l,x.2.b,x.2.l]) (fun x=>[]) (fun x=>[qF true x.1 x.2 (Cam.sumL ([(Cam.mulL ([qx,(Po.ev (Cam.sq qx qy) (Cam.rl e))])),(Cam.mulL ([(Cam.tP1 e),(Cam.mulL ([((2:Int):Rat),qx,qy]))])),(Cam.mulL ([(Cam.tP2 e),(Cam.sumL ([(Cam.sq qx qy),(Cam.mulL ([((2:Int):Rat),qx,qx]))]))]))]))]) [0] kr rfl kr kr kr (fun _=> ?_) ?_
 ·
  rintro g21_0r2
  refine zW (m':=[(48,.slice (some ⟨g21_0r2,0,none⟩) 3 3)]) (R':=[slF rQ (some ⟨g21_0r2,0,none⟩) 3 ([(Cam.mulL ([qx,(Po.ev (Cam.sq qx qy) (Cam.rl e))])),(Cam.mulL ([(Cam.tP1 e),(Cam.mulL ([((2:Int):Rat),qx,qy]))])),(Cam.mulL ([(Cam.tP2 e),(Cam.sumL ([(Cam.sq qx qy),(Cam.mulL ([((2:Int):Rat),qx,qx]))]))]))])]) ((.c rfl .n):SubM _ _) (List.Perm.refl _) (List.Perm.refl _) (s0 rfl)<|e_one 0 (zp rfl rfl rfl rfl (.c rfl .n) ce59 (zAb (p:=some ⟨g21_0r2,0,none⟩) (n:=3) (cap:=3) (l:=[(Cam.mulL ([qx,(Po.ev (Cam.sq qx qy) (Cam.rl e))])),(Cam.mulL ([(Cam.tP1 e),(Cam.mulL ([((2:Int):Rat),qx,qy]))])),(Cam.mulL ([(Cam.tP2 e),(Cam.sumL ([(Cam.sq qx qy),(Cam.mulL ([((2:Int):Rat),qx,qx]))]))]))]) (hn:=by exact rfl) (hn9:=dd) (hl:=by exact hl49)) (.c (j:=0) rfl .n) ?_)
  rintro ⟨u22_1r2,u22_2r2⟩ -
  dsimp only [aq,nq,cq]
  refine zH kr ?_
  exact zT (u22_1r2,u22_2r2) trivial ((.c rfl .n):SubM _ _) (ho:=oN) (s0 rfl)
 refine a_step 25 rfl (X:=Nat) (fun x=> .slice (some ⟨x,0,none⟩) 2 2) (fun x=>[]) (fun x=>[slF rQ (some ⟨x,0,none⟩) 2 ([qy,(Po.ev (Cam.sq qx qy) (Cam.rl e))])]) [] kr rfl kr kr kr (fun _=> ?_) ?_
 ·
  refine zW (m':=[(51,.agg (cw [w34,w45]).toArray),(50,.agg (cw [v1,v2]).toArray)]) (R':=[qF true w34 w45 (Po.ev (Cam.sq qx qy) (Cam.rl e)),qF true v1 v2 qy]) ((.c rfl (.c rfl .n)):SubM _ _) (List.Perm.refl _) (List.Perm.refl _) ((.of [1,14] rfl):SelR _ _ _)<|e_one 0 (zIa rfl rfl rfl rfl (zA (r:=rQ) (k:=2) yb inf32 rfl dd dd dd (.c (x:=qy) (cs:=[v1.b,v1.l,v2.b,v2.l]) (v1,v2) rfl rfl rfl (fun g hr=>Holds.get 1 rfl hr) (.c (x:=(Po.ev (Cam.sq qx qy) (Cam.rl e))) (cs:=[w34.b,w34.l,w45.b,w45.l]) (w34,w45) rfl rfl rfl (fun g hr=>Holds.get 0 rfl hr) .n))) (fun u25_1r2 _=> ?_))
  refine zla 0 rfl .z<|zH kr ?_
  exact zT u25_1r2 trivial ((.c rfl .n):SubM _ _) (ho:=oN) (s0 rfl)
 refine a_step 26 rfl (X:=Wd×Wd) (fun x=> .agg #[x.1.b,x.1.l,x.2.b,x.2.l]) (fun x=>[]) (fun x=>[qF true x.1 x.2 (Cam.mulL ([qy,(Po.ev (Cam.sq qx qy) (Cam.rl e))]))]) [0] kr rfl kr kr kr (fun _=> ?_) ?_
 ·
  rintro g25_0r2
  refine zW (m':=[(52,.slice (some ⟨g25_0r2,0,none⟩) 2 2)]) (R':=[slF rQ (some ⟨g25_0r2,0,none⟩) 2 ([qy,(Po.ev (Cam.sq qx qy) (Cam.rl e))])]) ((.c rfl .n):SubM _ _) (List.Perm.refl _) (List.Perm.refl _) (s0 rfl)<|e_one 0 (zp rfl rfl rfl rfl (.c rfl .n) ce56 (zAa (p:=some ⟨g25_0r2,0,none⟩) (n:=2) (cap:=2) (l:=[qy,(Po.ev (Cam.sq qx qy) (Cam.rl e))]) (hn:=by exact rfl) (hn9:=dd) (hl:=by exact hl53) (hn1:=dd)) (.c (j:=0) rfl .n) ?_)
  rintro ⟨u26_1r2,u26_2r2⟩ -
  dsimp only [aq,nq,cq]
  refine zH kr ?_
  exact zT (u26_1r2,u26_2r2) trivial ((.c rfl .n):SubM _ _) (ho:=oN) (s0 rfl)
 refine a_step 33 rfl (X:=Nat) (fun x=> .slice (some ⟨x,0,none⟩) 3 3) (fun x=>[]) (fun x=>[slF rQ (some ⟨x,0,none⟩) 3 ([((2:Int):Rat),qy,qy])]) [] kr rfl kr kr kr (fun _=> ?_) ?_
 ·
  refine zW (m':=[(59,.agg (cw [v1,v2]).toArray),(58,.agg (cw [v1,v2]).toArray),(57,.agg (cw [g6_0,g6_1]).toArray)]) (R':=[qF true g6_0 g6_1 ((2:Int):Rat),qF true v1 v2 qy]) (mR rfl) (List.Perm.refl _) (List.Perm.refl _) ((.of [4,14] rfl):SelR _ _ _)<|e_one 0 (zIa rfl rfl rfl rfl (zA (r:=rQ) (k:=3) yb inf32 rfl dd dd dd (.c (x:=((2:Int):Rat)) (cs:=[g6_0.b,g6_0.l,g6_1.b,g6_1.l]) (g6_0,g6_1) rfl rfl rfl (fun g hr=>Holds.get 0 rfl hr) (.c (x:=qy) (cs:=[v1.b,v1.l,v2.b,v2.l]) (v1,v2) rfl rfl rfl (fun g hr=>Holds.get 1 rfl hr) (.c (x:=qy) (cs:=[v1.b,v1.l,v2.b,v2.l]) (v1,v2) rfl rfl rfl (fun g hr=>Holds.get 1 rfl hr) .n)))) (fun u33_1r2 _=> ?_))
  refine zla 0 rfl .z<|zH kr ?_
  exact zT u33_1r2 trivial ((.c rfl .n):SubM _ _) (ho:=oN) (s0 rfl)
 refine a_step 34 rfl (X:=Wd×Wd) (fun x=> .agg #[x.1.b,x.1.l,x.2.b,x.2.l]) (fun x=>[]) (fun x=>[qF true x.1 x.2 (Cam.mulL ([((2:Int):Rat),qy,qy]))]) [0] kr rfl kr kr kr (fun _=> ?_) ?_
 ·
  rintro g33_0r2
  refine zW (m':=[(60,.slice (some ⟨g33_0r2,0,none⟩) 3 3)]) (R':=[slF rQ (some ⟨g33_0r2,0,none⟩) 3 ([((2:Int):Rat),qy,qy])]) ((.c rfl .n):SubM _ _) (List.Perm.refl _) (List.Perm.refl _) (s0 rfl)<|e_one 0 (zp rfl rfl rfl rfl (.c rfl .n) ce56 (zAa (p:=some ⟨g33_0r2,0,none⟩) (n:=3) (cap:=3) (l:=[((2:Int):Rat),qy,qy]) (hn:=by exact rfl) (hn9:=dd) (hl:=by exact hl61) (hn1:=dd)) (.c (j:=0) rfl .n) ?_)
  rintro ⟨u34_1r2,u34_2r2⟩ -
  dsimp only [aq,nq,cq]
  refine zH kr ?_
  exact zT (u34_1r2,u34_2r2) trivial ((.c rfl .n):SubM _ _) (ho:=oN) (s0 rfl)
 refine a_step 35 rfl (X:=Nat) (fun x=> .slice (some ⟨x,0,none⟩) 2 2) (fun x=>[]) (fun x=>[slF rQ (some ⟨x,0,none⟩) 2 ([(Cam.sq qx qy),(Cam.mulL ([((2:Int):Rat),qy,qy]))])]) [0] kr rfl kr kr kr (fun _=> ?_) ?_
 ·
  rintro ⟨g34_0r2,g34_1r2⟩
  refine zW (m':=[(61,.agg (cw [g34_0r2,g34_1r2]).toArray),(56,.agg (cw [g5_0,g5_1]).toArray)]) (R':=[qF true g34_0r2 g34_1r2 (Cam.mulL ([((2:Int):Rat),qy,qy])),eF g5_0 g5_1 (some (Cam.sq qx qy)),qF true g5_0 g5_1 (Cam.sq qx qy)]) ((.c rfl (.c rfl .n)):SubM _ _) (List.Perm.refl _) (List.Perm.refl _) ((.of [0,4,6] rfl):SelR _ _ _)<|e_one 0 (zIa rfl rfl rfl rfl (zA (r:=rQ) (k:=2) yb inf32 rfl dd dd dd (.c (x:=(Cam.sq qx qy)) (cs:=[g5_0.b,g5_0.l,g5_1.b,g5_1.l]) (g5_0,g5_1) rfl rfl rfl (fun g hr=>Holds.get 2 rfl hr) (.c (x:=(Cam.mulL ([((2:Int):Rat),qy,qy]))) (cs:=[g34_0r2.b,g34_0r2.l,g34_1r2.b,g34_1r2.l]) (g34_0r2,g34_1r2) rfl rfl rfl (fun g hr=>Holds.get 0 rfl hr) .n))) (fun u35_1r2 _=> ?_))
  refine zla 0 rfl .z<|zH kr ?_
  exact zT u35_1r2 trivial ((.c rfl .n):SubM _ _) (ho:=oN) (s0 rfl)
 refine a_step 36 rfl (X:=Wd×Wd) (fun x=> .agg #[x.1.b,x.1.l,x.2.b,x.2.l]) (fun x=>[]) (fun x=>[qF true x.1 x.2 (Cam.sumL ([(Cam.sq qx qy),(Cam.mulL ([((2:Int):Rat),qy,qy]))]))]) [0] kr rfl kr kr kr (fun _=> ?_) ?_
 ·
  rintro g35_0r2
  refine zW (m':=[(62,.slice (some ⟨g35_0r2,0,none⟩) 2 2)]) (R':=[slF rQ (some ⟨g35_0r2,0,none⟩) 2 ([(Cam.sq qx qy),(Cam.mulL ([((2:Int):Rat),qy,qy]))])]) ((.c rfl .n):SubM _ _) (List.Perm.refl _) (List.Perm.refl _) (s0 rfl)<|e_one 0 (zp rfl rfl rfl rfl (.c rfl .n) ce59 (zAb (p:=some ⟨g35_0r2,0,none⟩) (n:=2) (cap:=2) (l:=[(Cam.sq qx qy),(Cam.mulL ([((2:Int):Rat),qy,qy]))]) (hn:=by exact rfl) (hn9:=dd) (hl:=by exact hl63)) (.c (j:=0) rfl .n) ?_)
  rintro ⟨u36_1r2,u36_2r2⟩ -
  dsimp only [aq,nq,cq]
  refine zH kr ?_
  exact zT (u36_1r2,u36_2r2) trivial ((.c rfl .n):SubM _ _) (ho:=oN) (s0 rfl)
 refine a_step 37 rfl (X:=Nat) (fun x=> .slice (some ⟨x,0,none⟩) 2 2) (fun x=>[]) (fun x=>[slF rQ (some ⟨x,0,none⟩) 2 ([(Cam.tP1 e),(Cam.sumL ([(Cam.sq qx qy),(Cam.mulL ([((2:Int):Rat),qy,qy]))]))])]) [0] kr rfl kr kr kr (fun _=> ?_) ?_
 ·
  rintro ⟨g36_0r2,g36_1r2⟩
  refine zW (m':=[(63,.agg (cw [g36_0r2,g36_1r2]).toArray),(55,.agg (cw [wp1,wp2]).toArray)]) (R':=[qF true g36_0r2 g36_1r2 (Cam.sumL ([(Cam.sq qx qy),(Cam.mulL ([((2:Int):Rat),qy,qy]))])),qF true wp1 wp2 (Cam.tP1 e)]) ((.c rfl (.c rfl .n)):SubM _ _) (List.Perm.refl _) (List.Perm.refl _) ((.of [0,10] rfl):SelR _ _ _)<|e_one 0 (zIa rfl rfl rfl rfl (zA (r:=rQ) (k:=2) yb inf32 rfl dd dd dd (.c (x:=(Cam.tP1 e)) (cs:=[wp1.b,wp1.l,wp2.b,wp2.l]) (wp1,wp2) rfl rfl rfl (fun g hr=>Holds.get 1 rfl hr) (.c (x:=(Cam.sumL ([(Cam.sq qx qy),(Cam.mulL ([((2:Int):Rat),qy,qy]))]))) (cs:=[g36_0r2.b,g36_0r2.l,g36_1r2.b,g36_1r2.l]) (g36_0r2,g36_1r2) rfl rfl rfl (fun g hr=>Holds.get 0 rfl hr) .n))) (fun u37_1r2 _=> ?_))
  refine zla 0 rfl .z<|zH kr ?_
  exact zT u37_1r2 trivial ((.c rfl .n):SubM _ _) (ho:=oN) (s0 rfl)
 refine a_step 38 rfl (X:=Wd×Wd) (fun x=> .agg #[x.1.b,x.1.l,x.2.b,x.2.l]) (fun x=>[]) (fun x=>[qF true x.1 x.2 (Cam.mulL ([(Cam.tP1 e),(Cam.sumL ([(Cam.sq qx qy),(Cam.mulL ([((2:Int):Rat),qy,qy]))]))]))]) [0] kr rfl kr kr kr (fun _=> ?_) ?_
 ·
  rintro g37_0r2
  refine zW (m':=[(64,.slice (some ⟨g37_0r2,0,none⟩) 2 2)]) (R':=[slF rQ (some ⟨g37_0r2,0,none⟩) 2 ([(Cam.tP1 e),(Cam.sumL ([(Cam.sq qx qy),(Cam.mulL ([((2:Int):Rat),qy,qy]))]))])]) ((.c rfl .n):SubM _ _) (List.Perm.refl _) (List.Perm.refl _) (s0 rfl)<|e_one 0 (zp rfl rfl rfl rfl (.c rfl .n) ce56 (zAa (p:=some ⟨g37_0r2,0,none⟩) (n:=2) (cap:=2) (l:=[(Cam.tP1 e),(Cam.sumL ([(Cam.sq qx qy),(Cam.mulL ([((2:Int):Rat),qy,qy]))]))]) (hn:=by exact rfl) (hn9:=dd) (hl:=by exact hl65) (hn1:=dd)) (.c (j:=0) rfl .n) ?_)
  rintro ⟨u38_1r2,u38_2r2⟩ -
  dsimp only [aq,nq,cq]
  refine zH kr ?_
  exact zT (u38_1r2,u38_2r2) trivial ((.c rfl .n):SubM _ _) (ho:=oN) (s0 rfl)
 refine a_step 42 rfl (X:=Nat) (fun x=> .slice (some ⟨x,0,none⟩) 2 2) (fun x=>[]) (fun x=>[slF rQ (some ⟨x,0,none⟩) 2 ([(Cam.tP2 e),(Cam.mulL ([((2:Int):Rat),qx,qy]))])]) [] kr rfl kr kr kr (fun _=> ?_) ?_
 ·
  refine zW (m':=[(68,.agg (cw [w39,w410]).toArray),(67,.agg (cw [wq1,wq2]).toArray)]) (R':=[qF true w39 w410 (Cam.mulL ([((2:Int):Rat),qx,qy])),qF true wq1 wq2 (Cam.tP2 e)]) ((.c rfl (.c rfl .n)):SubM _ _) (List.Perm.refl _) (List.Perm.refl _) ((.of [0,10] rfl):SelR _ _ _)<|e_one 0 (zIa rfl rfl rfl rfl (zA (r:=rQ) (k:=2) yb inf32 rfl dd dd dd (.c (x:=(Cam.tP2 e)) (cs:=[wq1.b,wq1.l,wq2.b,wq2.l]) (wq1,wq2) rfl rfl rfl (fun g hr=>Holds.get 1 rfl hr) (.c (x:=(Cam.mulL ([((2:Int):Rat),qx,qy]))) (cs:=[w39.b,w39.l,w410.b,w410.l]) (w39,w410) rfl rfl rfl (fun g hr=>Holds.get 0 rfl hr) .n))) (fun u42_1r2 _=> ?_))
  refine zla 0 rfl .z<|zH kr ?_
  exact zT u42_1r2 trivial ((.c rfl .n):SubM _ _) (ho:=oN) (s0 rfl)
 refine a_step 43 rfl (X:=Wd×Wd) (fun x=> .agg #[x.1.b,x.1.l,x.2.b,x.2.l]) (fun x=>[]) (fun x=>[qF true x.1 x.2 (Cam.mulL ([(Cam.tP2 e),(Cam.mulL ([((2:Int):Rat),qx,qy]))]))]) [0] kr rfl kr kr kr (fun _=> ?_) ?_
 ·
  rintro g42_0r2
  refine zW (m':=[(69,.slice (some ⟨g42_0r2,0,none⟩) 2 2)]) (R':=[slF rQ (some ⟨g42_0r2,0,none⟩) 2 ([(Cam.tP2 e),(Cam.mulL ([((2:Int):Rat),qx,qy]))])]) ((.c rfl .n):SubM _ _) (List.Perm.refl _) (List.Perm.refl _) (s0 rfl)<|e_one 0 (zp rfl rfl rfl rfl (.c rfl .n) ce56 (zAa (p:=some ⟨g42_0r2,0,none⟩) (n:=2) (cap:=2) (l:=[(Cam.tP2 e),(Cam.mulL ([((2:Int):Rat),qx,qy]))]) (hn:=by exact rfl) (hn9:=dd) (hl:=by exact hl70) (hn1:=dd)) (.c (j:=0) rfl .n) ?_)
  rintro ⟨u43_1r2,u43_2r2⟩ -
  dsimp only [aq,nq,cq]
  refine zH kr ?_
  exact zT (u43_1r2,u43_2r2) trivial ((.c rfl .n):SubM _ _) (ho:=oN) (s0 rfl)
 refine a_step 44 rfl (X:=Nat) (fun x=> .slice (some ⟨x,0,none⟩) 3 3) (fun x=>[]) (fun x=>[slF rQ (some ⟨x,0,none⟩) 3 ([(Cam.mulL ([qy,(Po.ev (Cam.sq qx qy) (Cam.rl e))])),(Cam.mulL ([(Cam.tP1 e),(Cam.sumL ([(Cam.sq qx qy),(Cam.mulL ([((2:Int):Rat),qy,qy]))]))])),(Cam.mulL ([(Cam.tP2 e),(Cam.mulL ([((2:Int):Rat),qx,qy]))]))])]) [0,2,8] kr rfl kr kr kr (fun _=> ?_) ?_
 ·
  rintro ⟨g43_0r2,g43_1r2⟩
  rintro ⟨g38_0r2,g38_1r2⟩
  rintro ⟨g26_0r2,g26_1r2⟩
  refine zW (m':=[(70,.agg (cw [g43_0r2,g43_1r2]).toArray),(65,.agg (cw [g38_0r2,g38_1r2]).toArray),(53,.agg (cw [g26_0r2,g26_1r2]).toArray)]) (R':=[qF true g43_0r2 g43_1r2 (Cam.mulL ([(Cam.tP2 e),(Cam.mulL ([((2:Int):Rat),qx,qy]))])),qF true g38_0r2 g38_1r2 (Cam.mulL ([(Cam.tP1 e),(Cam.sumL ([(Cam.sq qx qy),(Cam.mulL ([((2:Int):Rat),qy,qy]))]))])),qF true g26_0r2 g26_1r2 (Cam.mulL ([qy,(Po.ev (Cam.sq qx qy) (Cam.rl e))]))]) (mR rfl) (List.Perm.refl _) (List.Perm.refl _) ((.of [0,1,2] rfl):SelR _ _ _)<|e_one 0 (zIa rfl rfl rfl rfl (zA (r:=rQ) (k:=3) yb inf32 rfl dd dd dd (.c (x:=(Cam.mulL ([qy,(Po.ev (Cam.sq qx qy) (Cam.rl e))]))) (cs:=[g26_0r2.b,g26_0r2.l,g26_1r2.b,g26_1r2.l]) (g26_0r2,g26_1r2) rfl rfl rfl (fun g hr=>Holds.get 2 rfl hr) (.c (x:=(Cam.mulL ([(Cam.tP1 e),(Cam.sumL ([(Cam.sq qx qy),(Cam.mulL ([((2:Int):Rat),qy,qy]))]))]))) (cs:=[g38_0r2.b,g38_0r2.l,g38_1r2.b,g38_1r2.l]) (g38_0r2,g38_1r2) rfl rfl rfl (fun g hr=>Holds.get 1 rfl hr) (.c (x:=(Cam.mulL ([(Cam.tP2 e),(Cam.mulL ([((2:Int):Rat),qx,qy]))]))) (cs:=[g43_0r2.b,g43_0r2.l,g43_1r2.b,g43_1r2.l]) (g43_0r2,g43_1r2) rfl rfl rfl (fun g hr=>Holds.get 0 rfl hr) .n)))) (fun u44_1r2 _=> ?_))
  refine zla 0 rfl .z<|zH kr ?_
  exact zT u44_1r2 trivial ((.c rfl .n):SubM _ _) (ho:=oN) (s0 rfl)
 refine a_step 45 rfl (X:=Wd×Wd) (fun x=> .agg #[x.1.b,x.1.l,x.2.b,x.2.l]) (fun x=>[]) (fun x=>[qF true x.1 x.2 (Cam.sumL ([(Cam.mulL ([qy,(Po.ev (Cam.sq qx qy) (Cam.rl e))])),(Cam.mulL ([(Cam.tP1 e),(Cam.sumL ([(Cam.sq qx qy),(Cam.mulL ([((2:Int):Rat),qy,qy]))]))])),(Cam.mulL ([(Cam.tP2 e),(Cam.mulL ([((2:Int):Rat),qx,qy]))]))]))]) [0] kr rfl kr kr kr (fun _=> ?_) ?_
 ·
  rintro g44_0r2
  refine zW (m':=[(71,.slice (some ⟨g44_0r2,0,none⟩) 3 3)]) (R':=[slF rQ (some ⟨g44_0r2,0,none⟩) 3 ([(Cam.mulL ([qy,(Po.ev (Cam.sq qx qy) (Cam.rl e))])),(Cam.mulL ([(Cam.tP1 e),(Cam.sumL ([(Cam.sq qx qy),(Cam.mulL ([((2:Int):Rat),qy,qy]))]))])),(Cam.mulL ([(Cam.tP2 e),(Cam.mulL ([((2:Int):Rat),qx,qy]))]))])]) ((.c rfl .n):SubM _ _) (List.Perm.refl _) (List.Perm.refl _) (s0 rfl)<|e_one 0 (zp rfl rfl rfl rfl (.c rfl .n) ce59 (zAb (p:=some ⟨g44_0r2,0,none⟩) (n:=3) (cap:=3) (l:=[(Cam.mulL ([qy,(Po.ev (Cam.sq qx qy) (Cam.rl e))])),(Cam.mulL ([(Cam.tP1 e),(Cam.sumL ([(Cam.sq qx qy),(Cam.mulL ([((2:Int):Rat),qy,qy]))]))])),(Cam.mulL ([(Cam.tP2 e),(Cam.mulL ([((2:Int):Rat),qx,qy]))]))]) (hn:=by exact rfl) (hn9:=dd) (hl:=by exact hl72)) (.c (j:=0) rfl .n) ?_)
  rintro ⟨u45_1r2,u45_2r2⟩ -
  dsimp only [aq,nq,cq]
  refine zH kr ?_
  exact zT (u45_1r2,u45_2r2) trivial ((.c rfl .n):SubM _ _) (ho:=oN) (s0 rfl)
 refine a_step 46 rfl (X:=Wd×Wd×Wd×Wd) (fun x=> .agg #[x.2.2.1.b,x.2.2.1.l,x.2.2.2.b,x.2.2.2.l,x.1.b,x.1.l,x.2.1.b,x.2.1.l]) (fun x=>[]) (fun x=>[qF true x.1 x.2.1 (Cam.sumL ([(Cam.mulL ([qy,(Po.ev (Cam.sq qx qy) (Cam.rl e))])),(Cam.mulL ([(Cam.tP1 e),(Cam.sumL ([(Cam.sq qx qy),(Cam.mulL ([((2:Int):Rat),qy,qy]))]))])),(Cam.mulL ([(Cam.tP2 e),(Cam.mulL ([((2:Int):Rat),qx,qy]))]))])),qF true x.2.2.1 x.2.2.2 (Cam.sumL ([(Cam.mulL ([qx,(Po.ev (Cam.sq qx qy) (Cam.rl e))])),(Cam.mulL ([(Cam.tP1 e),(Cam.mulL ([((2:Int):Rat),qx,qy]))])),(Cam.mulL ([(Cam.tP2 e),(Cam.sumL ([(Cam.sq qx qy),(Cam.mulL ([((2:Int):Rat),qx,qx]))]))]))]))]) [0,12] kr rfl kr kr kr (fun _=> ?_) ?_
 ·
  rintro ⟨g45_0r2,g45_1r2⟩
  rintro ⟨g22_0r2,g22_1r2⟩
  refine zW (m':=[(72,.agg (cw [g45_0r2,g45_1r2]).toArray),(49,.agg (cw [g22_0r2,g22_1r2]).toArray)]) (R':=[qF true g45_0r2 g45_1r2 (Cam.sumL ([(Cam.mulL ([qy,(Po.ev (Cam.sq qx qy) (Cam.rl e))])),(Cam.mulL ([(Cam.tP1 e),(Cam.sumL ([(Cam.sq qx qy),(Cam.mulL ([((2:Int):Rat),qy,qy]))]))])),(Cam.mulL ([(Cam.tP2 e),(Cam.mulL ([((2:Int):Rat),qx,qy]))]))])),qF true g22_0r2 g22_1r2 (Cam.sumL ([(Cam.mulL ([qx,(Po.ev (Cam.sq qx qy) (Cam.rl e))])),(Cam.mulL ([(Cam.tP1 e),(Cam.mulL ([((2:Int):Rat),qx,qy]))])),(Cam.mulL ([(Cam.tP2 e),(Cam.sumL ([(Cam.sq qx qy),(Cam.mulL ([((2:Int):Rat),qx,qx]))]))]))]))]) ((.c rfl (.c rfl .n)):SubM _ _) (List.Perm.refl _) (List.Perm.refl _) ((.of [0,1] rfl):SelR _ _ _)<|e_pv 0 rfl rfl (zN zr34 rfl yf (.c sz32 (.c sz32 .n)) (.c rfl (.c rfl .n)) (.c rfl rfl rfl (.t4 .nil) (.c rfl rfl rfl (.s4 (.t4 .nil)) .n)))<|zH kr ?_
  exact zT (g45_0r2,g45_1r2,g22_0r2,g22_1r2) trivial ((.c rfl .n):SubM _ _) (ho:=oN) ((.of [0,1] rfl):SelR _ _ _)
 refine a_fin (k':=1) (L':=(lb 48 140737488355327)) kr kr kr kr kr kr kr ?_
 rintro ⟨g46_0r2,g46_1r2,g46_2r2,g46_3r2⟩ _ _ _ _ _ _ _ _ _ _ _ _ _ _ _ _ _ _ _ _ _ _ _ _
 refine zW (m':=[(73,.agg (cw [g46_2r2,g46_3r2,g46_0r2,g46_1r2]).toArray),(68,.agg (cw [w39,w410]).toArray),(67,.agg (cw [wq1,wq2]).toArray),(59,.agg (cw [v1,v2]).toArray),(58,.agg (cw [v1,v2]).toArray),(57,.agg (cw [g6_0,g6_1]).toArray),(56,.agg (cw [g5_0,g5_1]).toArray),(55,.agg (cw [wp1,wp2]).toArray),(51,.agg (cw [w34,w45]).toArray),(50,.agg (cw [v1,v2]).toArray),(41,.agg (cw [u1,u2]).toArray),(40,.agg (cw [u1,u2]).toArray),(39,.agg (cw [g6_0,g6_1]).toArray),(38,.agg (cw [g5_0,g5_1]).toArray),(37,.agg (cw [wq1,wq2]).toArray),(33,.agg (cw [w39,w410]).toArray),(32,.agg (cw [wp1,wp2]).toArray),(28,.agg (cw [w34,w45]).toArray),(27,.agg (cw [u1,u2]).toArray),(4,.pointer (some ⟨b3,0,none⟩))]) (OW':=[boxA b3 34 (cw [wz,wz,wz,wz])]) (R':=[qF true g46_0r2 g46_1r2 (Cam.sumL ([(Cam.mulL ([qy,(Po.ev (Cam.sq qx qy) (Cam.rl e))])),(Cam.mulL ([(Cam.tP1 e),(Cam.sumL ([(Cam.sq qx qy),(Cam.mulL ([((2:Int):Rat),qy,qy]))]))])),(Cam.mulL ([(Cam.tP2 e),(Cam.mulL ([((2:Int):Rat),qx,qy]))]))])),qF true g46_2r2 g46_3r2 (Cam.sumL ([(Cam.mulL ([qx,(Po.ev (Cam.sq qx qy) (Cam.rl e))])),(Cam.mulL ([(Cam.tP1 e),(Cam.mulL ([((2:Int):Rat),qx,qy]))])),(Cam.mulL ([(Cam.tP2 e),(Cam.sumL ([(Cam.sq qx qy),(Cam.mulL ([((2:Int):Rat),qx,qx]))]))]))])),qF true w39 w410 (Cam.mulL ([((2:Int):Rat),qx,qy])),qF true w34 w45 (Po.ev (Cam.sq qx qy) (Cam.rl e)),slF rE pm cm ((Cam.rl e).map some),eF g5_0 g5_1 (some (Cam.sq qx qy)),qF true g6_0 g6_1 ((2:Int):Rat),qF true g5_0 g5_1 (Cam.sq qx qy),qF true wa1 wa2 (Rat.divInt e.r0 0x100000),qF true wb1 wb2 (Rat.divInt e.r1 0x100000),qF true wc1 wc2 (Rat.divInt e.r2 0x100000),qF true wp1 wp2 (Cam.tP1 e),qF true wq1 wq2 (Cam.tP2 e),qF true wt1 wt2 (Cam.lim e),slF rQ pm cm (Cam.rl e),qF true u1 u2 qx,qF true v1 v2 qy]) (mR rfl) (List.Perm.refl _) (List.Perm.refl _) ((.of [0,1,26,27,28,29,30,31,32,33,34,35,36,37,38,39,40] rfl):SelR _ _ _)<|e_one 47 (zv kr rfl rfl rfl rfl rfl sz34 rfl (.t8 .nil) ?_)
 refine zH kr<|zd<|zC ?_
 exact zu Tryz.results35 (g46_2r2,g46_3r2,g46_0r2,g46_1r2) trivial (zo 0 ty34 rfl rfl (.t8 .nil)) rfl (ho:=oN) ((.e (j:=1) rfl (by rw [Cam.dX_sum]) (.e (j:=0) rfl (by rw [Cam.dY_sum]) .n)):SelR _ _ _)
end Go.Proofs.YtahiajepeodhoaaGreat.Sp
namespace Go.Proofs.YtahiajepeodhoaaGreat.Sp
open Go
set_option linter.unusedVariables false
set_option maxRecDepth 100000
set_option maxHeartbeats 8000000
theorem zBb {e:Cam.Ln} {u1:Wd} {u2:Wd} {v1:Wd} {v2:Wd} {xo:Option Rat} {yo:Option Rat} (hin:Cam.In e) (hx:yg (xo.getD 0)≤100) (hy:yg (yo.getD 0)≤100):Con ye 8 [.agg #[.int .i64 (e.f),.int .i64 (e.cx),.int .i64 (e.cy),.int .i64 (e.r0),.int .i64 (e.r1),.int .i64 (e.r2),.int .i64 (e.p1),.int .i64 (e.p2),.int .i64 (e.fd)],.agg #[u1.b,u1.l,u2.b,u2.l,v1.b,v1.l,v2.b,v2.l]] [] [eF u1 u2 xo,eF v1 v2 yo] (Y:=Wd×Wd×Wd×Wd) (fun y=>(¬(Cam.pc e [(xo,yo)]=0∧Cam.ins e (xo.getD 0) (yo.getD 0))→y.1=wz∧y.2.1=wz∧y.2.2.1=wz∧y.2.2.2=wz)) (fun y=> .tuple #[.agg #[y.1.b,y.1.l,y.2.1.b,y.2.1.l,y.2.2.1.b,y.2.2.1.l,y.2.2.2.b,y.2.2.2.l],.int .i64 (if (Cam.pc e [(xo,yo)]=0) then (if Cam.ins e (xo.getD 0) (yo.getD 0) then 0 else 15) else Cam.pc e [(xo,yo)])]) (fun y=>[]) (fun y=>[qF (decide (Cam.pc e [(xo,yo)]=0∧Cam.ins e (xo.getD 0) (yo.getD 0))) y.1 y.2.1 (if (Cam.pc e [(xo,yo)]=0∧Cam.ins e (xo.getD 0) (yo.getD 0)) then (Cam.dX e (xo.getD 0) (yo.getD 0)) else 0),qF (decide (Cam.pc e [(xo,yo)]=0∧Cam.ins e (xo.getD 0) (yo.getD 0))) y.2.2.1 y.2.2.2 (if (Cam.pc e [(xo,yo)]=0∧Cam.ins e (xo.getD 0) (yo.getD 0)) then (Cam.dY e (xo.getD 0) (yo.getD 0)) else 0)]):=by
 refine zl Tryz.func8 rfl rfl rfl (fun c=> ?_)
 show RunC _ _ _ _ _ [(0,.agg #[.int .i64 (e.f),.int .i64 (e.cx),.int .i64 (e.cy),.int .i64 (e.r0),.int .i64 (e.r1),.int .i64 (e.r2),.int .i64 (e.p1),.int .i64 (e.p2),.int .i64 (e.fd)]),(1,.agg #[u1.b,u1.l,u2.b,u2.l,v1.b,v1.l,v2.b,v2.l])] [] [eF u1 u2 xo,eF v1 v2 yo]
 obtain ⟨hf1,hcx1,hcy1,hr01,hr11,hr21,hp11,hp21,hfd1⟩:=id hin
 refine ze<|za<|zI rfl rfl (zR rfl rfl) (fun b1=> ?_)
 refine zI rfl rfl (zR rfl rfl) (fun b2=> ?_)
 refine zI rfl rfl (zr zr34 rfl) (fun b3=> ?_)
 refine e_p (zb rfl)<|zf<|zd<|ze<|ze<|za<|e_ru (zc 2 ty27 rfl rfl (.t8 (.take .nil)))<|e_ru (zc 1 ty34 rfl rfl (.t8 .nil))<|zva rfl rfl (zA (r:=rEE) (k:=1) Tryz.underlying56 inf34 rfl dd dd dd (.c (x:=(xo,yo)) (cs:=[u1.b,u1.l,u2.b,u2.l,v1.b,v1.l,v2.b,v2.l]) (u1,u2,v1,v2) rfl rfl rfl (fun g hr=>⟨Holds.get 0 rfl hr,Holds.get 1 rfl hr⟩) .n)) (fun b4 _=> ?_)
 refine zba 0 rfl .z<|zJ rfl rfl (.c rfl (.c rfl .n)) ce32 (zve (e:=e) (p:=some ⟨b4,0,none⟩) (n:=1) (cap:=1) (l:=[(xo,yo)]) (hin:=ass) (hn:=by first|rfl|assumption|omega|(simp;done)|decide) (hn9:=by first|rfl|assumption|omega|(simp;done)|decide)) (.c (j:=0) rfl .n)<|e_p (zb rfl)<|zf<|zd<|ze<|za<|e_mv rfl<|e_p (zib rfl rfl)<|zf<|zd<|zG rfl (fun h13=> ?_) (fun h13=> ?_)
 ·
  refine ze<|za<|e_p (zN zr34 rfl yf (.c sz32 (.c sz32 .n)) .n .n)<|e_mv rfl<|zj 1 rfl rfl rfl rfl rfl sz34 rfl (.t8 .nil) (.s .z)<|e_p (zb rfl)<|zf<|zd<|zC<|zk<|znb (qF false wz wz 0) (fun g _=>qF_none g) ?_
  exact zFa Tryz.results8 (wz,wz,wz,wz) (fun _=>⟨rfl,rfl,rfl,rfl⟩) (zo 1 ty34 rfl rfl (.t8 .nil)) (zn rfl) (by rw [if_neg h13];rfl) (ho:=oN) ((.e (j:=0) rfl (by rw [if_neg (fun k=>h13 k.1),decide_eq_false (fun k=>h13 k.1)]) (.e (j:=0) rfl (by rw [if_neg (fun k=>h13 k.1),decide_eq_false (fun k=>h13 k.1)]) .n)):SelR _ _ _)
 ·
  have hz:Cam.pc e [(xo,yo)]=0:=Decidable.not_not.1 h13
  obtain ⟨hok,hx1,hy1⟩:=Cam.pc_0 hz
  have hx1:xo.isSome=true:=hx1
  have hy1:yo.isSome=true:=hy1
  refine zTb (qF xo.isSome u1 u2 (xo.getD 0)) (eF_weak 1 rfl)<|zTb (qF yo.isSome v1 v2 (yo.getD 0)) (eF_weak 3 rfl) ?_
  have e5:xo.isSome=true:=by exact hx1
  rw [e5]
  have e6:yo.isSome=true:=by exact hy1
  rw [e6]
  obtain ⟨⟨hof,hofd,hocx,hocy⟩,ho2,ho3⟩:=id hok
  refine zB<|zd<|ze<|za<|e_ru (zc 3 ty27 rfl rfl (.t8 (.take .nil)))<|zm rfl rfl (.c rfl .n) ce33 (zRc (e:=e) (hin:=ass) (hok:=by first|rfl|assumption|omega|(simp;done)|decide)) (.n) ?_
  rintro ⟨wa17,wa28,wb19,wb210,wc111,wc212,wp113,wp214,wq115,wq216,wt117,wt218,pm19,cm20⟩ -
  dsimp only [aq,nq,cq]
  refine zI rfl rfl (zr zr62 rfl) (fun b21=> ?_)
  refine zj 0 rfl rfl rfl rfl rfl sz62 rfl (.t8 (.t8 (.t8 (.take .nil)))) .z<|zf<|zd<|ze<|ze<|za<|e_ru (zc 0 ty62 rfl rfl (.t8 (.t8 (.t8 (.take .nil)))))<|e_ru (zc 3 ty34 rfl rfl (.t8 .nil))<|zJ rfl rfl (.c rfl (.c rfl .n)) ce34 (zxe (e:=e) (wa1:=wa17) (wa2:=wa28) (wb1:=wb19) (wb2:=wb210) (wc1:=wc111) (wc2:=wc212) (wp1:=wp113) (wp2:=wp214) (wq1:=wq115) (wq2:=wq216) (wt1:=wt117) (wt2:=wt218) (pm:=pm19) (cm:=cm20) (u1:=u1) (u2:=u2) (v1:=v1) (v2:=v2) (qx:=(xo.getD 0)) (qy:=(yo.getD 0)) (hin:=ass) (hok:=by first|rfl|assumption|omega|(simp;done)|decide) (hx:=ass) (hy:=ass)) (.c (j:=0) rfl (.c (j:=1) rfl (.c (j:=2) rfl (.c (j:=3) rfl (.c (j:=4) rfl (.c (j:=5) rfl (.c (j:=6) rfl (.c (j:=8) rfl (.c (j:=7) rfl .n)))))))))<|e_p (zGa rfl)<|zf<|zd<|zG rfl (fun h21=> ?_) (fun h21=> ?_)
  ·
   refine ze<|za<|e_p (zN zr34 rfl yf (.c sz32 (.c sz32 .n)) .n .n)<|zj 2 rfl rfl rfl rfl rfl sz34 rfl (.t8 .nil) (.s (.s .z))<|e_p (zb rfl)<|zf<|zd<|zC<|zk<|znb (qF false wz wz 0) (fun g _=>qF_none g) ?_
   exact zFa Tryz.results8 (wz,wz,wz,wz) (fun _=>⟨rfl,rfl,rfl,rfl⟩) (zo 2 ty34 rfl rfl (.t8 .nil)) (zn rfl) (by rw [if_pos hz,if_neg h21];rfl) (ho:=oN) ((.e (j:=0) rfl (by rw [if_neg (fun k=>h21 k.2),decide_eq_false (fun k=>h21 k.2)]) (.e (j:=0) rfl (by rw [if_neg (fun k=>h21 k.2),decide_eq_false (fun k=>h21 k.2)]) .n)):SelR _ _ _)
  ·
   have hii:Cam.ins e (xo.getD 0) (yo.getD 0):=Decidable.not_not.1 h21
   refine zB<|zd<|ze<|za<|e_ru (zc 0 ty62 rfl rfl (.t8 (.t8 (.t8 (.take .nil)))))<|e_ru (zc 3 ty34 rfl rfl (.t8 .nil))<|zm rfl rfl (.c rfl (.c rfl .n)) ce35 (zfe (e:=e) (wa1:=wa17) (wa2:=wa28) (wb1:=wb19) (wb2:=wb210) (wc1:=wc111) (wc2:=wc212) (wp1:=wp113) (wp2:=wp214) (wq1:=wq115) (wq2:=wq216) (wt1:=wt117) (wt2:=wt218) (pm:=pm19) (cm:=cm20) (u1:=u1) (u2:=u2) (v1:=v1) (v2:=v2) (qx:=(xo.getD 0)) (qy:=(yo.getD 0)) (hin:=ass) (hok:=by first|rfl|assumption|omega|(simp;done)|decide) (hx:=ass) (hy:=ass)) (.c (j:=0) rfl (.c (j:=1) rfl (.c (j:=2) rfl (.c (j:=3) rfl (.c (j:=4) rfl (.c (j:=5) rfl (.c (j:=6) rfl (.c (j:=8) rfl (.c (j:=7) rfl .n))))))))) ?_
   rintro ⟨w322,w423,w524,w625⟩ -
   dsimp only [aq,nq,cq]
   refine zj 2 rfl rfl rfl rfl rfl sz34 rfl (.t8 .nil) (.s (.s .z))<|e_p (zb rfl)<|zf<|zd<|zC ?_
   exact zFa Tryz.results8 (w322,w423,w524,w625) (fun k=>absurd ⟨hz,hii⟩ k) (zo 2 ty34 rfl rfl (.t8 .nil)) (zn rfl) (by rw [if_pos hz,if_pos hii]) (ho:=oN) ((.e (j:=0) rfl (by rw [if_pos ⟨hz,hii⟩,decide_eq_true ⟨hz,hii⟩]) (.e (j:=1) rfl (by rw [if_pos ⟨hz,hii⟩,decide_eq_true ⟨hz,hii⟩]) .n)):SelR _ _ _)
end Go.Proofs.YtahiajepeodhoaaGreat.Sp
namespace Go.Proofs.YtahiajepeodhoaaGreat.Sp
open Go
set_option linter.unusedVariables false
section
variable {P : Program} {Q : Exit → Act → World → Prop} {c : Cx} {n : Sz} {ops : Array Oper} {m : Fm} {OW O : List As} {R R' : List Fa} {k wi i : Nat} {L : Array Bool}
theorem zCb (h:∀g,Holds g R→Holds g R') (kont:RunO P ops Q c n wi k L i m OW O R'):RunO P ops Q c n wi k L i m OW O R:=fun hQ hs hcl hx a w hw hr g f s1 s2 ap mm=>
  kont hQ hs hcl hx a w hw hr g f s1 s2 ap ⟨mm.sep,h g mm.holds,mm.apart,mm.hasH,mm.hasG,mm.le,mm.newG,mm.newH,mm.kept⟩
end
end Go.Proofs.YtahiajepeodhoaaGreat.Sp
namespace Go.Proofs.YtahiajepeodhoaaGreat.Sp
open Go
set_option linter.unusedVariables false
set_option maxRecDepth 100000
set_option maxHeartbeats 8000000
theorem zPf:Con ye 6 [] [] [] (Y:=Unit) (fun y=>True) (fun y=> .bool true) (fun y=>[]) (fun y=>[]):=by
 refine zl Tryz.func6 rfl rfl rfl (fun c=> ?_)
 show RunC _ _ _ _ _ [] [] []
 refine ze<|za<|e_p (zb rfl)<|zf<|zd<|ze<|za<|e_p (zdc zr24 rfl Tryz.underlying24 sz3 (.c rfl .n) (.c rfl rfl rfl (.take .nil) .n))<|e_p (zN zr27 rfl Tryz.underlying27 (.c sz3 (.c sz23 (.c sz24 (.c sz25 (.c sz3 .n))))) (.c rfl (.c rfl (.c rfl .n))) (.c rfl rfl rfl (.take .nil) (.c rfl rfl rfl (.s2 (.skip (.t2 (.take .nil)))) (.c rfl rfl rfl (.s8 (.take .nil)) .n))))<|zI rfl rfl (zr zr27 rfl) (fun b1=> ?_)
 refine zj 0 rfl rfl rfl rfl rfl sz27 rfl (.t8 (.take .nil)) .z<|zf<|zd<|ze<|za<|e_ru (zc 0 ty27 rfl rfl (.t8 (.take .nil)))<|zm rfl rfl (.c rfl .n) ce14 (znd (e:=Cam.e0) (hin:=by exact Cam.e0_in)) (.n) ?_
 rintro ⟨w32,w43⟩ -
 dsimp only [aq,nq,cq]
 have e4:(decide (Cam.mdc Cam.e0=0):Bool)=true:=by exact decide_eq_true Cam.e0_mdc
 rw [e4]
 have e5:((if Cam.mdc Cam.e0=0 then Rat.divInt ((Cam.md Cam.e0:Nat):Int) 256 else 0):Rat)=(Rat.divInt 159 256):=by rw [Cam.e0_md];exact if_pos Cam.e0_mdc
 rw [e5]
 have e6:(Cam.mdc Cam.e0:Int)=0:=by exact Cam.e0_mdc
 rw [e6]
 refine e_mv rfl<|e_p (zq rfl rfl)<|e_p (zq rfl rfl)<|zI rfl rfl (zr zr32 rfl) (fun b7=> ?_)
 refine zj 0 rfl rfl rfl rfl rfl sz32 rfl (.t4 .nil) .z<|e_p (zb rfl)<|zf<|zd<|ze<|za<|zm rfl rfl (.c rfl (.c rfl .n)) ce15 (zGb (z1:=1) (z2:=2) (hz1:=by first|rfl|assumption|decide|omega|(decide +kernel)) (hz2:=by first|rfl|assumption|decide|omega|(decide +kernel)) (hy:=by first|rfl|assumption|decide|omega|(decide +kernel))) (.n) ?_
 rintro ⟨w38,w49⟩ -
 dsimp only [aq,nq,cq]
 refine e_mv rfl<|e_p (zq rfl rfl)<|e_p (zq rfl rfl)<|zI rfl rfl (zr zr32 rfl) (fun b10=> ?_)
 refine zj 0 rfl rfl rfl rfl rfl sz32 rfl (.t4 .nil) .z<|e_p (zb rfl)<|zf<|zd<|ze<|zV (OW:=[]) (O:=[boxA b10 32 (cw [w38,w49]),boxA b7 32 (cw [w32,w43]),boxA b1 27 [.int .i64 64,.int .i64 0,.int .i64 0,.int .i64 (-131072),.int .i64 0,.int .i64 0,.int .i64 0,.int .i64 0,.int .i64 64]]) 9 mixed (.then .ret) kr<|e_u 0 rfl rfl (zc 2 ty27 rfl rfl (.t8 (.take .nil)))<|e_u 1 rfl rfl (zc 0 ty32 rfl rfl (.t4 .nil))<|zW (m':=[(25,.agg (cw [w38,w49]).toArray),(24,.agg #[.int .i64 64,.int .i64 0,.int .i64 0,.int .i64 (-131072),.int .i64 0,.int .i64 0,.int .i64 0,.int .i64 0,.int .i64 64]),(3,.int .i64 0),(2,.pointer (some ⟨b7,0,none⟩)),(0,.bool false)]) (R':=[qF true w38 w49 (Rat.divInt 1 2),qF true w32 w43 (Rat.divInt 159 256)]) (mR rfl) (List.Perm.refl _) (List.Perm.refl _) ((.of [0,1] rfl):SelR _ _ _)<|zQa (X:=Wd×Wd×Wd×Wd×Wd×Wd×Nat) (k':=0) (L':=(lb 11 2047)) (fun (u2_1,u2_2,u4_1,u4_2,u4_3,u4_4,u8_1)=>([(7,.int .i64 (if (Cam.pc Cam.e0 [((some (Rat.divInt 1 2)),(some ((0:Int):Rat)))]=0) then (if Cam.ins Cam.e0 ((some (Rat.divInt 1 2)).getD 0) ((some ((0:Int):Rat)).getD 0) then 0 else 15) else Cam.pc Cam.e0 [((some (Rat.divInt 1 2)),(some ((0:Int):Rat)))])),(6,.pointer (some ⟨u8_1,0,none⟩)),(3,.int .i64 0),(2,.pointer (some ⟨b7,0,none⟩)),(0,.bool false)],[boxA u8_1 34 (cw [u4_1,u4_2,u4_3,u4_4])],[boxA b10 32 (cw [w38,w49]),boxA b7 32 (cw [w32,w43]),boxA b1 27 [.int .i64 64,.int .i64 0,.int .i64 0,.int .i64 (-131072),.int .i64 0,.int .i64 0,.int .i64 0,.int .i64 0,.int .i64 64]],[qF (decide (Cam.pc Cam.e0 [((some (Rat.divInt 1 2)),(some ((0:Int):Rat)))]=0∧Cam.ins Cam.e0 ((some (Rat.divInt 1 2)).getD 0) ((some ((0:Int):Rat)).getD 0))) u4_1 u4_2 (if (Cam.pc Cam.e0 [((some (Rat.divInt 1 2)),(some ((0:Int):Rat)))]=0∧Cam.ins Cam.e0 ((some (Rat.divInt 1 2)).getD 0) ((some ((0:Int):Rat)).getD 0)) then (Cam.dX Cam.e0 ((some (Rat.divInt 1 2)).getD 0) ((some ((0:Int):Rat)).getD 0)) else 0),qF (decide (Cam.pc Cam.e0 [((some (Rat.divInt 1 2)),(some ((0:Int):Rat)))]=0∧Cam.ins Cam.e0 ((some (Rat.divInt 1 2)).getD 0) ((some ((0:Int):Rat)).getD 0))) u4_3 u4_4 (if (Cam.pc Cam.e0 [((some (Rat.divInt 1 2)),(some ((0:Int):Rat)))]=0∧Cam.ins Cam.e0 ((some (Rat.divInt 1 2)).getD 0) ((some ((0:Int):Rat)).getD 0)) then (Cam.dY Cam.e0 ((some (Rat.divInt 1 2)).getD 0) ((some ((0:Int):Rat)).getD 0)) else 0),eF u2_1 u2_2 (some ((0:Int):Rat)),eF w38 w49 (some (Rat.divInt 1 2)),qF true u2_1 u2_2 ((0:Int):Rat),qF true w38 w49 (Rat.divInt 1 2),qF true w32 w43 (Rat.divInt 159 256)])) ?_ (fun hD0=> ?_)
 ·
  rintro ⟨u2_1,u2_2,u4_1,u4_2,u4_3,u4_4,u8_1⟩
  dsimp only [cw]
  refine zH kr<|zd<|ze ?_
  have e13:(if (Cam.pc Cam.e0 [((some (Rat.divInt 1 2)),(some ((0:Int):Rat)))]=0) then (if Cam.ins Cam.e0 ((some (Rat.divInt 1 2)).getD 0) ((some ((0:Int):Rat)).getD 0) then 0 else 15) else Cam.pc Cam.e0 [((some (Rat.divInt 1 2)),(some ((0:Int):Rat)))]:Int)=0:=by exact (if_pos Cam.e0_pc).trans (if_pos Cam.e0_ins)
  rw [e13]
  have e14:((if (Cam.pc Cam.e0 [((some (Rat.divInt 1 2)),(some ((0:Int):Rat)))]=0∧Cam.ins Cam.e0 ((some (Rat.divInt 1 2)).getD 0) ((some ((0:Int):Rat)).getD 0)) then (Cam.dX Cam.e0 ((some (Rat.divInt 1 2)).getD 0) ((some ((0:Int):Rat)).getD 0)) else 0):Rat)=(Rat.divInt 31 64):=by exact (if_pos ⟨Cam.e0_pc,Cam.e0_ins⟩).trans Cam.e0_dX
  rw [e14]
  have e15:(decide (Cam.pc Cam.e0 [((some (Rat.divInt 1 2)),(some ((0:Int):Rat)))]=0∧Cam.ins Cam.e0 ((some (Rat.divInt 1 2)).getD 0) ((some ((0:Int):Rat)).getD 0)):Bool)=true:=by exact decide_eq_true ⟨Cam.e0_pc,Cam.e0_ins⟩
  rw [e15]
  refine za<|zm rfl rfl (.c rfl (.c rfl .n)) ce15 (zGb (z1:=159) (z2:=256) (hz1:=by first|rfl|assumption|decide|omega|(decide +kernel)) (hz2:=by first|rfl|assumption|decide|omega|(decide +kernel)) (hy:=by first|rfl|assumption|decide|omega|(decide +kernel))) (.n) ?_
  rintro ⟨w316,w417⟩ -
  dsimp only [aq,nq,cq]
  refine e_mv rfl<|e_p (zq rfl rfl)<|e_p (zq rfl rfl)<|zI rfl rfl (zr zr32 rfl) (fun b18=> ?_)
  refine zj 0 rfl rfl rfl rfl rfl sz32 rfl (.t4 .nil) .z<|e_p (zb rfl)<|zf<|zd<|ze<|za<|zm rfl rfl (.c rfl (.c rfl .n)) ce15 (zGb (z1:=31) (z2:=64) (hz1:=by first|rfl|assumption|decide|omega|(decide +kernel)) (hz2:=by first|rfl|assumption|decide|omega|(decide +kernel)) (hy:=by first|rfl|assumption|decide|omega|(decide +kernel))) (.n) ?_
  rintro ⟨w319,w420⟩ -
  dsimp only [aq,nq,cq]
  refine e_mv rfl<|e_p (zq rfl rfl)<|e_p (zq rfl rfl)<|zI rfl rfl (zr zr32 rfl) (fun b21=> ?_)
  refine zj 0 rfl rfl rfl rfl rfl sz32 rfl (.t4 .nil) .z<|e_p (zb rfl)<|zf<|zd<|zOa (X:=Unit) (fun x=>True) (fun x=>[(0,.bool true)]) (fun x=>[boxA b21 32 (cw [w319,w420]),boxA b18 32 (cw [w316,w417]),boxA u8_1 34 (cw [u4_1,u4_2,u4_3,u4_4]),boxA b10 32 (cw [w38,w49]),boxA b7 32 (cw [w32,w43]),boxA b1 27 [.int .i64 64,.int .i64 0,.int .i64 0,.int .i64 (-131072),.int .i64 0,.int .i64 0,.int .i64 0,.int .i64 0,.int .i64 64]]) (fun x=>[qF true w319 w420 (Rat.divInt 31 64),qF true w316 w417 (Rat.divInt 159 256),qF true u4_1 u4_2 (Rat.divInt 31 64),qF true u4_3 u4_4 (if (Cam.pc Cam.e0 [((some (Rat.divInt 1 2)),(some ((0:Int):Rat)))]=0∧Cam.ins Cam.e0 ((some (Rat.divInt 1 2)).getD 0) ((some ((0:Int):Rat)).getD 0)) then (Cam.dY Cam.e0 ((some (Rat.divInt 1 2)).getD 0) ((some ((0:Int):Rat)).getD 0)) else 0),eF u2_1 u2_2 (some ((0:Int):Rat)),eF w38 w49 (some (Rat.divInt 1 2)),qF true u2_1 u2_2 ((0:Int):Rat),qF true w38 w49 (Rat.divInt 1 2),qF true w32 w43 (Rat.divInt 159 256)]) ?_ ?_
  ·
   refine za<|e_mv rfl<|e_p (zwa rfl rfl)<|e_mv rfl<|e_mv rfl<|e_p (zwa rfl rfl)<|e_p (zE rfl rfl)<|e_mv rfl<|e_ru (zc 4 ty32 rfl rfl (.t4 .nil))<|e_ru (zc 1 ty32 rfl rfl (.t4 .nil))<|zJ rfl rfl (.c rfl (.c rfl .n)) ce30 (zxd (u1:=w32) (v1:=w43) (q1:=(Rat.divInt 159 256)) (u2:=w316) (v2:=w417) (q2:=Rat.divInt 159 256) (hl:=by first|rfl|assumption|decide|omega|(decide +kernel))) (.c (j:=8) rfl (.c (j:=1) rfl .n)) ?_
   rw [show (decide ((Rat.divInt 159 256)=(Rat.divInt 159 256)))=true from by exact decide_eq_true rfl]
   refine e_p (zE rfl rfl)<|e_mv rfl<|e_p (zg yf rfl sz32 rfl rfl)<|e_ru (zc 2 ty32 rfl rfl (.t4 .nil))<|e_ru (zc 0 ty32 rfl rfl (.t4 .nil))<|zJ rfl rfl (.c rfl (.c rfl .n)) ce30 (zxd (u1:=u4_1) (v1:=u4_2) (q1:=(Rat.divInt 31 64)) (u2:=w319) (v2:=w420) (q2:=Rat.divInt 31 64) (hl:=by first|rfl|assumption|decide|omega|(decide +kernel))) (.c (j:=2) rfl (.c (j:=0) rfl .n)) ?_
   rw [show (decide ((Rat.divInt 31 64)=(Rat.divInt 31 64)))=true from by exact decide_eq_true rfl]
   refine e_p (zE rfl rfl)<|e_mv rfl<|e_p (zN zr27 rfl Tryz.underlying27 (.c sz3 (.c sz23 (.c sz24 (.c sz25 (.c sz3 .n))))) .n .n)<|zJ rfl rfl (.c rfl .n) ce24 (zBc (e:=Cam.ez) (hin:=by exact Cam.ez_in)) (.n)<|e_p (zwa rfl rfl) ?_
   rw [show (decide ((Cam.ck Cam.ez)=2))=true from by exact decide_eq_true Cam.ez_ck]
   refine e_p (zE rfl rfl)<|e_p (zb rfl)<|zf ?_
   exact zT () tt9 ((.c rfl .n):SubM _ _) (ho:=((.of [0,0,0,0,0,0] rfl):PickO _ _ _)) ((.of [0,1,2,3,4,5,6,7,8] rfl):SelR _ _ _)
  ·
   rintro ⟨⟩ -
   try dsimp only [cw]
   refine zC ?_
   exact zu Tryz.results6 () trivial (zn rfl) rfl (ho:=oN) sN
 refine zQa (X:=Wd×Wd×Wd×Wd×Wd×Wd×Nat) (k':=2) (L':=(lb 11 511)) (fun (u2_1,u2_2,u4_1,u4_2,u4_3,u4_4,u8_1)=>([(6,.pointer (some ⟨u8_1,0,none⟩)),(30,.int .i64 (if (Cam.pc Cam.e0 [((some (Rat.divInt 1 2)),(some ((0:Int):Rat)))]=0) then (if Cam.ins Cam.e0 ((some (Rat.divInt 1 2)).getD 0) ((some ((0:Int):Rat)).getD 0) then 0 else 15) else Cam.pc Cam.e0 [((some (Rat.divInt 1 2)),(some ((0:Int):Rat)))])),(29,.agg (cw [u4_1,u4_2,u4_3,u4_4]).toArray),(3,.int .i64 0),(2,.pointer (some ⟨b7,0,none⟩)),(0,.bool false)],[boxA u8_1 34 (cw [wz,wz,wz,wz])],[boxA b10 32 (cw [w38,w49]),boxA b7 32 (cw [w32,w43]),boxA b1 27 [.int .i64 64,.int .i64 0,.int .i64 0,.int .i64 (-131072),.int .i64 0,.int .i64 0,.int .i64 0,.int .i64 0,.int .i64 64]],[qF (decide (Cam.pc Cam.e0 [((some (Rat.divInt 1 2)),(some ((0:Int):Rat)))]=0∧Cam.ins Cam.e0 ((some (Rat.divInt 1 2)).getD 0) ((some ((0:Int):Rat)).getD 0))) u4_1 u4_2 (if (Cam.pc Cam.e0 [((some (Rat.divInt 1 2)),(some ((0:Int):Rat)))]=0∧Cam.ins Cam.e0 ((some (Rat.divInt 1 2)).getD 0) ((some ((0:Int):Rat)).getD 0)) then (Cam.dX Cam.e0 ((some (Rat.divInt 1 2)).getD 0) ((some ((0:Int):Rat)).getD 0)) else 0),qF (decide (Cam.pc Cam.e0 [((some (Rat.divInt 1 2)),(some ((0:Int):Rat)))]=0∧Cam.ins Cam.e0 ((some (Rat.divInt 1 2)).getD 0) ((some ((0:Int):Rat)).getD 0))) u4_3 u4_4 (if (Cam.pc Cam.e0 [((some (Rat.divInt 1 2)),(some ((0:Int):Rat)))]=0∧Cam.ins Cam.e0 ((some (Rat.divInt 1 2)).getD 0) ((some ((0:Int):Rat)).getD 0)) then (Cam.dY Cam.e0 ((some (Rat.divInt 1 2)).getD 0) ((some ((0:Int):Rat)).getD 0)) else 0),eF u2_1 u2_2 (some ((0:Int):Rat)),eF w38 w49 (some (Rat.divInt 1 2)),qF true u2_1 u2_2 ((0:Int):Rat),qF true w38 w49 (Rat.divInt 1 2),qF true w32 w43 (Rat.divInt 159 256)])) ?_ (fun hD1=> ?_)
 ·
  rintro ⟨u2_1,u2_2,u4_1,u4_2,u4_3,u4_4,u8_1⟩
  dsimp only [cw]
  refine zPb 9 kr ?_
  ·
   refine zv kr rfl rfl rfl rfl rfl sz34 rfl (.t8 .nil)<|e_pv 10 rfl rfl (zb rfl) ?_
   exact zua (hD0 (u2_1,u2_2,u4_1,u4_2,u4_3,u4_4,u8_1)) kr (mR rfl) .rfl .rfl ((.of [0,1,2,3,4,5,6] rfl):SelR _ _ _)
 refine zQa (X:=Wd×Wd×Wd×Wd×Wd×Wd) (k':=3) (L':=(lb 11 255)) (fun (u2_1,u2_2,u4_1,u4_2,u4_3,u4_4)=>([(30,.int .i64 (if (Cam.pc Cam.e0 [((some (Rat.divInt 1 2)),(some ((0:Int):Rat)))]=0) then (if Cam.ins Cam.e0 ((some (Rat.divInt 1 2)).getD 0) ((some ((0:Int):Rat)).getD 0) then 0 else 15) else Cam.pc Cam.e0 [((some (Rat.divInt 1 2)),(some ((0:Int):Rat)))])),(29,.agg (cw [u4_1,u4_2,u4_3,u4_4]).toArray),(3,.int .i64 0),(2,.pointer (some ⟨b7,0,none⟩)),(0,.bool false)],[],[boxA b10 32 (cw [w38,w49]),boxA b7 32 (cw [w32,w43]),boxA b1 27 [.int .i64 64,.int .i64 0,.int .i64 0,.int .i64 (-131072),.int .i64 0,.int .i64 0,.int .i64 0,.int .i64 0,.int .i64 64]],[qF (decide (Cam.pc Cam.e0 [((some (Rat.divInt 1 2)),(some ((0:Int):Rat)))]=0∧Cam.ins Cam.e0 ((some (Rat.divInt 1 2)).getD 0) ((some ((0:Int):Rat)).getD 0))) u4_1 u4_2 (if (Cam.pc Cam.e0 [((some (Rat.divInt 1 2)),(some ((0:Int):Rat)))]=0∧Cam.ins Cam.e0 ((some (Rat.divInt 1 2)).getD 0) ((some ((0:Int):Rat)).getD 0)) then (Cam.dX Cam.e0 ((some (Rat.divInt 1 2)).getD 0) ((some ((0:Int):Rat)).getD 0)) else 0),qF (decide (Cam.pc Cam.e0 [((some (Rat.divInt 1 2)),(some ((0:Int):Rat)))]=0∧Cam.ins Cam.e0 ((some (Rat.divInt 1 2)).getD 0) ((some ((0:Int):Rat)).getD 0))) u4_3 u4_4 (if (Cam.pc Cam.e0 [((some (Rat.divInt 1 2)),(some ((0:Int):Rat)))]=0∧Cam.ins Cam.e0 ((some (Rat.divInt 1 2)).getD 0) ((some ((0:Int):Rat)).getD 0)) then (Cam.dY Cam.e0 ((some (Rat.divInt 1 2)).getD 0) ((some ((0:Int):Rat)).getD 0)) else 0),eF u2_1 u2_2 (some ((0:Int):Rat)),eF w38 w49 (some (Rat.divInt 1 2)),qF true u2_1 u2_2 ((0:Int):Rat),qF true w38 w49 (Rat.divInt 1 2),qF true w32 w43 (Rat.divInt 159 256)])) ?_ (fun hD2=> ?_)
 ·
  rintro ⟨u2_1,u2_2,u4_1,u4_2,u4_3,u4_4⟩
  dsimp only [cw]
  refine zPb 8 kr ?_
  ·
   refine zoc rfl rfl rfl rfl (zr zr34 rfl) (fun u8_1 _=> ?_)
   exact zua (hD1 (u2_1,u2_2,u4_1,u4_2,u4_3,u4_4,u8_1)) kr (mR rfl) .rfl .rfl ((.of [0,1,2,3,4,5,6] rfl):SelR _ _ _)
 refine zQa (X:=Wd×Wd×Nat) (k':=6) (L':=(lb 11 271)) (fun (u2_1,u2_2,u8_1)=>([(6,.pointer (some ⟨u8_1,0,none⟩)),(27,.agg (cw [w38,w49,u2_1,u2_2]).toArray),(24,.agg #[.int .i64 64,.int .i64 0,.int .i64 0,.int .i64 (-131072),.int .i64 0,.int .i64 0,.int .i64 0,.int .i64 0,.int .i64 64]),(3,.int .i64 0),(2,.pointer (some ⟨b7,0,none⟩)),(0,.bool false)],[boxA u8_1 34 (cw [wz,wz,wz,wz])],[boxA b10 32 (cw [w38,w49]),boxA b7 32 (cw [w32,w43]),boxA b1 27 [.int .i64 64,.int .i64 0,.int .i64 0,.int .i64 (-131072),.int .i64 0,.int .i64 0,.int .i64 0,.int .i64 0,.int .i64 64]],[qF true u2_1 u2_2 ((0:Int):Rat),qF true w38 w49 (Rat.divInt 1 2),qF true w32 w43 (Rat.divInt 159 256)])) ?_ (fun hD3=> ?_)
 ·
  rintro ⟨u2_1,u2_2,u8_1⟩
  dsimp only [cw]
  refine zPb 4 kr ?_
  ·
   first|refine zNa (addQe 1 rfl) ?_|refine zCb (addQe 1 rfl) ?_
   first|refine zNa (addQe 1 rfl) ?_|refine zCb (addQe 1 rfl) ?_
   refine zp rfl rfl rfl rfl (.c rfl (.c rfl .n)) ce8 (zBb (e:=Cam.e0) (u1:=w38) (u2:=w49) (v1:=u2_1) (v2:=u2_2) (xo:=(some (Rat.divInt 1 2))) (yo:=(some ((0:Int):Rat))) (hin:=by exact Cam.e0_in) (hx:=by first|rfl|assumption|decide|omega|(decide +kernel)) (hy:=by first|rfl|assumption|decide|omega|(decide +kernel))) (.c (j:=1) rfl (.c (j:=0) rfl .n)) ?_
   rintro ⟨u4_1,u4_2,u4_3,u4_4⟩ hy22
   dsimp only [aq,nq,cq]
   replace hy22:(¬(Cam.pc Cam.e0 [((some (Rat.divInt 1 2)),(some ((0:Int):Rat)))]=0∧Cam.ins Cam.e0 ((some (Rat.divInt 1 2)).getD 0) ((some ((0:Int):Rat)).getD 0))→u4_1=wz∧u4_2=wz∧u4_3=wz∧u4_4=wz):=hy22
   refine e_dm 5 rfl rfl rfl<|e_pv 6 rfl rfl (zq rfl rfl)<|e_pv 7 rfl rfl (zq rfl rfl) ?_
   exact zua (hD1 (u2_1,u2_2,u4_1,u4_2,u4_3,u4_4,u8_1)) kr (mR rfl) .rfl .rfl ((.of [0,1,2,3,4,5,6] rfl):SelR _ _ _)
 refine zQa (X:=Wd×Wd) (k':=7) (L':=(lb 11 15)) (fun (u2_1,u2_2)=>([(27,.agg (cw [w38,w49,u2_1,u2_2]).toArray),(24,.agg #[.int .i64 64,.int .i64 0,.int .i64 0,.int .i64 (-131072),.int .i64 0,.int .i64 0,.int .i64 0,.int .i64 0,.int .i64 64]),(3,.int .i64 0),(2,.pointer (some ⟨b7,0,none⟩)),(0,.bool false)],[],[boxA b10 32 (cw [w38,w49]),boxA b7 32 (cw [w32,w43]),boxA b1 27 [.int .i64 64,.int .i64 0,.int .i64 0,.int .i64 (-131072),.int .i64 0,.int .i64 0,.int .i64 0,.int .i64 0,.int .i64 64]],[qF true u2_1 u2_2 ((0:Int):Rat),qF true w38 w49 (Rat.divInt 1 2),qF true w32 w43 (Rat.divInt 159 256)])) ?_ (fun hD4=> ?_)
 ·
  rintro ⟨u2_1,u2_2⟩
  dsimp only [cw]
  refine zQe 4 8 kr ?_ ?_
  ·
   first|refine zNa (addQe 1 rfl) ?_|refine zCb (addQe 1 rfl) ?_
   first|refine zNa (addQe 1 rfl) ?_|refine zCb (addQe 1 rfl) ?_
   refine zp rfl rfl rfl rfl (.c rfl (.c rfl .n)) ce8 (zBb (e:=Cam.e0) (u1:=w38) (u2:=w49) (v1:=u2_1) (v2:=u2_2) (xo:=(some (Rat.divInt 1 2))) (yo:=(some ((0:Int):Rat))) (hin:=by exact Cam.e0_in) (hx:=by first|rfl|assumption|decide|omega|(decide +kernel)) (hy:=by first|rfl|assumption|decide|omega|(decide +kernel))) (.c (j:=1) rfl (.c (j:=0) rfl .n)) ?_
   rintro ⟨u4_1,u4_2,u4_3,u4_4⟩ hy23
   dsimp only [aq,nq,cq]
   replace hy23:(¬(Cam.pc Cam.e0 [((some (Rat.divInt 1 2)),(some ((0:Int):Rat)))]=0∧Cam.ins Cam.e0 ((some (Rat.divInt 1 2)).getD 0) ((some ((0:Int):Rat)).getD 0))→u4_1=wz∧u4_2=wz∧u4_3=wz∧u4_4=wz):=hy23
   refine e_dm 5 rfl rfl rfl<|e_pv 6 rfl rfl (zq rfl rfl)<|e_pv 7 rfl rfl (zq rfl rfl) ?_
   exact zua (hD2 (u2_1,u2_2,u4_1,u4_2,u4_3,u4_4)) kr (mR rfl) .rfl .rfl ((.of [0,1,2,3,4,5,6] rfl):SelR _ _ _)
  ·
   refine zoc rfl rfl rfl rfl (zr zr34 rfl) (fun u8_1 _=> ?_)
   exact zua (hD3 (u2_1,u2_2,u8_1)) kr (mR rfl) .rfl .rfl ((.of [0,1,2] rfl):SelR _ _ _)
 refine zQa (X:=Nat) (k':=8) (L':=(lb 11 259)) (fun u8_1=>([(6,.pointer (some ⟨u8_1,0,none⟩)),(25,.agg (cw [w38,w49]).toArray),(24,.agg #[.int .i64 64,.int .i64 0,.int .i64 0,.int .i64 (-131072),.int .i64 0,.int .i64 0,.int .i64 0,.int .i64 0,.int .i64 64]),(3,.int .i64 0),(2,.pointer (some ⟨b7,0,none⟩)),(0,.bool false)],[boxA u8_1 34 (cw [wz,wz,wz,wz])],[boxA b10 32 (cw [w38,w49]),boxA b7 32 (cw [w32,w43]),boxA b1 27 [.int .i64 64,.int .i64 0,.int .i64 0,.int .i64 (-131072),.int .i64 0,.int .i64 0,.int .i64 0,.int .i64 0,.int .i64 64]],[qF true w38 w49 (Rat.divInt 1 2),qF true w32 w43 (Rat.divInt 159 256)])) ?_ (fun hD5=> ?_)
 ·
  rintro u8_1
  dsimp only [cw]
  refine zPb 2 kr ?_
  ·
   refine zp rfl rfl rfl rfl (.c rfl .n) ce29 (zFc (z:=0) (hz:=by first|rfl|assumption|decide|omega|(decide +kernel))) (.n) ?_
   rintro ⟨u2_1,u2_2⟩ -
   dsimp only [aq,nq,cq]
   refine e_pv 3 rfl rfl (zN zr34 rfl yf (.c sz32 (.c sz32 .n)) (.c rfl (.c rfl .n)) (.c rfl rfl rfl (.t4 .nil) (.c rfl rfl rfl (.s4 (.t4 .nil)) .n))) ?_
   exact zua (hD3 (u2_1,u2_2,u8_1)) kr (mR rfl) .rfl .rfl ((.of [0,1,2] rfl):SelR _ _ _)
 refine zQe 2 8 kr ?_ ?_
 ·
  refine zp rfl rfl rfl rfl (.c rfl .n) ce29 (zFc (z:=0) (hz:=by first|rfl|assumption|decide|omega|(decide +kernel))) (.n) ?_
  rintro ⟨u2_1,u2_2⟩ -
  dsimp only [aq,nq,cq]
  refine e_pv 3 rfl rfl (zN zr34 rfl yf (.c sz32 (.c sz32 .n)) (.c rfl (.c rfl .n)) (.c rfl rfl rfl (.t4 .nil) (.c rfl rfl rfl (.s4 (.t4 .nil)) .n))) ?_
  exact zua (hD4 (u2_1,u2_2)) kr (mR rfl) .rfl .rfl ((.of [0,1,2] rfl):SelR _ _ _)
 ·
  refine zoc rfl rfl rfl rfl (zr zr34 rfl) (fun u8_1 _=> ?_)
  exact zua (hD5 u8_1) kr (mR rfl) .rfl .rfl ((.of [0,1] rfl):SelR _ _ _)
end Go.Proofs.YtahiajepeodhoaaGreat.Sp
namespace Go.Proofs.YtahiajepeodhoaaGreat.Po
open Go.Proofs.YtahiajepeodhoaaGreat.Big
theorem ge_bez:∀(n:Nat) (p q:List Rat),cl p=p→cl q=q→∃u v:List Rat,∀t,ev t (ge n p q)=ev t u*ev t p+ev t v*ev t q
  |0,p,q,_,_=>⟨[1],[],fun t=>by show ev t p=(0*t+1)*ev t p+0*_;grind⟩
  |n+1,p,q,hp,hq=>by
    by_cases h:q.length=0
    · rw [ge_nil h]
      exact ⟨[1],[],fun t=>by show ev t p=(0*t+1)*ev t p+0*_;grind⟩
    · have e : ge (n + 1) p q = ge n q (mo (dr p q)) := if_neg h
      obtain ⟨u,v,k⟩:=ge_bez n q (mo (dr p q)) hq (mo_cl _)
      obtain ⟨a,-,ea⟩:=mo_scl (dr_cl p q)
      rw [e]
      refine ⟨mul v [a],sub u (mul (mul v [a]) (dq p q)),fun t=> ?_⟩
      rw [k,ea,ev_scl,ev_sub,ev_mul,ev_mul,ev_mul,div_ev hp hq h t]
      show _=ev t v*(0*t+a)*_+(_ - ev t v*(0*t+a)*_)*_
      grind
theorem gcd_bez (p q:List Rat) (hp:cl p=p) (hq:cl q=q):∃u v:List Rat,∀t,ev t (gcd p q)=ev t u*ev t p+ev t v*ev t q:=by
  obtain ⟨u,v,k⟩:=ge_bez (cl q).length (mo (cl p)) (mo (cl q)) (mo_cl _) (mo_cl _)
  obtain ⟨a,-,ea⟩:=mo_scl (cl_cl p)
  obtain ⟨b,-,eb⟩:=mo_scl (cl_cl q)
  refine ⟨mul u [a],mul v [b],fun t=> ?_⟩
  unfold gcd
  rw [k,ea,eb,ev_scl,ev_scl,ev_mul,ev_mul,hp,hq]
  show _=ev t u*(0*t+a)*_+ev t v*(0*t+b)*_
  grind
theorem cl_ne {l:List Rat} (h:∃t,ev t l≠0):(cl l).length≠0:=fun e=>by
  obtain ⟨t,ht⟩:=h
  rw [← ev_cl,List.length_eq_zero_iff.1 e] at ht
  exact ht rfl
theorem cancel {c D:List Rat} (hc:∃t,ev t c≠0) (h:∀t,ev t c*ev t D=0) (t:Rat):ev t D=0:=by
  refine Classical.byContradiction fun k=> ?_
  have h1:=cl_ne hc
  have h2:=cl_ne ⟨t,k⟩
  have h3:=mul_length (cl_cl c) (cl_cl D) h1 h2
  have h4:mul (cl c) (cl D)=[]:=ev_ext' (mul_cl _ _) rfl fun s=>by
    rw [ev_mul,ev_cl,ev_cl,h s];rfl
  rw [h4] at h3
  simp at h3
  omega
def pw (h:List Rat):Nat→List Rat
  |0=>[1]
  |k+1=>mul h (pw h k)
theorem pw_ev (h:List Rat) (t:Rat):∀k,ev t (pw h (k+1))=ev t h*ev t (pw h k):=fun k=>ev_mul _ _ _
theorem pw_zero (h:List Rat) (t:Rat):ev t (pw h 0)=1:=by show 0*t+1=(1:Rat);grind
theorem pw_ne {h:List Rat} (hn:(cl h).length≠0):∀k,∃t,ev t (pw h k)≠0
  |0=>⟨0,by rw [pw_zero];decide +kernel⟩
  |k+1=>by
    have h1:=pw_ne hn k
    refine Classical.byContradiction fun z=> ?_
    obtain ⟨t,ht⟩:=ev_some (cl_cl h) hn
    have:ev t h=0:=cancel h1 (fun s=>by
      have:ev s (pw h (k+1))=0:=Classical.byContradiction fun q=>z ⟨s,q⟩
      rw [pw_ev] at this;grind) t
    rw [ev_cl] at ht
    exact ht this
theorem pw_len {h:List Rat} (hc:cl h=h) (hl:2≤h.length):∀k,k+1≤(cl (pw h k)).length
  |0=>by
    have:=cl_ne (pw_ne (h:=h) (by rw [hc];omega) 0)
    omega
  |k+1=>by
    have h1:=pw_len hc hl k
    have e:cl (pw h (k+1))=mul h (cl (pw h k)):=by
      show cl (mul h (pw h k))=_
      rw [mul_cl,mul_clr]
    rw [e,mul_length hc (cl_cl _) (by omega) (by omega)]
    omega
theorem pw_dvd {G q w h q1 z α β:List Rat} (hn:(cl h).length≠0) (e1:∀t,ev t G*ev t w=ev t (der G)*ev t q) (e2:∀t,ev t q=ev t h*ev t q1) (e3:∀t,ev t (der q)=ev t h*ev t z) (e4:∀t,ev t α*ev t h+ev t β*ev t w=1):
    ∀k,∃A:List Rat,∀t,ev t G=ev t (pw h k)*ev t A
  |0=>⟨G,fun t=>by rw [pw_zero];grind⟩
  |k+1=>by
    obtain ⟨A,hA⟩:=pw_dvd hn e1 e2 e3 e4 k
    -- the derivative of G
    have hd:∀t,ev t (der G)*ev t h=ev t (pw h k)*((k:Nat)*ev t (der h)*ev t A+ev t h*ev t (der A)):=by
      intro t
      have hG:der G=der (mul (pw h k) A):=der_ext fun t=>by rw [ev_mul];exact hA t
      have hp:∀j,ev t (der (pw h j))*ev t h=(j:Nat)*ev t (der h)*ev t (pw h j):=by
        intro j
        induction j with
        |zero=>
          have:der (pw h 0)=[]:=(by decide +kernel:der [(1:Rat)]=[])
          rw [this]
          show (0:Rat)*_=((0:Nat):Rat)*_*_
          have:((0:Nat):Rat)=0:=by decide +kernel
          rw [this];grind
        |succ j ih=>
          have:der (pw h (j+1))=add (mul (der h) (pw h j)) (mul h (der (pw h j))):=der_mul _ _
          rw [this,ev_add,ev_mul,ev_mul,pw_ev]
          have hj:((j+1:Nat):Rat)=(j:Nat)+1:=by exact_mod_cast cast_s j
          rw [hj]
          grind
      rw [hG,der_mul,ev_add,ev_mul,ev_mul]
      have:=hp k
      grind
    -- h' q1 is a multiple of h
    have hq:∀t,ev t (der h)*ev t q1=ev t h*(ev t z - ev t (der q1)):=by
      intro t
      have h1:der q=der (mul h q1):=der_ext fun t=>by rw [ev_mul];exact e2 t
      have h2:=e3 t
      rw [h1,der_mul,ev_add,ev_mul,ev_mul] at h2
      grind
    -- cancel the power
    have hc:∀t,ev t A*ev t w=ev t h*((k:Nat)*ev t A*(ev t z - ev t (der q1))+ev t (der A)*ev t q1):=by
      intro t
      have:=cancel (c:=pw h k) (D:=sub (mul A w) (mul h (add (mul [((k:Nat):Rat)] (mul A (sub z (der q1)))) (mul (der A) q1)))) (pw_ne hn k) (fun s=>by
        have h1:=e1 s
        have h2:=hd s
        have h3:=hq s
        rw [hA s,e2 s] at h1
        rw [ev_sub,ev_mul,ev_mul,ev_add,ev_mul,ev_mul,ev_mul,ev_sub]
        show _*(_ - _*((0*s+((k:Nat):Rat))*_+_))=0
        grind) t
      rw [ev_sub,ev_mul,ev_mul,ev_add,ev_mul,ev_mul,ev_mul,ev_sub] at this
      have e:ev t [((k:Nat):Rat)]=((k:Nat):Rat):=by show 0*t+_=_;grind
      rw [e] at this
      grind
    refine ⟨add (mul α A) (mul β (add (mul [((k:Nat):Rat)] (mul A (sub z (der q1)))) (mul (der A) q1))),fun t=> ?_⟩
    rw [pw_ev,hA t,ev_add,ev_mul,ev_mul,ev_add,ev_mul,ev_mul,ev_mul,ev_sub]
    have e:ev t [((k:Nat):Rat)]=((k:Nat):Rat):=by show 0*t+_=_;grind
    have h1:=e4 t
    have h2:=hc t
    rw [e]
    have h3:ev t A=ev t α*ev t h*ev t A+ev t β*(ev t A*ev t w):=by grind
    rw [h2] at h3
    grind
theorem sqf_cop {p h:List Rat} (hp:(cl p).length≠0) (hc:cl h=h) (d1:dvd h (sqf p)) (d2:dvd h (der (sqf p))):h.length≤1:=by
  refine Decidable.byContradiction fun hl=> ?_
  have hc0:=cl_cl p
  have hg:=gcd_cl (cl p) (der (cl p))
  have hn:(gcd (cl p) (der (cl p))).length≠0:=gcd_ne (by rw [hc0];exact hp)
  obtain ⟨k1,v,hv⟩:=gcd_dvd (cl p) (der (cl p)) hc0 (der_cl _)
  obtain ⟨a,b,hab⟩:=gcd_bez (cl p) (der (cl p)) hc0 (der_cl _)
  have hm:=exact_mul hc0 hg hn k1
  have he:sqf p=mo (dq (cl p) (gcd (cl p) (der (cl p)))):=if_neg hp
  generalize hG:gcd (cl p) (der (cl p))=G at*
  generalize hQ:dq (cl p) G=q at*
  have hqc:cl q=q:=by rw [← hQ];exact dq_cl _ _
  obtain ⟨c,hc0',ec⟩:=mo_scl hqc
  rw [he,ec] at d1 d2
  obtain ⟨q0,hq0⟩:=d1
  obtain ⟨z0,hz0⟩:=d2
  -- back from the multiple
  have hinv:∃c',c*c'=1:=⟨1 / c,by
    have:=Rat.div_mul_cancel (a:=1) hc0'
    rw [Rat.mul_comm];exact this⟩
  obtain ⟨c',hcc⟩:=hinv
  have e2:∀t,ev t q=ev t h*ev t (mul q0 [c']):=fun t=>by
    have h1:=hq0 t
    rw [ev_scl] at h1
    rw [ev_mul]
    show _=_*(_*(0*t+c'))
    grind
  have hds:∀t,ev t (der (scl q c))=ev t (der q)*c:=fun t=>by
    have:der (scl q c)=scl (der q) c:=zRa (der_cl _) (scl_cl _ _) fun i=>by rw [der_get,scl_get,scl_get,der_get];grind
    rw [this,ev_scl]
  have e3:∀t,ev t (der q)=ev t h*ev t (mul z0 [c']):=fun t=>by
    have h1:=hz0 t
    rw [hds] at h1
    rw [ev_mul]
    show _=_*(_*(0*t+c'))
    grind
  have hpd:∀t,ev t (der (cl p))=ev t (der q)*ev t G+ev t q*ev t (der G):=fun t=>by
    have:der (cl p)=der (mul q G):=by rw [hm]
    rw [this,der_mul,ev_add,ev_mul,ev_mul]
  have hpq:∀t,ev t (cl p)=ev t q*ev t G:=fun t=>by rw [← hm,ev_mul]
  have e1:∀t,ev t G*ev t (sub v (der q))=ev t (der G)*ev t q:=fun t=>by
    have h1:=hpd t
    rw [hv t] at h1
    rw [ev_sub];grind
  -- q and v have no common divisor, so h and w have none
  have hGs:=ev_some hg hn
  have hbz:∀t,ev t a*ev t q+ev t b*ev t v=1:=fun t=>by
    have:=cancel (c:=G) (D:=sub (add (mul a q) (mul b v)) [1]) hGs (fun s=>by
      have h1:=hab s
      rw [hpq s,hv s] at h1
      rw [ev_sub,ev_add,ev_mul,ev_mul]
      show _*(_ - (0*s+1))=0
      grind) t
    rw [ev_sub,ev_add,ev_mul,ev_mul] at this
    have e:ev t [1]=1:=by show 0*t+1=(1:Rat);grind
    rw [e] at this
    grind
  have e4:∀t,ev t (add (mul a (mul q0 [c'])) (mul b (mul z0 [c'])))*ev t h+ev t b*ev t (sub v (der q))=1:=fun t=>by
    have h1:=hbz t
    have h2:=e2 t
    have h3:=e3 t
    rw [ev_add,ev_mul t a,ev_mul t b,ev_sub]
    rw [h2] at h1
    grind
  obtain ⟨A,hA⟩:=pw_dvd (G:=G) (q:=q) (w:=sub v (der q)) (h:=h) (by rw [hc];omega) e1 e2 e3 e4 G.length
  have h5:G=mul (cl (pw h G.length)) (cl A):=ev_ext' hg (mul_cl _ _) fun t=>by rw [ev_mul,ev_cl,ev_cl];exact hA t
  have h6:=pw_len hc (by omega) G.length
  by_cases h7:(cl A).length=0
  · rw [List.length_eq_zero_iff.1 h7, mul_comm', mul_nil] at h5
    exact hn (by rw [h5];rfl)
  · have h8 := mul_length (cl_cl (pw h G.length)) (cl_cl A) (by omega) h7
    rw [← h5] at h8
    omega
end Go.Proofs.YtahiajepeodhoaaGreat.Po
namespace Go.Proofs.YtahiajepeodhoaaGreat.Po
open Go.Proofs.YtahiajepeodhoaaGreat.Big
def le2 (z L:Rat):Prop:= -L≤z∧z≤L
theorem le2_add {x y A B:Rat} (h:le2 x A) (k:le2 y B):le2 (x+y) (A+B):=by
  unfold le2 at *;constructor <;> grind
theorem le2_mono {x A B:Rat} (h:le2 x A) (k:A≤B):le2 x B:=by
  unfold le2 at *;constructor <;> grind
theorem le2_nonneg {x A:Rat} (h:le2 x A):0≤A:=by unfold le2 at h;grind
theorem le2_mul {x y A B:Rat} (h:le2 x A) (k:le2 y B):le2 (x*y) (A*B):=by
  unfold le2 at*
  have a1:=Rat.mul_nonneg (show 0≤A - x by grind) (show 0≤B+y by grind)
  have a2:=Rat.mul_nonneg (show 0≤A+x by grind) (show 0≤B - y by grind)
  have a3:=Rat.mul_nonneg (show 0≤A - x by grind) (show 0≤B - y by grind)
  have a4:=Rat.mul_nonneg (show 0≤A+x by grind) (show 0≤B+y by grind)
  constructor <;> grind
theorem le2_abs (a:Rat):le2 a (qabs a):=by
  unfold le2 qabs;split <;> constructor <;> grind
theorem ev_bound {R:Rat} (hR:0≤R):∀l:List Rat,∃M,0≤M∧∀t,le2 t R→le2 (ev t l) M
  |[]=>⟨0,by grind,fun t _=>by show le2 0 0;unfold le2;constructor <;> grind⟩
  |a :: l=>by
    obtain ⟨M,h0,h⟩:=ev_bound hR l
    have:=Rat.mul_nonneg h0 hR
    have ha:=le2_nonneg (le2_abs a)
    refine ⟨M*R+qabs a,by grind,fun t ht=> ?_⟩
    exact le2_add (le2_mul (h t ht) ht) (le2_abs a)
theorem ev_lip {R:Rat} (hR:0≤R):∀l:List Rat,∃L,0≤L∧∀s t,le2 s R→le2 t R→s≤t→le2 (ev t l - ev s l) (L*(t - s))
  |[]=>⟨0,by grind,fun s t _ _ _=>by show le2 (0 - 0) _;unfold le2;constructor <;> grind⟩
  |a :: l=>by
    obtain ⟨L,h0,h⟩:=ev_lip hR l
    obtain ⟨M,m0,hm⟩:=ev_bound hR l
    have:=Rat.mul_nonneg hR h0
    refine ⟨M+R*L,by grind,fun s t hs ht hst=> ?_⟩
    have e:ev t (a :: l) - ev s (a :: l)=ev t l*(t - s)+s*(ev t l - ev s l):=by
      show ev t l*t+a - (ev s l*s+a)=_;grind
    have h1:=le2_mul (hm t ht) (show le2 (t - s) (t - s) by unfold le2;constructor <;> grind)
    have h2:=le2_mul hs (h s t hs ht hst)
    rw [e]
    refine le2_mono (le2_add h1 h2) ?_
    grind
theorem der_cons (a:Rat) (l:List Rat) (t:Rat):ev t (der (a :: l))=ev t l+t*ev t (der l):=by
  have e:der (a :: l)=der (add (mul [0,1] l) [a]):=der_ext fun t=>by
    rw [ev_add,ev_mul]
    show ev t l*t+a=((0*t+1)*t+0)*ev t l+(0*t+a);grind
  have e2:der (add (mul [0,1] l) [a])=add (der (mul [0,1] l)) (der [a]):=zRa (der_cl _) (add_cl _ _) fun i=>by
    rw [der_get,add_get,add_get,der_get,der_get];grind
  have e3:der [a]=[]:=by
    have:(der [a]).length≤0:=der_len [a]
    exact List.length_eq_zero_iff.1 (by omega)
  have e4:ev t (der [(0:Rat),1])=1:=by
    have:der [(0:Rat),1]=[1]:=by decide +kernel
    rw [this];show 0*t+1=(1:Rat);grind
  rw [e,e2,ev_add,der_mul,ev_add,ev_mul,ev_mul,e3,e4]
  show _+((0*t+1)*t+0)*_+0=_
  grind
theorem ev_tay {R:Rat} (hR:0≤R):∀l:List Rat,∃K,0≤K∧∀s t,le2 s R→le2 t R→s≤t→le2 (ev t l - ev s l - (t - s)*ev s (der l)) (K*((t - s)*(t - s)))
  |[]=>⟨0,by grind,fun s t _ _ _=>by
      have:ev s (der [])=0:=by
        have:der ([]:List Rat)=[]:=by decide +kernel
        rw [this];rfl
      rw [this]
      show le2 (0 - 0 - _) _;unfold le2;constructor <;> grind⟩
  |a :: l=>by
    obtain ⟨K,h0,h⟩:=ev_tay hR l
    obtain ⟨L,l0,hl⟩:=ev_lip hR l
    have:=Rat.mul_nonneg hR h0
    refine ⟨L+R*K,by grind,fun s t hs ht hst=> ?_⟩
    have e:ev t (a :: l) - ev s (a :: l) - (t - s)*ev s (der (a :: l))=(ev t l - ev s l)*(t - s)+s*(ev t l - ev s l - (t - s)*ev s (der l)):=by
      rw [der_cons]
      show ev t l*t+a - (ev s l*s+a) - _=_;grind
    have h1:=le2_mul (hl s t hs ht hst) (show le2 (t - s) (t - s) by unfold le2;constructor <;> grind)
    have h2:=le2_mul hs (h s t hs ht hst)
    rw [e]
    refine le2_mono (le2_add h1 h2) ?_
    grind
theorem all_lip {R:Rat} (hR:0≤R):∀S:List (List Rat),∃L,0≤L∧∀l,l∈S→∀s t,le2 s R→le2 t R→s≤t→le2 (ev t l - ev s l) (L*(t - s))
  |[]=>⟨0,by grind,fun l h=>by cases h⟩
  |l :: S=>by
    obtain ⟨L,l0,hL⟩:=ev_lip hR l
    obtain ⟨M,m0,hM⟩:=all_lip hR S
    refine ⟨L+M,by grind,fun k hk s t hs ht hst=> ?_⟩
    have h0:0≤t - s:=by grind
    have h1:=Rat.mul_nonneg l0 h0
    have h2:=Rat.mul_nonneg m0 h0
    rcases List.mem_cons.1 hk with rfl|hk
    · exact le2_mono (hL s t hs ht hst) (by grind)
    · exact le2_mono (hM k hk s t hs ht hst) (by grind)
def chn:List (List Rat)→Prop
  |[]=>True
  |[a]=>∃c:Rat,c≠0∧∀t,ev t a=c
  |[_,b]=>∃c:Rat,c≠0∧∀t,ev t b=c
  |a :: b :: c :: l=>(∃q,∀t,ev t a=ev t q*ev t b - ev t c)∧chn (b :: c :: l)
def sm (δ z:Rat):Prop:= -δ<z∧z<δ
def prs (δ x:Rat):List (List Rat)→Prop
  |[]=>True
  |[a]=>¬sm δ (ev x a)
  |a :: b :: l=>¬(sm δ (ev x a)∧sm δ (ev x b))∧prs δ x (b :: l)
theorem sm_mono {δ ε z:Rat} (h:sm δ z) (k:δ≤ε):sm ε z:=by unfold sm at *;constructor <;> grind
theorem prs_mono {δ ε x:Rat} (k:δ≤ε):∀S:List (List Rat),prs ε x S→prs δ x S
  |[],_=>trivial
  |[_],h=>fun z=>h (sm_mono z k)
  |_ :: b :: l,h=>⟨fun z=>h.1 ⟨sm_mono z.1 k,sm_mono z.2 k⟩,prs_mono k (b :: l) h.2⟩
def chq (R Q:Rat):List (List Rat)→Prop
  |[]=>True
  |[a]=>∃c:Rat,c≠0∧∀t,ev t a=c
  |[_,b]=>∃c:Rat,c≠0∧∀t,ev t b=c
  |a :: b :: c :: l=>(∃q,(∀t,le2 t R→le2 (ev t q) Q)∧∀t,ev t a=ev t q*ev t b - ev t c)∧chq R Q (b :: c :: l)
theorem chq_mono {R Q Q':Rat} (k:Q≤Q'):∀S:List (List Rat),chq R Q S→chq R Q' S
  |[],_=>trivial
  |[_],h=>h
  |[_,_],h=>h
  |_ :: b :: c :: l,⟨⟨q,h1,h2⟩,h3⟩=>⟨⟨q,fun t ht=>le2_mono (h1 t ht) k,h2⟩,chq_mono k (b :: c :: l) h3⟩
theorem chn_q {R:Rat} (hR:0≤R):∀S:List (List Rat),chn S→∃Q,0≤Q∧chq R Q S
  |[],_=>⟨0,by grind,trivial⟩
  |[_],h=>⟨0,by grind,h⟩
  |[_,_],h=>⟨0,by grind,h⟩
  |a :: b :: c :: l,⟨⟨q,h2⟩,h3⟩=>by
    obtain ⟨M,m0,hM⟩:=ev_bound hR q
    obtain ⟨Q,q0,hQ⟩:=chn_q hR (b :: c :: l) h3
    exact ⟨M+Q,by grind,⟨q,fun t ht=>le2_mono (hM t ht) (by grind),h2⟩,chq_mono (by grind) _ hQ⟩
theorem const_big {a:List Rat} {c:Rat} (hc:c≠0) (h:∀t,ev t a=c):∃δ,0<δ∧∀x,¬sm δ (ev x a):=by
  refine ⟨qabs c,?_,fun x z=> ?_⟩
  · unfold qabs;split <;> grind
  · rw [h] at z
    unfold sm qabs at z
    split at z <;> grind
theorem chq_prs {R Q:Rat} (hQ:0≤Q):∀S:List (List Rat),chq R Q S→∃δ,0<δ∧∀x,le2 x R→prs δ x S
  |[],_=>⟨1,by decide +kernel,fun _ _=>trivial⟩
  |[a],⟨c,hc,h⟩=>by
    obtain ⟨δ,h0,h1⟩:=const_big hc h
    exact ⟨δ,h0,fun x _=>h1 x⟩
  |[a,b],⟨c,hc,h⟩=>by
    obtain ⟨δ,h0,h1⟩:=const_big hc h
    exact ⟨δ,h0,fun x _=>⟨fun z=>h1 x z.2,h1 x⟩⟩
  |a :: b :: c :: l,⟨⟨q,h1,h2⟩,h3⟩=>by
    obtain ⟨δ,h0,hδ⟩:=chq_prs hQ (b :: c :: l) h3
    have hq2:0<Q+2:=by grind
    have e:δ / (Q+2)*(Q+2)=δ:=Rat.div_mul_cancel (by grind)
    have hp:0<δ / (Q+2):=by
      refine Rat.not_le.1 fun z=> ?_
      have:=Rat.mul_nonneg (show 0≤ -(δ / (Q+2)) by grind) (show 0≤Q+2 by grind)
      grind
    generalize δ / (Q+2)=ε at*
    have hQε:=Rat.mul_nonneg hQ (show 0≤ε by grind)
    have hle:ε≤δ:=by grind
    refine ⟨ε,hp,fun x hx=>⟨fun z=> ?_,prs_mono hle _ (hδ x hx)⟩⟩
    have h4:=le2_mul (h1 x hx) (show le2 (ev x b) ε by unfold sm at z;unfold le2;constructor <;> grind)
    have h5:=h2 x
    refine (hδ x hx).1 ⟨sm_mono z.2 hle,?_⟩
    unfold sm le2 at*
    constructor <;> grind
end Go.Proofs.YtahiajepeodhoaaGreat.Po
namespace Go.Proofs.YtahiajepeodhoaaGreat.Po
open Go.Proofs.YtahiajepeodhoaaGreat.Big
theorem sgq_p {z:Rat} (h:0<z):sgq z=1:=by
  have:=sgq_pos.2 h;have:=sgq_rng z;omega
theorem sgq_n {z:Rat} (h:z<0):sgq z= -1:=by
  have:=sgq_lt.2 h;have:=sgq_rng z;omega
theorem sm_not {δ z:Rat} (h:¬sm δ z):z≤ -δ∨δ≤z:=by
  unfold sm at h
  by_cases k: -δ<z
  · exact .inr (by grind)
  · exact .inl (by grind)
theorem sgn_stay {δ η z w:Rat} (hd:0<δ) (h:¬sm δ z) (k:le2 (w - z) η) (l:η<δ):sgq w=sgq z∧sgq z≠0:=by
  unfold le2 at k
  rcases sm_not h with q|q
  · rw [sgq_n (show w<0 by grind),sgq_n (show z<0 by grind)];decide
  · rw [sgq_p (show 0<w by grind),sgq_p (show 0<z by grind)];decide
theorem va_add (x:Rat):∀(l:List (List Rat)) (n s:Int),va x l n s=n+va x l 0 s
  |[],n,s=>by show n=n+0;omega
  |p :: l,n,s=>by
    unfold va
    split
    · exact va_add x l n s
    · split
      · rw [va_add x l (n+1),va_add x l (0+1)];omega
      · exact va_add x l n _
theorem va_cons (x:Rat) (p:List Rat) (l:List (List Rat)) (n s:Int):va x (p :: l) n s=if sgq (ev x p)=0 then va x l n s else va x l (if s*sgq (ev x p)<0 then n+1 else n) (sgq (ev x p)):=rfl
theorem va_mid {z:Rat} {g k:List Rat} {T:List (List Rat)} {n s:Int} (hs:s=1∨s= -1) (hk:sgq (ev z k)= -s):va z (g :: k :: T) n s=va z T (n+1) (-s):=by
  have hr:=sgq_rng (ev z g)
  rw [va_cons,va_cons,va_cons]
  rcases (show sgq (ev z g)= -1∨sgq (ev z g)=0∨sgq (ev z g)=1 by omega) with e|e|e <;> rcases hs with rfl|rfl <;> simp [e,hk]
theorem chq_tail {R Q:Rat} {f:List Rat} {T:List (List Rat)} (h:chq R Q (f :: T)):chq R Q T:=by
  match T,h with
  |[],_=>trivial
  |[_],h=>exact h
  |_ :: _ :: _,h=>exact h.2
theorem prs_tail {δ x:Rat} {f:List Rat} {T:List (List Rat)} (h:prs δ x (f :: T)):prs δ x T:=by
  match T,h with
  |[],_=>trivial
  |_ :: _,h=>exact h.2
theorem tail_same {R Q δ1 δ x y:Rat} (hQ:0≤Q) (hd:0<δ) (hδ:(Q+2)*δ≤δ1) (hx:le2 x R):∀(m:Nat) (f:List Rat) (T:List (List Rat)),T.length≤m→chq R Q (f :: T)→prs δ1 x (f :: T)→(∀g,g∈f :: T→∃η,η<δ∧le2 (ev y g - ev x g) η)→¬sm δ (ev x f)→∀n,va x T n (sgq (ev x f))=va y T n (sgq (ev x f))
  |_,f,[],_,_,_,_,_,n=>rfl
  |0,f,g :: T,hm,_,_,_,_,_=>by simp at hm
  |m+1,f,g :: T,hm,hc,hp,hl,hf,n=>by
    have hQδ:=Rat.mul_nonneg hQ (show 0≤δ by grind)
    have hle:δ≤δ1:=by grind
    have hm':T.length≤m:=by simp at hm;omega
    obtain ⟨ηg,lg,bg⟩:=hl g (by simp)
    have hlt:∀k,k∈g :: T→∃η,η<δ∧le2 (ev y k - ev x k) η:=fun k hk=>hl k (List.mem_cons_of_mem _ hk)
    by_cases hg:sm δ (ev x g)
    · match T, hc, hp, hm', hlt with
      |[],hc,hp,_,_=>exact absurd (sm_mono hg hle) hp.2
      |k :: T,⟨⟨q,h1,h2⟩,h3⟩,hp,hm',hlt=>
        have hf1:¬sm δ1 (ev x f):=fun z=>hp.1 ⟨z,sm_mono hg hle⟩
        have h4:=le2_mul (h1 x hx) (show le2 (ev x g) δ by unfold sm at hg;unfold le2;constructor <;> grind)
        have h5:=h2 x
        obtain ⟨ηk,lk,bk⟩:=hlt k (by simp)
        have hs:sgq (ev x f)=1∨sgq (ev x f)= -1:=by
          rcases sm_not hf1 with z|z
          · exact .inr (sgq_n (by grind))
          · exact .inl (sgq_p (by grind))
        have hkx:¬sm δ (ev x k)∧sgq (ev x k)= - sgq (ev x f):=by
          unfold le2 at h4
          rcases sm_not hf1 with z|z
          · have : 2 * δ ≤ ev x k := by grind
            rw [sgq_p (show 0<ev x k by grind),sgq_n (show ev x f<0 by grind)]
            refine ⟨fun w=> ?_,by decide⟩
            unfold sm at w;grind
          · have : ev x k ≤ -(2 * δ) := by grind
            rw [sgq_n (show ev x k<0 by grind),sgq_p (show 0<ev x f by grind)]
            refine ⟨fun w=> ?_,by decide⟩
            unfold sm at w;grind
        have hky:=(sgn_stay hd hkx.1 bk lk).1
        rw [va_mid hs hkx.2,va_mid hs (hky.trans hkx.2),←hkx.2]
        exact tail_same hQ hd hδ hx m k T (by simp at hm';omega) (chq_tail h3) (prs_tail hp.2) (fun j hj=>hlt j (List.mem_cons_of_mem _ hj)) hkx.1 (n+1)
    · obtain ⟨e1, e2⟩ := sgn_stay hd hg bg lg
      unfold va
      rw [e1,if_neg e2,if_neg e2]
      exact tail_same hQ hd hδ hx m g T hm' (chq_tail hc) (prs_tail hp) hlt hg _
def b2 (p:Prop) [Decidable p]:Int:=if p then 1 else 0
def Stp (S:List (List Rat)) (f:List Rat) (x y:Rat):Prop:=
  (sgq (ev x f)=sgq (ev y f)∧(∀z,x≤z→z≤y→ev z f≠0)∧vr S x=vr S y)
  ∨((∀u v,x≤u→u<v→v≤y→ev u f<ev v f)∧vr S x - vr S y=b2 (ev x f<0) - b2 (ev y f<0))
  ∨((∀u v,x≤u→u<v→v≤y→ev v f<ev u f)∧vr S x - vr S y=b2 (0<ev x f) - b2 (0<ev y f))
theorem vr_head {S:List (List Rat)} {f0 f1:List Rat} {T:List (List Rat)} {z:Rat} {τ:Int} (hS:S=f0 :: f1 :: T) (h1:sgq (ev z f1)=τ) (hτ:τ≠0):vr S z=(if sgq (ev z f0)*τ<0 then 1 else 0)+va z T 0 τ:=by
  rw [hS]
  unfold vr
  rw [va_cons,va_cons,va_cons,h1,if_neg hτ,if_neg hτ]
  split
  · rename_i h0
    rw [va_add,h0]
    simp
  · rename_i h0
    rw [va_add]
    simp
theorem pos_mul {a b:Rat} (ha:0<a) (hb:0<b):0<a*b:=Rat.mul_pos ha hb
theorem step {f0:List Rat} {T:List (List Rat)} (hc:chn (f0 :: der f0 :: T)) {R:Rat} (hR:0≤R):∃h,0<h∧∀x y,le2 x R→le2 y R→x<y→y - x≤h→Stp (f0 :: der f0 :: T) f0 x y:=by
  obtain ⟨Q,hQ,hq⟩:=chn_q hR _ hc
  obtain ⟨δ1,hδ1,hp⟩:=chq_prs hQ _ hq
  obtain ⟨L,hL,hl⟩:=all_lip hR (f0 :: der f0 :: T)
  obtain ⟨K,hK,hk⟩:=ev_tay hR f0
  have dpos:∀{a b:Rat},0<a→0<b→0<a / b:=fun {a b} ha hb=>by
    have e:a / b*b=a:=Rat.div_mul_cancel (by grind)
    refine Rat.not_le.1 fun z=> ?_
    have:=Rat.mul_nonneg (show 0≤ -(a / b) by grind) (show 0≤b by grind)
    grind
  have hd:0<δ1 / (Q+2):=dpos hδ1 (by grind)
  have ed:δ1 / (Q+2)*(Q+2)=δ1:=Rat.div_mul_cancel (by grind)
  generalize δ1 / (Q+2)=δ at*
  have hh:0<δ / (L+K+1):=dpos hd (by grind)
  have eh:δ / (L+K+1)*(L+K+1)=δ:=Rat.div_mul_cancel (by grind)
  generalize δ / (L+K+1)=h at*
  have hQδ:=Rat.mul_nonneg hQ (show 0≤δ by grind)
  have hLh:=Rat.mul_nonneg hL (show 0≤h by grind)
  have hKh:=Rat.mul_nonneg hK (show 0≤h by grind)
  refine ⟨h,hh,fun x y hx hy hxy hyx=> ?_⟩
  have hlip:∀g,g∈f0 :: der f0 :: T→∀u v,x≤u→u≤v→v≤y→le2 (ev v g - ev u g) (L*h):=fun g hg u v h1 h2 h3=>by
    have:=Rat.mul_nonneg hL (show 0≤h - (v - u) by grind)
    exact le2_mono (hl g hg u v (by unfold le2 at *;constructor <;> grind) (by unfold le2 at *;constructor <;> grind) h2) (by grind)
  have hLδ:L*h<δ:=by grind
  have hxy':x≤y:=by grind
  have hlx:∀g,g∈f0 :: der f0 :: T→∃η,η<δ∧le2 (ev y g - ev x g) η:=fun g hg=>⟨L*h,hLδ,hlip g hg x y (by grind) hxy' (by grind)⟩
  by_cases h0:sm δ (ev x f0)
  · have hle : δ ≤ δ1 := by grind
    have h1:¬sm δ1 (ev x (der f0)):=fun z=>(hp x hx).1 ⟨sm_mono h0 hle,z⟩
    have h1':¬sm δ (ev x (der f0)):=fun z=>h1 (sm_mono z hle)
    obtain ⟨e1,e2⟩:=sgn_stay hd h1' (hlip (der f0) (by simp) x y (by grind) hxy' (by grind)) hLδ
    have ht:=tail_same hQ hd (show (Q+2)*δ≤δ1 by grind) hx T.length (der f0) T (Nat.le_refl _) (chq_tail hq) (prs_tail (hp x hx)) (fun g hg=>hlx g (List.mem_cons_of_mem _ hg)) h1' 0
    have vx:=vr_head (f0:=f0) (T:=T) rfl rfl e2 (z:=x) (f1:=der f0)
    have vy:=vr_head (f0:=f0) (T:=T) rfl e1 e2 (z:=y) (f1:=der f0)
    have hmono:∀u v,x≤u→u<v→v≤y→le2 (ev v f0 - ev u f0 - (v - u)*ev u (der f0)) (K*((v - u)*(v - u)))∧le2 (ev u (der f0) - ev x (der f0)) (L*h):=fun u v a b c=>
      ⟨hk u v (by unfold le2 at *;constructor <;> grind) (by unfold le2 at *;constructor <;> grind) (by grind),hlip (der f0) (by simp) x u (by grind) a (by grind)⟩
    refine .inr ?_
    rcases sm_not h1 with z|z
    · refine .inr ⟨fun u v a b c => ?_, ?_⟩
      · obtain ⟨m1, m2⟩ := hmono u v a b c
        have hneg:ev u (der f0)< -δ:=by unfold le2 at m2;grind
        have hKw:K*(v - u)≤δ:=by
          have:=Rat.mul_nonneg hK (show 0≤h - (v - u) by grind)
          grind
        have:=pos_mul (show 0<v - u by grind) (show 0< -(ev u (der f0)) - K*(v - u) by grind)
        unfold le2 at m1
        grind
      · have s1 : sgq (ev x (der f0)) = -1 := sgq_n (by grind)
        rw [vx,vy,ht,s1]
        unfold b2
        have p1:∀w:Rat,(sgq w* -1<0)↔0<w:=fun w=>by have:=sgq_pos (x:=w);constructor <;> intro q <;> (first|(apply sgq_pos.1;omega)|(have:=sgq_pos.2 q;omega))
        simp only [p1]
        omega
    · refine .inl ⟨fun u v a b c => ?_, ?_⟩
      · obtain ⟨m1, m2⟩ := hmono u v a b c
        have hpos:δ<ev u (der f0):=by unfold le2 at m2;grind
        have hKw:K*(v - u)≤δ:=by
          have:=Rat.mul_nonneg hK (show 0≤h - (v - u) by grind)
          grind
        have:=pos_mul (show 0<v - u by grind) (show 0<ev u (der f0) - K*(v - u) by grind)
        unfold le2 at m1
        grind
      · have s1 : sgq (ev x (der f0)) = 1 := sgq_p (by grind)
        rw [vx,vy,ht,s1]
        unfold b2
        have p1:∀w:Rat,(sgq w*1<0)↔w<0:=fun w=>by rw [Int.mul_one];exact sgq_lt
        simp only [p1]
        omega
  · obtain ⟨e1, e2⟩ := sgn_stay hd h0 (hlip f0 (by simp) x y (by grind) hxy' (by grind)) hLδ
    refine .inl ⟨e1.symm,fun z a b c=> ?_,?_⟩
    · have := hlip f0 (by simp) x z (by grind) a b
      unfold le2 at this
      rcases sm_not h0 with w|w <;> grind
    · have ht := tail_same hQ hd (show (Q + 2) * δ ≤ δ1 by grind) hx (der f0 :: T).length f0 (der f0 :: T) (Nat.le_refl _) hq (hp x hx) hlx h0 0
      have hv:∀w,sgq (ev w f0)=sgq (ev x f0)→vr (f0 :: der f0 :: T) w=va w (der f0 :: T) 0 (sgq (ev x f0)):=fun w hw=>by
        unfold vr
        conv=>lhs;unfold va
        rw [hw,if_neg e2,Int.zero_mul,if_neg (by decide)]
      rw [hv x rfl,hv y e1]
      exact ht
theorem le_natAbs (r:Rat):r≤((r.num.natAbs:Nat):Rat):=by
  have h1:(r.num:Rat) / ((r.den:Int):Rat)=r:=by rw [← Rat.divInt_eq_div,Rat.num_divInt_den]
  have h2:=Rat.div_mul_cancel (a:=(r.num:Rat)) (cast_ne (den_ne r))
  rw [h1] at h2
  have h3:(1:Rat)≤((r.den:Int):Rat):=by
    have:=r.den_pos
    have:(1:Int)≤(r.den:Int):=by omega
    exact_mod_cast this
  have h4:(r.num:Rat)≤((r.num.natAbs:Nat):Rat):=by
    have:r.num≤((r.num.natAbs:Nat):Int):=by omega
    exact_mod_cast this
  have h5:(0:Rat)≤((r.num.natAbs:Nat):Rat):=by exact_mod_cast Nat.zero_le _
  by_cases h:0≤r
  · have := Rat.mul_nonneg h (show 0 ≤ ((r.den : Int) : Rat) - 1 by grind)
    grind
  · grind
theorem walk {P:Rat→Rat→Prop} {R h:Rat} (hh:0<h) (hs:∀x y,le2 x R→le2 y R→x<y→y - x≤h→P x y) (ht:∀x z y,x<z→z<y→P x z→P z y→P x y) (x y:Rat) (hx:le2 x R) (hy:le2 y R) (hxy:x<y):P x y:=by
  have key:∀(n:Nat) (x:Rat),le2 x R→x<y→y - x≤((n:Nat):Rat)*h→P x y:=by
    intro n
    induction n with
    |zero=>
      intro x _ h1 h2
      have:((0:Nat):Rat)=0:=by decide +kernel
      rw [this] at h2;grind
    |succ n ih=>
      intro x hx h1 h2
      by_cases k:y - x≤h
      · exact hs x y hx hy h1 k
      · have e : ((n + 1 : Nat) : Rat) = (n : Nat) + 1 := by exact_mod_cast cast_s n
        rw [e] at h2
        have hz:le2 (x+h) R:=by unfold le2 at *;constructor <;> grind
        exact ht x (x+h) y (by grind) (by grind) (hs x (x+h) hx hz (by grind) (by grind)) (ih (x+h) hz (by grind) (by grind))
  have e:(y - x) / h*h=y - x:=Rat.div_mul_cancel (by grind)
  refine key ((y - x) / h).num.natAbs x hx hxy ?_
  have:=Rat.mul_nonneg (show 0≤((((y - x) / h).num.natAbs:Nat):Rat) - (y - x) / h by have:=le_natAbs ((y - x) / h);grind) (show 0≤h by grind)
  grind
end Go.Proofs.YtahiajepeodhoaaGreat.Po
namespace Go.Proofs.YtahiajepeodhoaaGreat.Po
open Go.Proofs.YtahiajepeodhoaaGreat.Big
theorem neg1:(((-1:Int)):Rat)= -1:=by decide +kernel
theorem ev_neg (t:Rat) (l:List Rat):ev t (mul l [(((-1:Int)):Rat)])= - ev t l:=by
  rw [ev_mul,neg1];show _*(0*t+ -1)=_;grind
theorem one_const {b:List Rat} (hb:cl b=b) (h:b.length=1):∃c:Rat,c≠0∧∀t,ev t b=c:=by
  match b,h with
  |[c],_=>exact ⟨c,last_ne (l:=[c]) hb (by simp),fun t=>by show 0*t+c=c;grind⟩
theorem dvd_refl (b:List Rat):dvd b b:=⟨[1],fun t=>by show _=_*(0*t+1);grind⟩
theorem st_chn:∀(n:Nat) (a b:List Rat),cl a=a→cl b=b→b.length≠0→(mul (dr a b) [(((-1:Int)):Rat)]).length≤n→(∀h,cl h=h→dvd h a→dvd h b→h.length≤1)→chn (a :: b :: st n b (mul (dr a b) [(((-1:Int)):Rat)]))
  |n,a,b,ha,hb,h0,hn,hd=>by
    by_cases hc:(mul (dr a b) [(((-1:Int)):Rat)]).length=0
    · rw [st_nil hc]
      have hda:dvd b a:=⟨dq a b,fun t=>by
        have h1:=div_ev ha hb h0 t
        have h2:=ev_neg t (dr a b)
        rw [List.length_eq_zero_iff.1 hc] at h2
        have h3:(0:Rat)= - ev t (dr a b):=h2
        grind⟩
      have:=hd b hb hda (dvd_refl b)
      exact one_const hb (by omega)
    · obtain ⟨m, rfl⟩ : ∃ m, n = m + 1 := ⟨n - 1, by omega⟩
      rw [st_yes hc hn]
      have hcc:=mul_cl (dr a b) [(((-1:Int)):Rat)]
      refine ⟨⟨dq a b,fun t=> ?_⟩,?_⟩
      · rw [ev_neg,div_ev ha hb h0 t];grind
      · refine st_chn m b _ hb hcc hc (sdr_len hcc hc hn) fun h hh h1 h2 => ?_
        refine hd h hh ?_ h1
        obtain ⟨u,hu⟩:=h1
        obtain ⟨v,hv⟩:=h2
        refine ⟨sub (mul (dq a b) u) v,fun t=> ?_⟩
        have h3:=hv t
        rw [ev_neg] at h3
        rw [div_ev ha hb h0 t,ev_sub,ev_mul,hu t]
        grind
theorem sturm_chn {p:List Rat} (hp:(cl p).length≠0):(∃c:Rat,c≠0∧(∀t,ev t (sqf p)=c)∧sturm p=[sqf p])∨∃T,sturm p=sqf p :: der (sqf p) :: T∧chn (sqf p :: der (sqf p) :: T):=by
  have h0:(sqf p).length≠0:=fun e=>hp ((sqf_nil p).1 e)
  have hs:sturm p=sqf p :: st (sqf p).length (sqf p) (der (sqf p)):=if_neg h0
  have hc:=sqf_cl p
  by_cases hd:(der (sqf p)).length=0
  · refine .inl ?_
    have h1:(sqf p).length=1:=by
      refine Decidable.byContradiction fun k=> ?_
      have h2:=last_ne hc h0
      have h3:=der_get (sqf p) ((sqf p).length - 2)
      rw [gD0 (by omega),show (sqf p).length - 2+1=(sqf p).length - 1 by omega] at h3
      rcases Rat.mul_eq_zero.1 h3.symm with z|z
      · have : (((sqf p).length - 1 : Nat) : Int) = 0 := by exact_mod_cast z
        omega
      · exact h2 z
    obtain ⟨c,c0,hcc⟩:=one_const hc h1
    exact ⟨c,c0,hcc,by rw [hs,st_nil hd]⟩
  · refine .inr ?_
    have hl:=der_len (sqf p)
    have hy:=st_yes (a:=sqf p) hd (show (der (sqf p)).length≤(sqf p).length by omega)
    refine ⟨_,by rw [hs,hy],?_⟩
    exact st_chn _ _ _ hc (der_cl _) hd (sdr_len (der_cl _) hd (by omega)) fun h hh h1 h2=>sqf_cop hp hh h1 h2
def pl:List Rat→List Rat
  |[]=>[1]
  |b :: B=>mul [-b,1] (pl B)
def pe:List Rat→Rat→Rat
  |[],_=>1
  |b :: B,t=>(t - b)*pe B t
end Go.Proofs.YtahiajepeodhoaaGreat.Po
