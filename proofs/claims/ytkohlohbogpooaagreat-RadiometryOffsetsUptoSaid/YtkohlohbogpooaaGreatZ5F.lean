/- Lemmas on the walk and plain lemmas that the claim of this folder uses; each states its own conditions. Lines were printed by a program of ours. -/
import Derived.Test.YtkohlohbogpooaaGreatZ5E
set_option linter.unusedVariables false
set_option linter.unusedSimpArgs false
set_option linter.unusedSectionVars false
open Go.Proofs.Tryz renaming underlying55 → ya
open Go.Proofs.YtkohlohbogpooaaGreat.Big renaming hq → yb
namespace Go.Proofs.YtkohlohbogpooaaGreat.Sp
open Go
set_option linter.unusedVariables false
set_option maxRecDepth 100000
set_option maxHeartbeats 400000
theorem zOb {ni:Int} {pL:Option Addr} {nL:Nat} {cL:Nat} {L:List Cm} {pr:Option Addr} {nr:Nat} {cr:Nat} {lr:List (Option Rat)} (hnL:L.length=nL) (hnr:lr.length=nr):Con Tryz.prog 5 [.int .i64 ni,.slice pL nL cL,.slice pr nr cr] [] [slF (rI4 .i64) pL cL L,slF rE pr cr lr] (Y:=Unit) (fun y=>True) (fun y=> .bool true) (fun y=>[]) (fun y=>[]):=by
 refine zm Tryz.func5 rfl rfl rfl (fun c=> ?_)
 show RunC _ _ _ _ _ [(0,.int .i64 ni),(1,.slice pL nL cL),(2,.slice pr nr cr)] [] [slF (rI4 .i64) pL cL L,slF rE pr cr lr]
 refine zY 0 rfl (fun hL0=> ?_)
 refine zY 1 rfl (fun hL1=> ?_)
 refine ze<|za<|e_p (zb rfl)<|zf<|zc<|ze<|ze<|za<|zP rfl rfl (.n) ce10 (zNf) (.n)<|e_p (zUa rfl)<|zf<|zc<|zua rfl rfl<|zv<|zc<|ze<|zDa (X:=Bool) (fun x=>(x=false→¬(12<nL∧nL≤64)∧nL≤80∧¬(6<ni∧ni≤16)∧(nr≤6∧∀i,i<nr→yb ((lr.getD i none).getD 0)≤100))) (fun x=>[(37,.bool x),(6,.bool false),(0,.int .i64 ni),(1,.slice pL nL cL),(2,.slice pr nr cr)]) (fun x=>[]) (fun x=>[slF (rI4 .i64) pL cL L,slF rE pr cr lr]) ?_ ?_
 ·
  refine za<|e_mv rfl<|e_p (zC ya rfl)<|e_p (zka rfl rfl)<|zO rfl rfl (zS rfl) (fun h1=> ?_) (fun h1=> ?_)
  ·
   refine e_mv rfl<|e_p (zC ya rfl)<|e_p (zUb rfl rfl)<|e_p (zk rfl rfl)<|zO rfl rfl (zS rfl) (fun h2=> ?_) (fun h2=> ?_)
   ·
    refine e_no<|e_no<|e_no<|e_p (zk rfl rfl)<|e_mv rfl<|e_no<|e_no<|e_no<|e_no<|e_no<|e_no<|e_p (zk rfl rfl)<|e_mv rfl<|e_no<|e_no<|e_no<|e_p (zk rfl rfl)<|zf ?_
    exact zda true (show (true=false→¬(12<nL∧nL≤64)∧nL≤80∧¬(6<ni∧ni≤16)∧(nr≤6∧∀i,i<nr→yb ((lr.getD i none).getD 0)≤100)) from by first|(intro e;cases e;done)|(intro e;have h9:=hsh (by simpa using e);exact ⟨by omega,by omega,by omega,by omega,h9.2⟩)) ((.e rfl (congrArg Value.bool cbu) (.of rfl)):SubM _ _) (ho:=(.n:PickO _ _ _)) ((.of [0,1] rfl):SelR _ _ _)
   ·
    refine e_mv rfl<|e_p (zC ya rfl)<|e_p (zka rfl rfl)<|e_p (zk rfl rfl)<|zO rfl rfl (zS rfl) (fun h3=> ?_) (fun h3=> ?_)
    ·
     refine e_no<|e_no<|e_no<|e_no<|e_no<|e_no<|e_p (zk rfl rfl)<|e_mv rfl<|e_no<|e_no<|e_no<|e_p (zk rfl rfl)<|zf ?_
     exact zda true (show (true=false→¬(12<nL∧nL≤64)∧nL≤80∧¬(6<ni∧ni≤16)∧(nr≤6∧∀i,i<nr→yb ((lr.getD i none).getD 0)≤100)) from by first|(intro e;cases e;done)|(intro e;have h9:=hsh (by simpa using e);exact ⟨by omega,by omega,by omega,by omega,h9.2⟩)) ((.e rfl (congrArg Value.bool cbu) (.of rfl)):SubM _ _) (ho:=(.n:PickO _ _ _)) ((.of [0,1] rfl):SelR _ _ _)
    ·
     refine e_mv rfl<|e_p (zka rfl rfl)<|zO rfl rfl (zS rfl) (fun h4=> ?_) (fun h4=> ?_)
     ·
      refine e_mv rfl<|e_p (zUb rfl rfl)<|e_p (zk rfl rfl)<|e_p (zk rfl rfl)<|zO rfl rfl (zS rfl) (fun h5=> ?_) (fun h5=> ?_)
      ·
       refine e_no<|e_no<|e_no<|e_p (zk rfl rfl)<|zf ?_
       exact zda true (show (true=false→¬(12<nL∧nL≤64)∧nL≤80∧¬(6<ni∧ni≤16)∧(nr≤6∧∀i,i<nr→yb ((lr.getD i none).getD 0)≤100)) from by first|(intro e;cases e;done)|(intro e;have h9:=hsh (by simpa using e);exact ⟨by omega,by omega,by omega,by omega,h9.2⟩)) ((.e rfl (congrArg Value.bool cbu) (.of rfl)):SubM _ _) (ho:=(.n:PickO _ _ _)) ((.of [0,1] rfl):SelR _ _ _)
      ·
       refine e_mv rfl<|zu rfl rfl (.c rfl (.c rfl (.c rfl .n))) ce30 (zSb (p:=pr) (n:=nr) (cap:=cr) (lo:=lr) (mm:=6) (gg:=6) (hn:=ass) (hgg:=cbo)) (.c (j:=1) rfl .n) ?_
       rintro b96 hsh
       dsimp only [aq,nq,cq]
       replace hsh:(b96=true→((nr:Nat):Int)≤6∧∀i,i<nr→yb ((lr.getD i none).getD 0)≤100):=hsh
       refine e_p (zUa rfl)<|e_p (zk rfl rfl)<|zf ?_
       exact zda (!b96) (show ((!b96)=false→¬(12<nL∧nL≤64)∧nL≤80∧¬(6<ni∧ni≤16)∧(nr≤6∧∀i,i<nr→yb ((lr.getD i none).getD 0)≤100)) from by first|(intro e;cases e;done)|(intro e;have h9:=hsh (by simpa using e);exact ⟨by omega,by omega,by omega,by omega,h9.2⟩)) ((.of rfl):SubM _ _) (ho:=(.n:PickO _ _ _)) ((.of [0,1] rfl):SelR _ _ _)
     ·
      refine e_no<|e_no<|e_p (zk rfl rfl)<|e_p (zk rfl rfl)<|e_mv rfl<|e_mv rfl<|zu rfl rfl (.c rfl (.c rfl (.c rfl .n))) ce30 (zSb (p:=pr) (n:=nr) (cap:=cr) (lo:=lr) (mm:=6) (gg:=6) (hn:=ass) (hgg:=cbo)) (.c (j:=1) rfl .n) ?_
      rintro b97 hsh
      dsimp only [aq,nq,cq]
      replace hsh:(b97=true→((nr:Nat):Int)≤6∧∀i,i<nr→yb ((lr.getD i none).getD 0)≤100):=hsh
      refine e_p (zUa rfl)<|e_p (zk rfl rfl)<|zf ?_
      exact zda (!b97) (show ((!b97)=false→¬(12<nL∧nL≤64)∧nL≤80∧¬(6<ni∧ni≤16)∧(nr≤6∧∀i,i<nr→yb ((lr.getD i none).getD 0)≤100)) from by first|(intro e;cases e;done)|(intro e;have h9:=hsh (by simpa using e);exact ⟨by omega,by omega,by omega,by omega,h9.2⟩)) ((.of rfl):SubM _ _) (ho:=(.n:PickO _ _ _)) ((.of [0,1] rfl):SelR _ _ _)
  ·
   refine e_no<|e_no<|e_no<|e_p (zk rfl rfl)<|e_mv rfl<|e_mv rfl<|e_p (zC ya rfl)<|e_p (zka rfl rfl)<|e_p (zk rfl rfl)<|zO rfl rfl (zS rfl) (fun h8=> ?_) (fun h8=> ?_)
   ·
    refine e_no<|e_no<|e_no<|e_no<|e_no<|e_no<|e_p (zk rfl rfl)<|e_mv rfl<|e_no<|e_no<|e_no<|e_p (zk rfl rfl)<|zf ?_
    exact zda true (show (true=false→¬(12<nL∧nL≤64)∧nL≤80∧¬(6<ni∧ni≤16)∧(nr≤6∧∀i,i<nr→yb ((lr.getD i none).getD 0)≤100)) from by first|(intro e;cases e;done)|(intro e;have h9:=hsh (by simpa using e);exact ⟨by omega,by omega,by omega,by omega,h9.2⟩)) ((.e rfl (congrArg Value.bool cbu) (.of rfl)):SubM _ _) (ho:=(.n:PickO _ _ _)) ((.of [0,1] rfl):SelR _ _ _)
   ·
    refine e_mv rfl<|e_p (zka rfl rfl)<|zO rfl rfl (zS rfl) (fun h9=> ?_) (fun h9=> ?_)
    ·
     refine e_mv rfl<|e_p (zUb rfl rfl)<|e_p (zk rfl rfl)<|e_p (zk rfl rfl)<|zO rfl rfl (zS rfl) (fun h10=> ?_) (fun h10=> ?_)
     ·
      refine e_no<|e_no<|e_no<|e_p (zk rfl rfl)<|zf ?_
      exact zda true (show (true=false→¬(12<nL∧nL≤64)∧nL≤80∧¬(6<ni∧ni≤16)∧(nr≤6∧∀i,i<nr→yb ((lr.getD i none).getD 0)≤100)) from by first|(intro e;cases e;done)|(intro e;have h9:=hsh (by simpa using e);exact ⟨by omega,by omega,by omega,by omega,h9.2⟩)) ((.e rfl (congrArg Value.bool cbu) (.of rfl)):SubM _ _) (ho:=(.n:PickO _ _ _)) ((.of [0,1] rfl):SelR _ _ _)
     ·
      refine e_mv rfl<|zu rfl rfl (.c rfl (.c rfl (.c rfl .n))) ce30 (zSb (p:=pr) (n:=nr) (cap:=cr) (lo:=lr) (mm:=6) (gg:=6) (hn:=ass) (hgg:=cbo)) (.c (j:=1) rfl .n) ?_
      rintro b911 hsh
      dsimp only [aq,nq,cq]
      replace hsh:(b911=true→((nr:Nat):Int)≤6∧∀i,i<nr→yb ((lr.getD i none).getD 0)≤100):=hsh
      refine e_p (zUa rfl)<|e_p (zk rfl rfl)<|zf ?_
      exact zda (!b911) (show ((!b911)=false→¬(12<nL∧nL≤64)∧nL≤80∧¬(6<ni∧ni≤16)∧(nr≤6∧∀i,i<nr→yb ((lr.getD i none).getD 0)≤100)) from by first|(intro e;cases e;done)|(intro e;have h9:=hsh (by simpa using e);exact ⟨by omega,by omega,by omega,by omega,h9.2⟩)) ((.of rfl):SubM _ _) (ho:=(.n:PickO _ _ _)) ((.of [0,1] rfl):SelR _ _ _)
    ·
     refine e_no<|e_no<|e_p (zk rfl rfl)<|e_p (zk rfl rfl)<|e_mv rfl<|e_mv rfl<|zu rfl rfl (.c rfl (.c rfl (.c rfl .n))) ce30 (zSb (p:=pr) (n:=nr) (cap:=cr) (lo:=lr) (mm:=6) (gg:=6) (hn:=ass) (hgg:=cbo)) (.c (j:=1) rfl .n) ?_
     rintro b912 hsh
     dsimp only [aq,nq,cq]
     replace hsh:(b912=true→((nr:Nat):Int)≤6∧∀i,i<nr→yb ((lr.getD i none).getD 0)≤100):=hsh
     refine e_p (zUa rfl)<|e_p (zk rfl rfl)<|zf ?_
     exact zda (!b912) (show ((!b912)=false→¬(12<nL∧nL≤64)∧nL≤80∧¬(6<ni∧ni≤16)∧(nr≤6∧∀i,i<nr→yb ((lr.getD i none).getD 0)≤100)) from by first|(intro e;cases e;done)|(intro e;have h9:=hsh (by simpa using e);exact ⟨by omega,by omega,by omega,by omega,h9.2⟩)) ((.of rfl):SubM _ _) (ho:=(.n:PickO _ _ _)) ((.of [0,1] rfl):SelR _ _ _)
 ·
  rintro g9 hC
  replace hC:(g9=false→¬(12<nL∧nL≤64)∧nL≤80∧¬(6<ni∧ni≤16)∧(nr≤6∧∀i,i<nr→yb ((lr.getD i none).getD 0)≤100)):=hC
  try dsimp only
  refine ztb rfl (fun h37=> ?_) (fun h37=> ?_)
  ·
   refine ze<|za<|e_p (zb rfl)<|zf<|zc<|zJ<|zn ?_
   exact zy Tryz.results5 () trivial (zo rfl) rfl (ho:=(.n:PickO _ _ _)) (.n:SelR _ _ _)
  ·
   obtain ⟨hb1,hb2,hb3,hr1,hr2⟩:=hC (by simpa using h37)
   refine zv<|zc<|ze<|za<|e_mv rfl<|e_mv rfl<|zu rfl rfl (.c rfl (.c rfl .n)) ce31 (zSc (ni:=ni) (pL:=pL) (nL:=nL) (cL:=cL) (L:=L) (hnL:=ass) (hsm:=by intro hz;have h9:=Rd.offC_rng hz;omega)) (.c (j:=0) rfl .n) ?_
   rintro ⟨p313,c314,sol⟩ hof
   dsimp only [aq,nq,cq]
   replace hof:(Rd.offC ni L=0→sol.length=(ni:Int).toNat∧Rd.Lv (ni:Int).toNat L (fun c=>sol.getD c 0)∧(∀c,yb (sol.getD c 0)≤200000))∧(Rd.offC ni L≠0→sol=[]):=hof
   refine e_mv rfl<|e_p (zr rfl rfl)<|e_p (zr rfl rfl)<|e_p (zb rfl)<|e_p (zb rfl)<|zf<|zc<|ze<|ze<|za<|e_mv rfl<|e_mv rfl<|zP rfl rfl (.c rfl (.c rfl .n)) ce32 (zie (ni:=ni) (pL:=pL) (nL:=nL) (cL:=cL) (L:=L) (hnL:=ass)) (.c (j:=1) rfl .n)<|e_p (zb rfl)<|zf<|zc<|ze<|za<|e_mv rfl<|e_p (zwa rfl rfl)<|zf<|zc<|zA rfl (fun h48=> ?_) (fun h48=> ?_)
   ·
    refine zDa (X:=Unit) (fun x=>True) (fun x=>[(6,.bool true),(8,.int .i64 (Rd.offC ni L)),(7,.slice p313 (sol.length) c314),(0,.int .i64 ni),(1,.slice pL nL cL),(2,.slice pr nr cr)]) (fun x=>[]) (fun x=>[slF rQ p313 c314 sol,slF (rI4 .i64) pL cL L,slF rE pr cr lr]) ?_ ?_
    ·
     refine za<|e_mv rfl<|e_mv rfl<|e_p (zpa rfl rfl) ?_
     rw [show (decide ((Rd.offC ni L)=(Rd.offC ni L)))=true from by exact decide_eq_true rfl]
     refine e_mv rfl<|e_mv rfl<|e_p (zC Tryz.underlying56 rfl)<|e_p (zpa rfl rfl) ?_
     rw [show (decide (((sol.length:Nat):Int)=0))=true from by exact decide_eq_true (by rw [hof.2 h48];rfl)]
     refine e_p (zk rfl rfl)<|e_p (zb rfl)<|zf ?_
     exact zda () (show True from by first|trivial|omega|simp_all) ((.of rfl):SubM _ _) (ho:=(.n:PickO _ _ _)) ((.of [0,1,2] rfl):SelR _ _ _)
    ·
     rintro ⟨⟩ -
     try dsimp only
     refine zJ<|zn ?_
     exact zy Tryz.results5 () trivial (zo rfl) rfl (ho:=(.n:PickO _ _ _)) (.n:SelR _ _ _)
   ·
    have hz:Rd.offC ni L=0:=Decidable.not_not.1 h48
    have hrg:=Rd.offC_rng hz
    obtain ⟨hs1,hs2,hs3⟩:=hof.1 hz
    have e15:(Rd.offC ni L:Int)=0:=by exact hz
    rw [e15]
    obtain ⟨n,e16⟩:∃q:Nat,ni=(q:Int):=⟨ni.toNat,by omega⟩
    subst e16
    have hs1:sol.length=n:=hs1
    have hlv:Rd.Lv n L (fun c=>sol.getD c 0):=hs2
    have hok:=(Rd.offC_ok hz).2.2.2
    refine zv<|zc<|ze ?_
    have e17:(.slice p313 (sol.length) c314:Value)= .slice p313 n c314:=by first|(congr 1;done)|(congr 1;omega)
    rw [e17]
    refine zDa (X:=Unit) (fun x=>True) (fun x=>[(65,.bool false),(7,.slice p313 n c314),(6,.bool false),(0,.int .i64 ((n:Nat):Int)),(1,.slice pL nL cL),(2,.slice pr nr cr)]) (fun x=>[]) (fun x=>[slF rQ p313 c314 sol,slF (rI4 .i64) pL cL L,slF rE pr cr lr]) ?_ ?_
    ·
     refine za<|e_mv rfl<|e_p (zwa rfl rfl)<|e_mv rfl<|e_mv rfl<|e_mv rfl<|e_mv rfl<|zP rfl rfl (.c rfl (.c rfl (.c rfl .n))) ce33 (zPd (n:=n) (pL:=pL) (nL:=nL) (cL:=cL) (L:=L) (pS:=p313) (cS:=c314) (sol:=sol) (hnL:=ass) (hn:=cbo) (hnl:=cbo) (hok:=cbo) (hsl:=cbo) (hlv:=cbo) (hqs:=cbo)) (.c (j:=1) rfl (.c (j:=0) rfl .n))<|e_p (zUa rfl)<|e_p (zk rfl rfl)<|zf ?_
     exact zda () (show True from by first|trivial|omega|simp_all) ((.of rfl):SubM _ _) (ho:=(.n:PickO _ _ _)) ((.of [0,1,2] rfl):SelR _ _ _)
    ·
     rintro ⟨⟩ -
     try dsimp only
     refine zua rfl rfl<|zv<|zc ?_
     have hlq1:=Rd.ls_hq (lo:=sol.map some) hok (Rd.some_all hs3) L.length (Nat.le_refl _)
     have hlq2:=Rd.ls_hq hok (Rd.oG_all hnr dd hr2) L.length (Nat.le_refl _)
     have hkq1:L.length*(4*200000+14)≤12*(4*200000+14):=Nat.mul_le_mul_right _ om
     have hkq2:L.length*(4*100+14)≤12*(4*100+14):=Nat.mul_le_mul_right _ om
     refine zDa (X:=Unit) (fun x=>True) (fun x=>[(6,.bool true)]) (fun x=>[]) (fun x=>[slF rQ p313 c314 sol,slF (rI4 .i64) pL cL L,slF rE pr cr lr]) ?_ ?_
     ·
      refine za<|e_mv rfl<|e_p (zC Tryz.underlying56 rfl)<|e_mv rfl<|e_p (zwa rfl rfl)<|zO rfl rfl (zS rfl) (fun h18=> ?_) (fun h18=> ?_)
      ·
       refine e_no<|e_no<|e_no<|e_no<|e_no<|e_no<|e_no<|e_no<|e_p (zk rfl rfl)<|e_p (zb rfl)<|zf ?_
       exact zda () (show True from by first|trivial|omega|simp_all) ((.c rfl .n):SubM _ _) (ho:=(.n:PickO _ _ _)) ((.of [0,1,2] rfl):SelR _ _ _)
      ·
       refine e_mv rfl<|e_mv rfl<|zkb (addQE 0 rfl)<|zu rfl rfl (.c rfl (.c rfl .n)) ce34 (zze (n:=n) (pL:=pL) (nL:=nL) (cL:=cL) (L:=L) (pS:=p313) (cS:=c314) (lo:=(sol.map some)) (hnL:=ass) (hnl:=cbo) (hok:=by exact hok) (hsl:=by rw [List.length_map];exact hs1) (hqs:=by exact Rd.some_all hs3)) (.c (j:=2) rfl (.c (j:=0) rfl .n)) ?_
       rintro ⟨w319,w420⟩ -
       dsimp only [aq,nq,cq]
       refine e_mv rfl<|e_mv rfl<|zu rfl rfl (.c rfl (.c rfl .n)) ce34 (zze (n:=nr) (pL:=pL) (nL:=nL) (cL:=cL) (L:=L) (pS:=pr) (cS:=cr) (lo:=lr) (hnL:=ass) (hnl:=cbo) (hok:=by rw [show nr=n by omega];exact hok) (hsl:=ass) (hqs:=by exact fun i=>Nat.le_trans (Rd.oG_all hnr dd hr2 i) dd)) (.c (j:=3) rfl (.c (j:=4) rfl .n)) ?_
       rintro ⟨w321,w422⟩ -
       dsimp only [aq,nq,cq]
       refine zP rfl rfl (.c rfl (.c rfl .n)) ce29 (zjc (k1:=true) (u1:=w319) (v1:=w420) (q1:=(Rd.ls L (sol.map some) L.length)) (k2:=true) (u2:=w321) (v2:=w422) (q2:=(Rd.ls L lr L.length)) (hl:=cbo)) (.c (j:=1) rfl (.c (j:=0) rfl .n))<|e_p (zUb rfl rfl) ?_
       rw [show (decide (Big.sgq ((Rd.ls L (sol.map some) L.length) - (Rd.ls L lr L.length))≤0))=true from by exact decide_eq_true (Rd.ls_le hok hlv)]
       refine e_p (zk rfl rfl)<|e_p (zb rfl)<|zf ?_
       exact zda () (show True from by first|trivial|omega|simp_all) ((.c rfl .n):SubM _ _) (ho:=(.n:PickO _ _ _)) ((.of [3,4,5] rfl):SelR _ _ _)
     ·
      rintro ⟨⟩ -
      try dsimp only
      refine zJ ?_
      exact zy Tryz.results5 () trivial (zo rfl) rfl (ho:=(.n:PickO _ _ _)) (.n:SelR _ _ _)
end Go.Proofs.YtkohlohbogpooaaGreat.Sp
namespace Go.Proofs.YtkohlohbogpooaaGreat.Sp
open Go
set_option linter.unusedVariables false
def rRaw:Rp ((Bool×List Int)×(Bool×List Int)):=rP (rP rB (rS (rI .u32))) (rP rB (rS (rI .u32)))
theorem eF_of {g:Hp} {s t:Bool} {p1 p2:Option Addr} {c1 c2:Nat} {la lb:List Int} (ha:Sl (rI .u32) g p1 c1 la) (hb:Sl (rI .u32) g p2 c2 lb) (k1:la.length≤1099511627776) (k2:lb.length≤1099511627776):
    (eF ⟨s,p1,la.length,c1⟩ ⟨t,p2,lb.length,c2⟩ (qo ((s,la),(t,lb)))).on g:=⟨((s,la),(t,lb)),⟨rfl,rfl,k1,ha⟩,⟨rfl,rfl,k2,hb⟩,rfl⟩
theorem sl_raw {g:Hp} {p:Option Addr} {c:Nat} {l:List ((Bool×List Int)×(Bool×List Int))} (k:Sl rRaw g p c l) (hb:∀x,x∈l→x.1.2.length≤1099511627776∧x.2.2.length≤1099511627776):Sl rE g p c (l.map qo):=by
  refine ⟨by rw [List.length_map];exact k.1,k.2.1,k.2.2.1,fun i x e=> ?_⟩
  rw [List.getElem?_map] at e
  obtain ⟨x0,e0,rfl⟩:=Option.map_eq_some_iff.1 e
  obtain ⟨b,off,⟨⟨γ1,p1,c1⟩,⟨γ2,p2,c2⟩⟩,e1,e2,e3⟩:=k.2.2.2 i x0 e0
  obtain ⟨h1,h2⟩:=hb x0 (List.mem_of_getElem? e0)
  exact ⟨b,off,(⟨x0.1.1,p1,x0.1.2.length,c1⟩,⟨x0.2.1,p2,x0.2.2.length,c2⟩),e1,e2,eF_of e3.1.2 e3.2.2 h1 h2⟩
theorem mz_raw1 {x:(Bool×List Int)×(Bool×List Int)} {n:Nat} (h:(fun z:(Bool×List Int)×(Bool×List Int)=>(fun z:Bool×List Int=>(fun _:Bool=>1) z.1+mzL (fun _:Int=>1) z.2) z.1+(fun z:Bool×List Int=>(fun _:Bool=>1) z.1+mzL (fun _:Int=>1) z.2) z.2) x≤n):x.1.2.length≤n∧x.2.2.length≤n:=by
  have q1:=mzL_len (mz:=fun _:Int=>1) (l:=x.1.2) (fun _=>Nat.le_refl 1)
  have q2:=mzL_len (mz:=fun _:Int=>1) (l:=x.2.2) (fun _=>Nat.le_refl 1)
  simp only at h
  omega
theorem mz_raw {l:List ((Bool×List Int)×(Bool×List Int))} {n:Nat} (h:mzL (fun z:(Bool×List Int)×(Bool×List Int)=>(fun z:Bool×List Int=>(fun _:Bool=>1) z.1+mzL (fun _:Int=>1) z.2) z.1+(fun z:Bool×List Int=>(fun _:Bool=>1) z.1+mzL (fun _:Int=>1) z.2) z.2) l≤n) (hn:n≤1099511627776):∀x,x∈l→x.1.2.length≤1099511627776∧x.2.2.length≤1099511627776:=fun x hx=>by
  have:=mzL_mem (mz:=fun z:(Bool×List Int)×(Bool×List Int)=>(fun z:Bool×List Int=>(fun _:Bool=>1) z.1+mzL (fun _:Int=>1) z.2) z.1+(fun z:Bool×List Int=>(fun _:Bool=>1) z.1+mzL (fun _:Int=>1) z.2) z.2) hx
  exact mz_raw1 (Nat.le_trans (Nat.le_of_succ_le (Nat.le_trans this h)) hn)
end Go.Proofs.YtkohlohbogpooaaGreat.Sp
