/- Lemmas on the walk and plain lemmas that the claim of this folder uses; each states its own conditions. Lines were printed by a program of ours. -/
import Derived.Test.YtpdbimfnhglhpaaZ3D
set_option linter.unusedVariables false
set_option linter.unusedSimpArgs false
set_option linter.unusedSectionVars false
open Go.Value renaming int → ya, pointer → yc
open Go.IntKind renaming i64 → yb
open Go.Proofs.Ytpdbimfnhglhpaa.Ms renaming partsL → yd, bordersR → ye, vecR → yf
namespace Go.Proofs.Ytpdbimfnhglhpaa.Sp
open Go
set_option linter.unusedVariables false
set_option maxRecDepth 100000
set_option maxHeartbeats 8000000
theorem zfc {w:Int} {h:Int} {m:Int} {p:Option Addr} {n:Nat} {cap:Nat} {l:List Int} {th:Int} (hn:l.length=n) (hth9: -9223372036854775808≤th∧th≤9223372036854775807):Con Try.prog 3 [.agg #[ya yb w,ya yb h,ya yb m,.slice p n cap],ya yb th] [] [slF (rI .i64) p cap l] (Y:=Unit) (fun y=>True) (fun y=> .bool true) (fun y=>[]) (fun y=>[]):=by
 refine zC Try.func3 rfl rfl rfl (fun c=> ?_)
 show RunC _ _ _ _ _ [(0,.agg #[ya yb w,ya yb h,ya yb m,.slice p n cap]),(1,ya yb th)] [] [slF (rI .i64) p cap l]
 refine zpa 0 rfl (fun hL0=> ?_)
 refine zf<|za<|zZ rfl rfl (zka rfl rfl) (fun b1=> ?_)
 refine zZ rfl rfl (zka rfl rfl) (fun b2=> ?_)
 refine e_p (zd rfl)<|zi<|zc<|zf<|zf<|za<|zia rfl rfl (.n) ce4 (zWc) (.n)<|e_p (zFb rfl)<|zi<|zc<|zEa rfl rfl<|zw<|zc<|zf<|zJa (X:=Unit) (fun x=>True) (fun x=>[(44,.bool (decide ((100<((n:Nat):Int))∨(((if Bl.rok w h m l then (if 0≤th∧th≤65536 then 0 else 2) else 1):Int)≠0)))),(4,.bool false),(3,yc (some ⟨b2,0,none⟩)),(2,yc (some ⟨b1,0,none⟩))]) (fun x=>[boxA b2 3 [ya yb th],boxA b1 24 [ya yb w,ya yb h,ya yb m,.slice p n cap]]) (fun x=>[slF (rI .i64) p cap l]) ?_ ?_
 ·
  refine za<|e_p (zg Try.underlying24 rfl sz22 rfl rfl)<|e_ru (zb 1 ty22 rfl rfl rfl)<|e_p (zR Try.underlying22 rfl)<|e_p (zMa rfl rfl)<|zI rfl rfl (zL rfl) (fun h3=> ?_) (fun h3=> ?_)
  ·
   refine e_no<|e_no<|e_no<|e_no<|e_p (zn rfl rfl)<|zi ?_
   exact zS () tt9 ((.e rfl (congrArg Value.bool cbu) (.of rfl)):SubM _ _) (ho:=((.of [0,0] rfl):PickO _ _ _)) (s0 rfl)
  ·
   refine e_ru (zm 1 ty24 rfl rfl (.t4 .nil))<|e_ru (zb 0 ty3 rfl rfl rfl)<|zia rfl rfl (.c rfl (.c rfl .n)) ce5 (zAc (w:=w) (h:=h) (m:=m) (p:=p) (n:=n) (cap:=cap) (l:=l) (th:=th) (hn:=ass)) (.c (j:=0) rfl .n)<|e_p (zOa rfl rfl)<|e_p (zn rfl rfl)<|zi ?_
   exact zS () tt9 ((.e rfl (congrArg Value.bool cbu) (.of rfl)):SubM _ _) (ho:=((.of [0,0] rfl):PickO _ _ _)) (s0 rfl)
 ·
  rintro ⟨⟩ -
  try dsimp only
  refine zG rfl (fun hq=> ?_) (fun hq=> ?_)
  ·
   refine zf<|za<|e_p (zd rfl)<|zi<|zc<|zU<|zl ?_
   exact zO Try.results3 () trivial (zx rfl) rfl (ho:=oN) sN
  ·
   obtain ⟨hq1,hq2⟩:=not_or.1 hq
   have hok9:=Fl.ask0.1 (Decidable.not_not.1 hq2)
   obtain ⟨hq3,hq4⟩:=id hok9
   obtain ⟨wn,hn9,rfl,rfl,hw9,hh9,hwh,hb9⟩:=Fl.rok_n hok9.1 hn
   have hn100:n≤100:=by omega
   have hWb:=Te.wh_b hwh hn100 om om
   refine zw<|zc<|zf<|za<|e_p (zg Try.underlying24 rfl sz3 rfl rfl)<|e_ru (zb 1 ty3 rfl rfl rfl)<|zZ rfl rfl (zF zr3 rfl) (fun b4=> ?_)
   refine zE 0 rfl rfl rfl rfl rfl sz3 rfl (.take .nil) .z<|zi<|zc<|zf<|za<|e_p (zUa .n (.c rfl (.c rfl (.c rfl .n))))<|e_p (zd rfl)<|zi<|zc<|zf<|zf<|zTa 2 rfl (.s (.s .z))<|zTa 1 rfl (.s .z)<|zTa 0 rfl .z<|za<|e_p (zg Try.underlying24 rfl sz3 rfl rfl)<|e_ru (zp (j:=1) 2 ty3 rfl rfl rfl rfl)<|e_p (zxa (z:=(((hn9:Nat):Int) - 1)) rfl rfl (w64 om))<|e_mv rfl<|zi<|zc<|zq<|zY (X:=Nat) (fun x:Nat=>x≤hn9 - 1∧∀uy ux,uy<x→ux+1<wn→¬Te.Bd l th wn ux uy) (fun x=>[(51,ya yb ((x:Nat):Int)),(50,ya yb (((hn9:Nat):Int) - 1)),(6,.func (.func 6) #[] #[yc (some ⟨b1,0,none⟩),yc (some ⟨b4,0,none⟩),yc (some ⟨b2,0,none⟩)]),(5,yc (some ⟨b4,0,none⟩)),(3,yc (some ⟨b2,0,none⟩)),(2,yc (some ⟨b1,0,none⟩))]) (fun x=>[]) (fun x=>[atF b4 0 [ya yb ((wn:Nat):Int)],atF b2 0 [ya yb th],atF b1 0 [ya yb ((wn:Nat):Int),ya yb ((hn9:Nat):Int),ya yb m,.slice p n cap],slF (rI .i64) p cap l]) (fun x:Nat=>hn9 - x) 0 (show 0≤hn9 - 1∧∀uy ux,uy<0→ux+1<wn→¬Te.Bd l th wn ux uy from by exact ⟨Nat.zero_le _,fun y x h _=>by omega⟩) ((.e rfl cgs (.of rfl)):SubM _ _) (ho:=oN) ((.of [0,1,2,3] rfl):SelR _ _ _) ?_
   rintro i hI
   replace hI:i≤hn9 - 1∧∀uy ux,uy<i→ux+1<wn→¬Te.Bd l th wn ux uy:=hI
   try dsimp only
   obtain ⟨hi1,hall⟩:=hI
   refine zf<|za<|e_p (zD rfl rfl)<|zi<|zc<|zf<|zG rfl (fun h5=> ?_) (fun h5=> ?_)
   ·
    refine zw<|zc<|zf<|zq<|zf<|za<|e_mv rfl<|e_p (zd rfl)<|zi<|zc<|zf<|za<|e_ru (zp (j:=0) 0 ty3 rfl rfl rfl rfl)<|e_p (zxa (z:=(((wn:Nat):Int) - 1)) rfl rfl (w64 om))<|e_mv rfl<|zi<|zc<|zq<|zY (X:=Nat) (fun x:Nat=>x≤wn - 1∧∀ux,ux<x→¬Te.Bd l th wn ux i) (fun x=>[(56,ya yb ((x:Nat):Int)),(55,ya yb (((wn:Nat):Int) - 1)),(7,ya yb ((i:Nat):Int)),(51,ya yb ((i:Nat):Int)),(50,ya yb (((hn9:Nat):Int) - 1)),(6,.func (.func 6) #[] #[yc (some ⟨b1,0,none⟩),yc (some ⟨b4,0,none⟩),yc (some ⟨b2,0,none⟩)]),(5,yc (some ⟨b4,0,none⟩)),(3,yc (some ⟨b2,0,none⟩)),(2,yc (some ⟨b1,0,none⟩))]) (fun x=>[]) (fun x=>[atF b4 0 [ya yb ((wn:Nat):Int)],atF b2 0 [ya yb th],atF b1 0 [ya yb ((wn:Nat):Int),ya yb ((hn9:Nat):Int),ya yb m,.slice p n cap],slF (rI .i64) p cap l]) (fun x:Nat=>wn - x) 0 (show 0≤wn - 1∧∀ux,ux<0→¬Te.Bd l th wn ux i from by exact ⟨Nat.zero_le _,fun x h=>by omega⟩) ((.e rfl cgs (.of rfl)):SubM _ _) (ho:=oN) ((.of [0,1,2,3] rfl):SelR _ _ _) ?_
    rintro j hJ
    replace hJ:j≤wn - 1∧∀ux,ux<j→¬Te.Bd l th wn ux i:=hJ
    try dsimp only
    obtain ⟨hj1,hrow⟩:=hJ
    refine zf<|za<|e_p (zD rfl rfl)<|zi<|zc<|zf<|zG rfl (fun h6=> ?_) (fun h6=> ?_)
    ·
     refine zw<|zc<|zf<|zq<|zf<|za<|e_mv rfl<|e_p (zd rfl)<|zi<|zc<|zJa (X:=Unit) (fun x=>True) (fun x=>[(94,.bool (decide (((decide (th≤l.getD (i*wn+j) 0)=decide (th≤l.getD ((i+1)*wn+(j+1)) 0))∧(decide (th≤l.getD (i*wn+(j+1)) 0)=decide (th≤l.getD ((i+1)*wn+j) 0)))∧(decide (th≤l.getD (i*wn+j) 0)≠decide (th≤l.getD (i*wn+(j+1)) 0))))),(56,ya yb ((j:Nat):Int)),(55,ya yb (((wn:Nat):Int) - 1)),(7,ya yb ((i:Nat):Int)),(51,ya yb ((i:Nat):Int)),(50,ya yb (((hn9:Nat):Int) - 1)),(6,.func (.func 6) #[] #[yc (some ⟨b1,0,none⟩),yc (some ⟨b4,0,none⟩),yc (some ⟨b2,0,none⟩)]),(5,yc (some ⟨b4,0,none⟩)),(3,yc (some ⟨b2,0,none⟩)),(2,yc (some ⟨b1,0,none⟩))]) (fun x=>[]) (fun x=>[atF b4 0 [ya yb ((wn:Nat):Int)],atF b2 0 [ya yb th],atF b1 0 [ya yb ((wn:Nat):Int),ya yb ((hn9:Nat):Int),ya yb m,.slice p n cap],slF (rI .i64) p cap l]) ?_ ?_
     ·
      refine za<|e_mv rfl<|e_mv rfl<|e_mv rfl<|zQa (first:=[]) (cap:=[yc (some ⟨b1,0,none⟩),yc (some ⟨b4,0,none⟩),yc (some ⟨b2,0,none⟩)]) rfl rfl rfl (.c rfl (.c rfl .n)) ce6 (zgb (xi:=j) (yi:=i) (bR:=b1) (bW:=b4) (bT:=b2) (wn:=wn) (hn9:=hn9) (m:=m) (p:=p) (n:=n) (cap:=cap) (l:=l) (th:=th) (hn:=ass) (hx:=by first|rfl|assumption|omega|exact Te.ix_lt hwh om om|(simp;done)) (hb:=by first|rfl|assumption|omega|exact Te.ix_lt hwh om om|(simp;done))) (.c (j:=2) rfl (.c (j:=0) rfl (.c (j:=1) rfl (.c (j:=3) rfl .n)))) ?_
      rintro ⟨⟩ -
      dsimp only [aq,nq,cq]
      refine e_mv rfl<|e_mv rfl<|e_p (zv (z:=(((j+1):Nat):Int)) rfl rfl (w64 om))<|e_mv rfl<|e_p (zv (z:=(((i+1):Nat):Int)) rfl rfl (w64 om))<|zQa (first:=[]) (cap:=[yc (some ⟨b1,0,none⟩),yc (some ⟨b4,0,none⟩),yc (some ⟨b2,0,none⟩)]) rfl rfl rfl (.c rfl (.c rfl .n)) ce6 (zgb (xi:=(j+1)) (yi:=(i+1)) (bR:=b1) (bW:=b4) (bT:=b2) (wn:=wn) (hn9:=hn9) (m:=m) (p:=p) (n:=n) (cap:=cap) (l:=l) (th:=th) (hn:=ass) (hx:=by first|rfl|assumption|omega|exact Te.ix_lt hwh om om|(simp;done)) (hb:=by first|rfl|assumption|omega|exact Te.ix_lt hwh om om|(simp;done))) (.c (j:=2) rfl (.c (j:=0) rfl (.c (j:=1) rfl (.c (j:=3) rfl .n)))) ?_
      rintro ⟨⟩ -
      dsimp only [aq,nq,cq]
      refine e_p (zvb Try.underlying4 rfl rfl)<|zI rfl rfl (zL rfl) (fun h7=> ?_) (fun h7=> ?_)
      ·
       refine e_mv rfl<|e_mv rfl<|e_p (zv (z:=(((j+1):Nat):Int)) rfl rfl (w64 om))<|e_mv rfl<|zQa (first:=[]) (cap:=[yc (some ⟨b1,0,none⟩),yc (some ⟨b4,0,none⟩),yc (some ⟨b2,0,none⟩)]) rfl rfl rfl (.c rfl (.c rfl .n)) ce6 (zgb (xi:=(j+1)) (yi:=i) (bR:=b1) (bW:=b4) (bT:=b2) (wn:=wn) (hn9:=hn9) (m:=m) (p:=p) (n:=n) (cap:=cap) (l:=l) (th:=th) (hn:=ass) (hx:=by first|rfl|assumption|omega|exact Te.ix_lt hwh om om|(simp;done)) (hb:=by first|rfl|assumption|omega|exact Te.ix_lt hwh om om|(simp;done))) (.c (j:=2) rfl (.c (j:=0) rfl (.c (j:=1) rfl (.c (j:=3) rfl .n)))) ?_
       rintro ⟨⟩ -
       dsimp only [aq,nq,cq]
       refine e_mv rfl<|e_mv rfl<|e_mv rfl<|e_p (zv (z:=(((i+1):Nat):Int)) rfl rfl (w64 om))<|zQa (first:=[]) (cap:=[yc (some ⟨b1,0,none⟩),yc (some ⟨b4,0,none⟩),yc (some ⟨b2,0,none⟩)]) rfl rfl rfl (.c rfl (.c rfl .n)) ce6 (zgb (xi:=j) (yi:=(i+1)) (bR:=b1) (bW:=b4) (bT:=b2) (wn:=wn) (hn9:=hn9) (m:=m) (p:=p) (n:=n) (cap:=cap) (l:=l) (th:=th) (hn:=ass) (hx:=by first|rfl|assumption|omega|exact Te.ix_lt hwh om om|(simp;done)) (hb:=by first|rfl|assumption|omega|exact Te.ix_lt hwh om om|(simp;done))) (.c (j:=2) rfl (.c (j:=0) rfl (.c (j:=1) rfl (.c (j:=3) rfl .n)))) ?_
       rintro ⟨⟩ -
       dsimp only [aq,nq,cq]
       refine e_p (zvb Try.underlying4 rfl rfl)<|e_p (zn rfl rfl)<|zI rfl rfl (zL rfl) (fun h8=> ?_) (fun h8=> ?_)
       ·
        refine e_mv rfl<|e_mv rfl<|e_mv rfl<|zQa (first:=[]) (cap:=[yc (some ⟨b1,0,none⟩),yc (some ⟨b4,0,none⟩),yc (some ⟨b2,0,none⟩)]) rfl rfl rfl (.c rfl (.c rfl .n)) ce6 (zgb (xi:=j) (yi:=i) (bR:=b1) (bW:=b4) (bT:=b2) (wn:=wn) (hn9:=hn9) (m:=m) (p:=p) (n:=n) (cap:=cap) (l:=l) (th:=th) (hn:=ass) (hx:=by first|rfl|assumption|omega|exact Te.ix_lt hwh om om|(simp;done)) (hb:=by first|rfl|assumption|omega|exact Te.ix_lt hwh om om|(simp;done))) (.c (j:=2) rfl (.c (j:=0) rfl (.c (j:=1) rfl (.c (j:=3) rfl .n)))) ?_
        rintro ⟨⟩ -
        dsimp only [aq,nq,cq]
        refine e_mv rfl<|e_mv rfl<|e_p (zv (z:=(((j+1):Nat):Int)) rfl rfl (w64 om))<|e_mv rfl<|zQa (first:=[]) (cap:=[yc (some ⟨b1,0,none⟩),yc (some ⟨b4,0,none⟩),yc (some ⟨b2,0,none⟩)]) rfl rfl rfl (.c rfl (.c rfl .n)) ce6 (zgb (xi:=(j+1)) (yi:=i) (bR:=b1) (bW:=b4) (bT:=b2) (wn:=wn) (hn9:=hn9) (m:=m) (p:=p) (n:=n) (cap:=cap) (l:=l) (th:=th) (hn:=ass) (hx:=by first|rfl|assumption|omega|exact Te.ix_lt hwh om om|(simp;done)) (hb:=by first|rfl|assumption|omega|exact Te.ix_lt hwh om om|(simp;done))) (.c (j:=2) rfl (.c (j:=0) rfl (.c (j:=1) rfl (.c (j:=3) rfl .n)))) ?_
        rintro ⟨⟩ -
        dsimp only [aq,nq,cq]
        refine e_p (zhc Try.underlying4 rfl rfl)<|e_p (zn rfl rfl)<|zi ?_
        exact zS () tt9 ((.e rfl (congrArg Value.bool cbu) (.of rfl)):SubM _ _) (ho:=oN) ((.of [0,1,2,3] rfl):SelR _ _ _)
       ·
        refine e_no<|e_no<|e_no<|e_no<|e_no<|e_no<|e_no<|e_no<|e_no<|e_no<|e_p (zn rfl rfl)<|zi ?_
        exact zS () tt9 ((.e rfl (congrArg Value.bool cbu) (.of rfl)):SubM _ _) (ho:=oN) ((.of [0,1,2,3] rfl):SelR _ _ _)
      ·
       refine e_no<|e_no<|e_no<|e_no<|e_no<|e_no<|e_no<|e_no<|e_no<|e_no<|e_no<|e_p (zn rfl rfl)<|e_mv rfl<|e_no<|e_no<|e_no<|e_no<|e_no<|e_no<|e_no<|e_no<|e_no<|e_no<|e_p (zn rfl rfl)<|zi ?_
       exact zS () tt9 ((.e rfl (congrArg Value.bool cbu) (.of rfl)):SubM _ _) (ho:=oN) ((.of [0,1,2,3] rfl):SelR _ _ _)
     ·
      rintro ⟨⟩ -
      try dsimp only
      refine zG rfl (fun h94=> ?_) (fun h94=> ?_)
      ·
       refine zf<|za<|e_p (zd rfl)<|zi<|zc<|zU<|zu<|zl<|zl<|zu<|zu<|zl<|zl<|zu<|zl ?_
       exact zO Try.results3 () trivial (zx rfl) rfl (ho:=oN) sN
      ·
       refine zw<|zB<|zc<|za<|e_p (zv (z:=(((j+1):Nat):Int)) rfl rfl (w64 om))<|e_mv rfl<|zi<|zQ (j+1) (show (j+1)≤wn - 1∧∀ux,ux<(j+1)→¬Te.Bd l th wn ux i from by refine ⟨by omega,fun x hx hb=> ?_⟩;by_cases e:x=j;(subst e;exact (by first|exact h94 hb|exact h94 ⟨⟨hb.1,hb.2.1⟩,hb.2.2⟩));exact hrow x om hb) (by show wn - (j+1)<wn - j;omega) (mR rfl) (ho:=oN) ((.of [0,1,2,3] rfl):SelR _ _ _)
    ·
     refine zP<|zj<|zj<|zo<|zB<|zc<|za<|e_p (zv (z:=(((i+1):Nat):Int)) rfl rfl (w64 om))<|e_mv rfl<|zi<|zQ (i+1) (show (i+1)≤hn9 - 1∧∀uy ux,uy<(i+1)→ux+1<wn→¬Te.Bd l th wn ux uy from by refine ⟨by omega,fun y x hy hx=> ?_⟩;by_cases e:y=i;(subst e;exact hrow x om);exact hall y x om hx) (by show hn9 - (i+1)<hn9 - i;omega) (mR rfl) (ho:=oN) ((.of [0,1,2,3] rfl):SelR _ _ _)
   ·
    refine zP<|zj<|zj<|zo<|zc<|zf<|za<|zZ rfl rfl (zF zr32 rfl) (fun b9=> ?_)
    refine zi<|zc<|zf<|zf ?_
    have hnt:=Te.nt_walk (th:=th) hn hwh (fun y x hy hx=>hall y x om hx)
    refine zjb 34 (rI3 .i64)<|za<|e_ru (zp (j:=0) 0 ty3 rfl rfl rfl rfl)<|e_p (zv (z:=(((wn+1):Nat):Int)) rfl rfl (w64 om))<|e_p (zg Try.underlying24 rfl sz3 rfl rfl)<|e_ru (zp (j:=1) 2 ty3 rfl rfl rfl rfl)<|e_p (zv (z:=(((hn9+1):Nat):Int)) rfl rfl (w64 om))<|e_p (zBa (z:=((((wn+1)*(hn9+1)):Nat):Int)) rfl rfl (w64 om))<|e_mv rfl<|zi<|zc<|zq<|zY (X:=Nat×(Option Addr)×Nat) (fun x:Nat×(Option Addr)×Nat=>x.1≤((wn+1)*(hn9+1))) (fun x=>[(103,ya yb ((x.1:Nat):Int)),(102,ya yb ((((wn+1)*(hn9+1)):Nat):Int)),(9,yc (some ⟨b9,0,none⟩)),(6,.func (.func 6) #[] #[yc (some ⟨b1,0,none⟩),yc (some ⟨b4,0,none⟩),yc (some ⟨b2,0,none⟩)]),(5,yc (some ⟨b4,0,none⟩)),(3,yc (some ⟨b2,0,none⟩)),(2,yc (some ⟨b1,0,none⟩))]) (fun x=>[rowA 34 (rI3 .i64) (x.2.1) (x.2.2) (Te.eVk wn x.1),boxA b9 32 [.slice (x.2.1) ((Te.eVk wn x.1).length) (x.2.2),.slice none 0 0]]) (fun x=>[atF b4 0 [ya yb ((wn:Nat):Int)],atF b2 0 [ya yb th],atF b1 0 [ya yb ((wn:Nat):Int),ya yb ((hn9:Nat):Int),ya yb m,.slice p n cap],slF (rI .i64) p cap l]) (fun x:Nat×(Option Addr)×Nat=>((wn+1)*(hn9+1)) - x.1) (0,none,0) (show 0≤((wn+1)*(hn9+1)) from by exact Nat.zero_le _) ((.e rfl cgs (.of rfl)):SubM _ _) (ho:=((.e (i:=0) rfl cgs (.e (i:=0) rfl cgs .n)):PickO _ _ _)) ((.of [0,1,2,3] rfl):SelR _ _ _) ?_
    rintro ⟨k,pv,cv⟩ hI
    replace hI:k≤((wn+1)*(hn9+1)):=hI
    try dsimp only
    have hkl:=Te.eVk_len wn k
    have hkq:=Nat.div_le_self k (wn+1)
    have hkz:(0:Int)≤((k / (wn+1):Nat):Int):=Int.natCast_nonneg _
    have hkm:=Nat.mod_lt k (show 0<wn+1 by omega)
    have hkm0:(0:Int)≤((k%(wn+1):Nat):Int):=Int.natCast_nonneg _
    refine zf<|za<|e_p (zD rfl rfl)<|zi<|zc<|zf<|zG rfl (fun h10=> ?_) (fun h10=> ?_)
    ·
     refine zw<|zc<|zf<|zq<|zf<|za<|e_mv rfl<|e_p (zd rfl)<|zi<|zc<|zsa (OW:=[rowA 34 (rI3 .i64) pv cv (Te.eVk wn k),boxA b9 32 [.slice pv ((Te.eVk wn k).length) cv,.slice none 0 0]]) (O:=[]) 12 mixed (.block (.then (.then (.block (.then .ret))))) kr<|e_pv 0 rfl rfl (zg Try.underlying32 rfl sz29 rfl rfl)<|e_uw 1 rfl rfl (zb 1 ty29 rfl rfl rfl)<|e_dm 2 rfl rfl rfl<|e_u 3 rfl rfl (zp (j:=0) 0 ty3 rfl rfl rfl rfl)<|e_pv 4 rfl rfl (zv (z:=(((wn+1):Nat):Int)) rfl rfl (w64 om))<|e_pv 5 rfl rfl (zXa (z:=(((k%(wn+1)):Nat):Int)) rfl rfl om (remN om om))<|e_dm 6 rfl rfl rfl<|e_u 7 rfl rfl (zp (j:=0) 0 ty3 rfl rfl rfl rfl)<|e_pv 8 rfl rfl (zv (z:=(((wn+1):Nat):Int)) rfl rfl (w64 om))<|e_pv 9 rfl rfl (zRb (z:=(((k / (wn+1)):Nat):Int)) rfl rfl om (by rw [quoN (z:=(((k / (wn+1)):Nat):Int)) om om];exact w64 om))<|e_pv 10 rfl rfl (zca zr34 rfl Try.underlying34 (.c sz3 (.c sz3 (.c sz3 .n))) (.c rfl (.c rfl .n)) (.c rfl rfl rfl (.take .nil) (.c rfl rfl rfl (.skip (.take .nil)) .n)))<|e_one 11 (zib rfl rfl rfl rfl (zt (enc:=fun z:Int×Int×Int=>[ya yb z.1,ya yb z.2.1,ya yb z.2.2]) (ok:=fun z=>InK .i64 z.1∧InK .i64 z.2.1∧InK .i64 z.2.2) (h1:=fun _=>rfl) (h2:=fun _=>rfl) (k:=1) Try.underlying29 inf34 rfl dd dd dd (.c (x:=((((k%(wn+1)):Nat):Int),(((k / (wn+1)):Nat):Int),0)) rfl rfl (fun _ _=>by exact ⟨ze.2 (by first|omega|decide|(dsimp only;omega)),ze.2 (by first|omega|decide|(dsimp only;omega)),ze.2 (by first|omega|decide|(dsimp only;omega))⟩) .n)) (fun b11 _=> ?_))
     refine zva 0 rfl .z<|e_one 12 (zcb (A':=fun v:Option Addr×Nat=>rowA 34 (rI3 .i64) v.1 v.2 ((Te.eVk wn k)++([((((k%(wn+1)):Nat):Int),(((k / (wn+1)):Nat):Int),0)]))) kr rfl rfl rfl (zea 0 rfl Try.underlying29 inf34 dd rfl rfl (by first|rfl|assumption|(simp;done)|omega) rfl (by first|rfl|assumption|(simp;done)|omega) om om) ?_)
     rintro ⟨p12,c13⟩ -
     dsimp only [aq,nq,cq]
     refine e_pv 13 rfl rfl (zg Try.underlying32 rfl sz29 rfl rfl)<|zNb (zK (i:=1) rfl)<|e_one 14 (zma kr rfl rfl rfl rfl rfl sz29 rfl (.take .nil) ?_)
     refine zra kr<|zB<|zc<|za<|e_p (zv (z:=(((k+1):Nat):Int)) rfl rfl (w64 om))<|e_mv rfl<|zi<|zQ ((k+1),p12,c13) (show (k+1)≤((wn+1)*(hn9+1)) from by show k+1≤((wn+1)*(hn9+1));omega) (by show ((wn+1)*(hn9+1)) - (k+1)<((wn+1)*(hn9+1)) - k;omega) (mR rfl) (ho:=((.e (i:=1) rfl (by first|rfl|(rw [Te.eVk_succ];done)|(rw [Te.eVk_succ];simp)) (.e (i:=0) rfl (by first|rfl|(rw [Te.eVk_succ];done)|(rw [Te.eVk_succ];simp)) .n)):PickO _ _ _)) ((.of [1,2,3,4] rfl):SelR _ _ _)
    ·
     refine zP<|zj<|zj<|zo<|zc<|zf ?_
     have e14:(Te.eVk wn k)=(Te.eVk wn ((wn+1)*(hn9+1))):=by rw [show k=((wn+1)*(hn9+1)) by omega]
     rw [e14]
     refine zrc 0 rfl .z<|zjb 35 (rI3 .i64)<|za<|e_p (zd rfl)<|zi<|zc<|zf<|zf<|za<|e_p (zg Try.underlying24 rfl sz3 rfl rfl)<|e_ru (zp (j:=1) 3 ty3 rfl rfl rfl rfl)<|e_mv rfl<|zi<|zc<|zq<|zY (X:=Nat×(Option Addr)×Nat) (fun x:Nat×(Option Addr)×Nat=>x.1≤hn9) (fun x=>[(11,ya yb (Te.aC (Fl.ge l th) (x.1*wn))),(123,ya yb ((x.1:Nat):Int)),(122,ya yb ((hn9:Nat):Int)),(9,yc (some ⟨b9,0,none⟩)),(6,.func (.func 6) #[] #[yc (some ⟨b1,0,none⟩),yc (some ⟨b4,0,none⟩),yc (some ⟨b2,0,none⟩)]),(5,yc (some ⟨b4,0,none⟩)),(3,yc (some ⟨b2,0,none⟩)),(2,yc (some ⟨b1,0,none⟩))]) (fun x=>[rowA 35 (rI3 .i64) (x.2.1) (x.2.2) (Te.eF wn (Fl.ge l th) (x.1*wn)),boxA b9 32 [.slice pv ((Te.eVk wn ((wn+1)*(hn9+1))).length) cv,.slice (x.2.1) ((Te.eF wn (Fl.ge l th) (x.1*wn)).length) (x.2.2)]]) (fun x=>[slF (rI3 .i64) pv cv (Te.eVk wn ((wn+1)*(hn9+1))),atF b4 0 [ya yb ((wn:Nat):Int)],atF b2 0 [ya yb th],atF b1 0 [ya yb ((wn:Nat):Int),ya yb ((hn9:Nat):Int),ya yb m,.slice p n cap],slF (rI .i64) p cap l]) (fun x:Nat×(Option Addr)×Nat=>hn9 - x.1) (0,none,0) (show 0≤hn9 from by exact Nat.zero_le _) ((.e rfl (by rw [Nat.zero_mul];rfl) (.e rfl cgs (.of rfl))):SubM _ _) (ho:=((.e (i:=0) rfl (by first|rfl|(rw [Nat.zero_mul];rfl)) (.e (i:=1) rfl (by first|rfl|(rw [Nat.zero_mul];rfl)) .n)):PickO _ _ _)) ((.of [0,1,2,3,4] rfl):SelR _ _ _) ?_
     rintro ⟨i,pf,cf⟩ hI
     replace hI:i≤hn9:=hI
     try dsimp only
     refine zf<|za<|e_p (zD rfl rfl)<|zi<|zc<|zf<|zG rfl (fun h15=> ?_) (fun h15=> ?_)
     ·
      refine zw<|zc<|zf<|zq<|zf<|za<|e_mv rfl<|e_p (zd rfl)<|zi<|zc<|zf<|za<|e_ru (zp (j:=0) 1 ty3 rfl rfl rfl rfl)<|e_mv rfl<|zi<|zc<|zq<|zY (X:=Nat×(Option Addr)×Nat) (fun x:Nat×(Option Addr)×Nat=>x.1≤wn) (fun x=>[(11,ya yb (Te.aC (Fl.ge l th) (i*wn+x.1))),(127,ya yb ((x.1:Nat):Int)),(126,ya yb ((wn:Nat):Int)),(12,ya yb ((i:Nat):Int)),(123,ya yb ((i:Nat):Int)),(122,ya yb ((hn9:Nat):Int)),(9,yc (some ⟨b9,0,none⟩)),(6,.func (.func 6) #[] #[yc (some ⟨b1,0,none⟩),yc (some ⟨b4,0,none⟩),yc (some ⟨b2,0,none⟩)]),(5,yc (some ⟨b4,0,none⟩)),(3,yc (some ⟨b2,0,none⟩)),(2,yc (some ⟨b1,0,none⟩))]) (fun x=>[rowA 35 (rI3 .i64) (x.2.1) (x.2.2) (Te.eF wn (Fl.ge l th) (i*wn+x.1)),boxA b9 32 [.slice pv ((Te.eVk wn ((wn+1)*(hn9+1))).length) cv,.slice (x.2.1) ((Te.eF wn (Fl.ge l th) (i*wn+x.1)).length) (x.2.2)]]) (fun x=>[slF (rI3 .i64) pv cv (Te.eVk wn ((wn+1)*(hn9+1))),atF b4 0 [ya yb ((wn:Nat):Int)],atF b2 0 [ya yb th],atF b1 0 [ya yb ((wn:Nat):Int),ya yb ((hn9:Nat):Int),ya yb m,.slice p n cap],slF (rI .i64) p cap l]) (fun x:Nat×(Option Addr)×Nat=>wn - x.1) (0,pf,cf) (show 0≤wn from by exact Nat.zero_le _) ((.e rfl (by rfl) (.e rfl cgs (.of rfl))):SubM _ _) (ho:=((.e (i:=0) rfl (by rfl) (.e (i:=0) rfl (by rfl) .n)):PickO _ _ _)) ((.of [0,1,2,3,4] rfl):SelR _ _ _) ?_
      rintro ⟨j,pf,cf⟩ hJ
      replace hJ:j≤wn:=hJ
      try dsimp only
      have hFl:=Te.eF_b wn (Fl.ge l th) (i*wn+j)
      have haC:=Te.aC_b (Fl.ge l th) (i*wn+j)
      have hiw:i*wn≤n:=by rw [hwh,Nat.mul_comm];exact Nat.mul_le_mul_left _ om
      have hiw1:i*(wn+1)=i*wn+i:=Nat.mul_succ _ _
      refine zf<|za<|e_p (zD rfl rfl)<|zi<|zc<|zf<|zG rfl (fun h16=> ?_) (fun h16=> ?_)
      ·
       refine zw<|zc<|zf<|zq<|zf<|za<|e_mv rfl<|e_p (zd rfl)<|zi<|zc<|zf<|zf<|za<|e_mv rfl<|e_mv rfl<|e_mv rfl<|zQa (first:=[]) (cap:=[yc (some ⟨b1,0,none⟩),yc (some ⟨b4,0,none⟩),yc (some ⟨b2,0,none⟩)]) rfl rfl rfl (.c rfl (.c rfl .n)) ce6 (zgb (xi:=j) (yi:=i) (bR:=b1) (bW:=b4) (bT:=b2) (wn:=wn) (hn9:=hn9) (m:=m) (p:=p) (n:=n) (cap:=cap) (l:=l) (th:=th) (hn:=ass) (hx:=by first|rfl|assumption|omega|exact Te.ix_lt hwh om om|(simp;done)) (hb:=by first|rfl|assumption|omega|exact Te.ix_lt hwh om om|(simp;done))) (.c (j:=3) rfl (.c (j:=1) rfl (.c (j:=2) rfl (.c (j:=4) rfl .n)))) ?_
       rintro ⟨⟩ -
       dsimp only [aq,nq,cq]
       refine e_p (zgc rfl)<|zi<|zc<|zG rfl (fun h134=> ?_) (fun h134=> ?_)
       ·
        refine zP<|zj<|zo<|zc<|za<|e_p (zv (z:=(((j+1):Nat):Int)) rfl rfl (w64 om))<|e_mv rfl<|zi<|zQ ((j+1),pf,cf) (show (j+1)≤wn from by show j+1≤wn;omega) (by show wn - (j+1)<wn - j;omega) ((.e rfl (by rw [show i*wn+(j+1)=i*wn+j+1 from rfl,Te.aC_n (by rw [Te.ge_at hn (Te.ix_lt hwh om om)];exact h134)]) (.of rfl)):SubM _ _) (ho:=((.e (i:=0) rfl (by first|rfl|(rw [show i*wn+(j+1)=i*wn+j+1 from rfl,Te.eF_n (by rw [Te.ge_at hn (Te.ix_lt hwh om om)];exact h134)])) (.e (i:=0) rfl (by first|rfl|(rw [show i*wn+(j+1)=i*wn+j+1 from rfl,Te.eF_n (by rw [Te.ge_at hn (Te.ix_lt hwh om om)];exact h134)])) .n)):PickO _ _ _)) ((.of [0,1,2,3,4] rfl):SelR _ _ _)
       ·
        refine zw<|zc<|zf<|za<|e_mv rfl<|e_ru (zp (j:=0) 1 ty3 rfl rfl rfl rfl)<|e_p (zv (z:=(((wn+1):Nat):Int)) rfl rfl (w64 om))<|e_p (zBa (z:=(((i*(wn+1)):Nat):Int)) rfl rfl (w64 om))<|e_mv rfl<|e_p (zv (z:=((((i*(wn+1))+j):Nat):Int)) rfl rfl (w64 om))<|e_p (zd rfl)<|zi<|zc<|zf<|za<|e_p (zg Try.underlying32 rfl sz30 rfl rfl)<|e_ru (zb 1 ty30 rfl rfl rfl)<|e_mv rfl<|e_mv rfl<|e_p (zv (z:=(((((i*(wn+1))+j)+1):Nat):Int)) rfl rfl (w64 om))<|e_mv rfl<|e_ru (zp (j:=0) 1 ty3 rfl rfl rfl rfl)<|e_p (zv (z:=(((((i*(wn+1))+j)+wn):Nat):Int)) rfl rfl (w64 om))<|e_p (zv (z:=((((((i*(wn+1))+j)+wn)+2):Nat):Int)) rfl rfl (w64 om))<|e_p (zA zr35 rfl Try.underlying35 sz3 (.c rfl (.c rfl (.c rfl .n))) (.c rfl rfl rfl (.take .nil) (.c rfl rfl rfl (.skip (.take .nil)) (.c rfl rfl rfl (.s2 (.take .nil)) .n))))<|e_mv rfl<|e_mv rfl<|e_ru (zp (j:=0) 1 ty3 rfl rfl rfl rfl)<|e_p (zv (z:=(((((i*(wn+1))+j)+wn):Nat):Int)) rfl rfl (w64 om))<|e_p (zv (z:=((((((i*(wn+1))+j)+wn)+2):Nat):Int)) rfl rfl (w64 om))<|e_mv rfl<|e_ru (zp (j:=0) 1 ty3 rfl rfl rfl rfl)<|e_p (zv (z:=(((((i*(wn+1))+j)+wn):Nat):Int)) rfl rfl (w64 om))<|e_p (zv (z:=((((((i*(wn+1))+j)+wn)+1):Nat):Int)) rfl rfl (w64 om))<|e_p (zA zr35 rfl Try.underlying35 sz3 (.c rfl (.c rfl (.c rfl .n))) (.c rfl rfl rfl (.take .nil) (.c rfl rfl rfl (.skip (.take .nil)) (.c rfl rfl rfl (.s2 (.take .nil)) .n))))<|zwa rfl rfl (zt (enc:=fun z:Int×Int×Int=>[ya yb z.1,ya yb z.2.1,ya yb z.2.2]) (ok:=fun z=>InK .i64 z.1∧InK .i64 z.2.1∧InK .i64 z.2.2) (h1:=fun _=>rfl) (h2:=fun _=>rfl) (k:=2) Try.underlying30 inf35 rfl dd dd dd (.c (x:=(((((i*(wn+1))+j):Nat):Int),(((((i*(wn+1))+j)+1):Nat):Int),((((((i*(wn+1))+j)+wn)+2):Nat):Int))) rfl rfl (fun _ _=>by exact ⟨ze.2 (by first|omega|decide|(dsimp only;omega)),ze.2 (by first|omega|decide|(dsimp only;omega)),ze.2 (by first|omega|decide|(dsimp only;omega))⟩) (.c (x:=(((((i*(wn+1))+j):Nat):Int),((((((i*(wn+1))+j)+wn)+2):Nat):Int),((((((i*(wn+1))+j)+wn)+1):Nat):Int))) rfl rfl (fun _ _=>by exact ⟨ze.2 (by first|omega|decide|(dsimp only;omega)),ze.2 (by first|omega|decide|(dsimp only;omega)),ze.2 (by first|omega|decide|(dsimp only;omega))⟩) .n))) (fun b17 _=> ?_)
        refine zua 0 rfl .z<|zna 1 rfl rfl rfl (zea 0 rfl Try.underlying30 inf35 dd rfl rfl (by first|rfl|assumption|(simp;done)|omega) rfl (by first|rfl|assumption|(simp;done)|omega) om om) (fun _=>(.s .z)) ?_
        rintro ⟨p18,c19⟩ -
        dsimp only [aq,nq,cq]
        refine e_p (zg Try.underlying32 rfl sz30 rfl rfl)<|zE 2 rfl rfl rfl rfl rfl sz30 rfl (.skip (.take .nil)) (.s (.s .z))<|zi<|zc<|za<|e_mv rfl<|e_p (zv (z:=((Te.aC (Fl.ge l th) (i*wn+j))+1)) rfl rfl (w64 om))<|e_p (zd rfl)<|zi<|zB<|zc<|za<|e_p (zv (z:=(((j+1):Nat):Int)) rfl rfl (w64 om))<|e_mv rfl<|zi<|zQ ((j+1),p18,c19) (show (j+1)≤wn from by show j+1≤wn;omega) (by show wn - (j+1)<wn - j;omega) ((.e rfl (by rw [show i*wn+(j+1)=i*wn+j+1 from rfl,Te.aC_y (by rw [Te.ge_at hn (Te.ix_lt hwh om om)];exact Decidable.not_not.1 h134)]) (.of rfl)):SubM _ _) (ho:=((.e (i:=1) rfl (by first|rfl|(rw [show i*wn+(j+1)=i*wn+j+1 from rfl,Te.eF_y (by rw [Te.ge_at hn (Te.ix_lt hwh om om)];exact Decidable.not_not.1 h134),Te.tri_n om];done)|(rw [show i*wn+(j+1)=i*wn+j+1 from rfl,Te.eF_y (by rw [Te.ge_at hn (Te.ix_lt hwh om om)];exact Decidable.not_not.1 h134),Te.tri_n om];simp)) (.e (i:=1) rfl (by first|rfl|(rw [show i*wn+(j+1)=i*wn+j+1 from rfl,Te.eF_y (by rw [Te.ge_at hn (Te.ix_lt hwh om om)];exact Decidable.not_not.1 h134),Te.tri_n om];done)|(rw [show i*wn+(j+1)=i*wn+j+1 from rfl,Te.eF_y (by rw [Te.ge_at hn (Te.ix_lt hwh om om)];exact Decidable.not_not.1 h134),Te.tri_n om];simp)) .n)):PickO _ _ _)) ((.of [1,2,3,4,5] rfl):SelR _ _ _)
      ·
       refine zP<|zj<|zj<|zo<|zB<|zc<|za<|e_p (zv (z:=(((i+1):Nat):Int)) rfl rfl (w64 om))<|e_mv rfl<|zi<|zQ ((i+1),pf,cf) (show (i+1)≤hn9 from by show i+1≤hn9;omega) (by show hn9 - (i+1)<hn9 - i;omega) ((.e rfl (by rw [← Te.row_end wn i,show j=wn by omega]) (.of rfl)):SubM _ _) (ho:=((.e (i:=0) rfl (by first|rfl|(dsimp only;rw [← Te.row_end wn i,show j=wn by omega];done)) (.e (i:=0) rfl (by first|rfl|(dsimp only;rw [← Te.row_end wn i,show j=wn by omega];done)) .n)):PickO _ _ _)) ((.of [0,1,2,3,4] rfl):SelR _ _ _)
     ·
      refine zP<|zj<|zj<|zo<|zc<|zf ?_
      have hin:i*wn=n:=by rw [hwh,Nat.mul_comm,show i=hn9 by omega]
      have e20:(Te.eF wn (Fl.ge l th) (i*wn))=(Te.eF wn (Fl.ge l th) n):=by rw [hin]
      rw [e20]
      have e21:(Te.aC (Fl.ge l th) (i*wn))=(Te.aC (Fl.ge l th) n):=by rw [hin]
      rw [e21]
      refine zrc 0 rfl .z<|za<|e_ru (zJ (j:=0) 4 ty24 rfl rfl rfl (.t4 .nil))<|e_ru (zp (j:=0) 3 ty3 rfl rfl rfl rfl)<|zFa rfl rfl (.c rfl (.c rfl .n)) ce7 (zRc (w:=((wn:Nat):Int)) (h:=((hn9:Nat):Int)) (m:=m) (p:=p) (n:=n) (cap:=cap) (l:=l) (th:=th) (hn:=ass)) (.c (j:=5) rfl .n) ?_
      rintro ⟨p322,c323,AA⟩ hA
      dsimp only [aq,nq,cq]
      replace hA:Fl.BlsR ((wn:Nat):Int) ((hn9:Nat):Int) m l th AA:=hA
      refine e_mv rfl<|e_p (zy rfl rfl)<|e_p (zy rfl rfl)<|e_p (zd rfl)<|e_p (zd rfl)<|zi<|zc<|zf<|za<|e_ru (zJ (j:=0) 5 ty24 rfl rfl rfl (.t4 .nil))<|e_ru (zp (j:=0) 4 ty3 rfl rfl rfl rfl)<|zFa rfl rfl (.c rfl (.c rfl .n)) ce8 (zcc (w:=((wn:Nat):Int)) (h:=((hn9:Nat):Int)) (m:=m) (p:=p) (n:=n) (cap:=cap) (l:=l) (th:=th) (hn:=ass)) (.c (j:=6) rfl .n) ?_
      rintro zz hZ
      dsimp only [aq,nq,cq]
      replace hZ:Fl.HolR ((wn:Nat):Int) ((hn9:Nat):Int) m l th zz:=hZ
      refine e_mv rfl<|e_p (zy rfl rfl)<|e_p (zy rfl rfl)<|e_p (zd rfl)<|e_p (zd rfl)<|zi<|zc<|zf ?_
      obtain ⟨hlb1,hlb2,hlb3⟩:=Eu.law_b hok9 hn hA hZ
      have hans:=Te.law hok9 hn hwh om om hn100 ⟨by omega,by omega⟩ hnt hA hZ
      have hck:Ms.check (Te.eVk wn ((wn+1)*(hn9+1))) (Te.eF wn (Fl.ge l th) n)=0:=hans.ck
      refine za<|e_ru (zm 1 ty32 rfl rfl (.t2 .nil))<|zia rfl rfl (.c rfl .n) ce9 (zec (pv:=pv) (nv:=(Te.eVk wn ((wn+1)*(hn9+1))).length) (cv:=cv) (V:=(Te.eVk wn ((wn+1)*(hn9+1)))) (pf:=pf) (nf:=(Te.eF wn (Fl.ge l th) n).length) (cf:=cf) (F:=(Te.eF wn (Fl.ge l th) n)) (hnv:=by first|rfl|assumption|omega|exact Te.ix_lt hwh om om|(simp;done)) (hnf:=by first|rfl|assumption|omega|exact Te.ix_lt hwh om om|(simp;done))) (.c (j:=2) rfl (.c (j:=1) rfl .n))<|e_mv rfl<|e_p (zy rfl rfl)<|e_p (zy rfl rfl)<|e_p (zd rfl)<|e_p (zd rfl)<|zi<|zc<|zf<|za<|e_ru (zm 1 ty32 rfl rfl (.t2 .nil))<|zFa rfl rfl (.c rfl .n) ce10 (zpc (pv:=pv) (nv:=(Te.eVk wn ((wn+1)*(hn9+1))).length) (cv:=cv) (V:=(Te.eVk wn ((wn+1)*(hn9+1)))) (pf:=pf) (nf:=(Te.eF wn (Fl.ge l th) n).length) (cf:=cf) (F:=(Te.eF wn (Fl.ge l th) n)) (hnv:=by first|rfl|assumption|omega|exact Te.ix_lt hwh om om|(simp;done)) (hnf:=by first|rfl|assumption|omega|exact Te.ix_lt hwh om om|(simp;done))) (.c (j:=2) rfl (.c (j:=1) rfl .n)) ?_
      rintro ⟨p224,c225,bm1⟩ hB
      dsimp only [aq,nq,cq]
      replace hB:Ms.check (Te.eVk wn ((wn+1)*(hn9+1))) (Te.eF wn (Fl.ge l th) n)=0→Ms.BMap (Te.eF wn (Fl.ge l th) n) bm1:=hB
      refine e_mv rfl<|e_p (zy rfl rfl)<|e_p (zy rfl rfl)<|e_p (zd rfl)<|e_p (zd rfl)<|zi<|zc<|zf<|za<|e_ru (zm 1 ty32 rfl rfl (.t2 .nil))<|zFa rfl rfl (.c rfl .n) ce11 (zVc (pv:=pv) (nv:=(Te.eVk wn ((wn+1)*(hn9+1))).length) (cv:=cv) (V:=(Te.eVk wn ((wn+1)*(hn9+1)))) (pf:=pf) (nf:=(Te.eF wn (Fl.ge l th) n).length) (cf:=cf) (F:=(Te.eF wn (Fl.ge l th) n)) (hnv:=by first|rfl|assumption|omega|exact Te.ix_lt hwh om om|(simp;done)) (hnf:=by first|rfl|assumption|omega|exact Te.ix_lt hwh om om|(simp;done))) (.c (j:=3) rfl (.c (j:=2) rfl .n)) ?_
      rintro ⟨p226,c227⟩ -
      dsimp only [aq,nq,cq]
      refine e_mv rfl<|e_p (zy rfl rfl)<|e_p (zy rfl rfl)<|e_p (zd rfl)<|e_p (zd rfl)<|zi<|zc<|zf<|za<|e_ru (zm 1 ty32 rfl rfl (.t2 .nil))<|zia rfl rfl (.c rfl .n) ce12 (zFc (pv:=pv) (nv:=(Te.eVk wn ((wn+1)*(hn9+1))).length) (cv:=cv) (V:=(Te.eVk wn ((wn+1)*(hn9+1)))) (pf:=pf) (nf:=(Te.eF wn (Fl.ge l th) n).length) (cf:=cf) (F:=(Te.eF wn (Fl.ge l th) n)) (hnv:=by first|rfl|assumption|omega|exact Te.ix_lt hwh om om|(simp;done)) (hnf:=by first|rfl|assumption|omega|exact Te.ix_lt hwh om om|(simp;done))) (.c (j:=4) rfl (.c (j:=3) rfl .n))<|e_mv rfl<|e_p (zy rfl rfl)<|e_p (zy rfl rfl)<|zZ rfl rfl (zF zr35 rfl) (fun b28=> ?_)
      refine zE 0 rfl rfl rfl rfl rfl sz35 rfl (.t2 (.take .nil)) .z<|e_p (zd rfl)<|zi<|zc<|zf<|zf ?_
      have e29:(if Ms.check (Te.eVk wn ((wn+1)*(hn9+1))) (Te.eF wn (Fl.ge l th) n)=0 then yd (Te.eF wn (Fl.ge l th) n) else []:List Int)=yd (Te.eF wn (Fl.ge l th) n):=by rw [if_pos hck]
      rw [e29]
      have e30:(Ms.check (Te.eVk wn ((wn+1)*(hn9+1))) (Te.eF wn (Fl.ge l th) n):Int)=0:=by exact hck
      rw [e30]
      have e31:(if Bl.rok ((wn:Nat):Int) ((hn9:Nat):Int) m l then (if 0≤th∧th≤65536 then (0:Int) else 2) else 1)=0:=Fl.ask0.2 hok9
      rw [e31]
      refine za<|e_mv rfl<|e_mv rfl<|e_p (zv (z:=0) rfl rfl (w64 dd))<|e_mv rfl<|e_p (zv (z:=0) rfl rfl (w64 dd))<|e_mv rfl<|e_p (zv (z:=0) rfl rfl (w64 dd))<|e_mv rfl<|e_p (zv (z:=0) rfl rfl (w64 dd))<|e_mv rfl<|e_p (zv (z:=0) rfl rfl (w64 dd))<|e_p (zOa rfl rfl)<|e_mv rfl<|e_ru (zm 2 ty32 rfl rfl (.t2 .nil))<|zia rfl rfl (.c rfl .n) ce13 (zbb (pv:=pv) (nv:=(Te.eVk wn ((wn+1)*(hn9+1))).length) (cv:=cv) (V:=(Te.eVk wn ((wn+1)*(hn9+1)))) (pf:=pf) (nf:=(Te.eF wn (Fl.ge l th) n).length) (cf:=cf) (F:=(Te.eF wn (Fl.ge l th) n)) (hnv:=by first|rfl|assumption|omega|exact Te.ix_lt hwh om om|(simp;done)) (hnf:=by first|rfl|assumption|omega|exact Te.ix_lt hwh om om|(simp;done))) (.c (j:=4) rfl (.c (j:=3) rfl .n))<|e_p (zOa rfl rfl) ?_
      rw [show (decide (Ms.check (Te.eVk wn ((wn+1)*(hn9+1))) (Te.eF wn (Fl.ge l th) n)≠0))=false from by exact decide_eq_false (fun h=>h hck)]
      refine e_p (zn rfl rfl)<|zi<|zc<|zEa rfl rfl<|zw<|zc<|zf ?_
      have hFb:=Te.eF_b wn (Fl.ge l th) n
      have hpb:=Te.part_b (Te.eF wn (Fl.ge l th) n)
      have hpl:=Te.part_len (Te.eF wn (Fl.ge l th) n)
      refine za<|e_p (zd rfl)<|zi<|zc<|zf<|zf<|za<|e_mv rfl<|e_p (zR Try.underlying22 rfl)<|e_mv rfl<|zi<|zc<|zq<|zY (X:=Nat) (fun x:Nat=>x≤(yd (Te.eF wn (Fl.ge l th) n)).length) (fun x=>[(27,ya yb (Te.mostL ((yd (Te.eF wn (Fl.ge l th) n)).take x))),(219,ya yb ((x:Nat):Int)),(218,ya yb (((yd (Te.eF wn (Fl.ge l th) n)).length:Nat):Int)),(217,.slice p226 ((yd (Te.eF wn (Fl.ge l th) n)).length) c227),(25,yc (some ⟨b28,0,none⟩)),(21,.slice p224 ((ye (Te.eVk wn ((wn+1)*(hn9+1))) (Te.eF wn (Fl.ge l th) n) bm1).length) c225),(19,ya yb (Ms.eulerR (Te.eVk wn ((wn+1)*(hn9+1))) (Te.eF wn (Fl.ge l th) n))),(17,ya yb zz),(15,.slice p322 (AA.length) c323),(11,ya yb (Te.aC (Fl.ge l th) n))]) (fun x=>[boxA b28 35 [ya yb ((yf (Te.eVk wn ((wn+1)*(hn9+1))) (Te.eF wn (Fl.ge l th) n)).1),ya yb ((yf (Te.eVk wn ((wn+1)*(hn9+1))) (Te.eF wn (Fl.ge l th) n)).2.1),ya yb ((yf (Te.eVk wn ((wn+1)*(hn9+1))) (Te.eF wn (Fl.ge l th) n)).2.2)],boxA b9 32 [.slice pv ((Te.eVk wn ((wn+1)*(hn9+1))).length) cv,.slice pf ((Te.eF wn (Fl.ge l th) n).length) cf]]) (fun x=>[slF (rI .i64) p226 c227 (yd (Te.eF wn (Fl.ge l th) n)),slF (rS (rI .i64)) p224 c225 (ye (Te.eVk wn ((wn+1)*(hn9+1))) (Te.eF wn (Fl.ge l th) n) bm1),slF (rI13 .i64) p322 c323 AA,slF (rI3 .i64) pf cf (Te.eF wn (Fl.ge l th) n),slF (rI3 .i64) pv cv (Te.eVk wn ((wn+1)*(hn9+1))),atF b4 0 [ya yb ((wn:Nat):Int)],atF b2 0 [ya yb th],atF b1 0 [ya yb ((wn:Nat):Int),ya yb ((hn9:Nat):Int),ya yb m,.slice p n cap],slF (rI .i64) p cap l]) (fun x:Nat=>(yd (Te.eF wn (Fl.ge l th) n)).length - x) 0 (show 0≤(yd (Te.eF wn (Fl.ge l th) n)).length from by exact Nat.zero_le _) ((.e rfl (by rfl) (.e rfl cgs (.of rfl))):SubM _ _) (ho:=((.of [0,1] rfl):PickO _ _ _)) ((.of [0,1,2,3,4,5,6,7,8] rfl):SelR _ _ _) ?_
      rintro k hI
      replace hI:k≤(yd (Te.eF wn (Fl.ge l th) n)).length:=hI
      try dsimp only
      have hmb:=Te.most_b (l:=(yd (Te.eF wn (Fl.ge l th) n))) (N:=200) dd (fun k=>by have:=hpb k;omega) k hI
      have hpk:=hpb k
      refine zf<|za<|e_p (zD rfl rfl)<|zi<|zc<|zf<|zG rfl (fun h32=> ?_) (fun h32=> ?_)
      ·
       refine zw<|zc<|zf<|zq<|zf<|za<|zM (x0:=((yd (Te.eF wn (Fl.ge l th) n)).getD k 0)) 0 k rfl Try.underlying22 sz3 rfl rfl rfl (by first|rfl|assumption|(simp;done)|omega) rfl rfl (gD (d:=0) om) (fun b33 o34 hok35=> ?_)
       replace hok35:=ze.1 hok35
       refine e_ru (zp (j:=0) 0 ty3 rfl rfl rfl rfl)<|e_p (zd rfl)<|zi<|zc<|za<|e_mv rfl<|e_mv rfl<|e_p (zv (z:=(((yd (Te.eF wn (Fl.ge l th) n)).getD k 0)+1)) rfl rfl (w64 om))<|e_p (zGb rfl rfl)<|e_p (zd rfl)<|zi<|zB<|zc<|za<|e_p (zv (z:=(((k+1):Nat):Int)) rfl rfl (w64 om))<|e_mv rfl<|zi<|zQ (k+1) (show (k+1)≤(yd (Te.eF wn (Fl.ge l th) n)).length from by show k+1≤(yd (Te.eF wn (Fl.ge l th) n)).length;omega) (by show (yd (Te.eF wn (Fl.ge l th) n)).length - (k+1)<(yd (Te.eF wn (Fl.ge l th) n)).length - k;omega) ((.e rfl (by rw [Te.most_take om]) (.of rfl)):SubM _ _) (ho:=((.of [0,0] rfl):PickO _ _ _)) ((.of [1,2,3,4,5,6,7,8,9] rfl):SelR _ _ _)
      ·
       refine zP<|zj<|zj<|zo<|zc<|zf ?_
       have e36:(Te.mostL ((yd (Te.eF wn (Fl.ge l th) n)).take k))=(Te.mostL (yd (Te.eF wn (Fl.ge l th) n))):=by rw [List.take_of_length_le om]
       rw [e36]
       have hba:=hA.ok
       have htA:Fl.tar AA=(Te.aC (Fl.ge l th) n):=hans.ar
       have haC:=Te.aC_b (Fl.ge l th) n
       refine za<|e_p (zd rfl)<|zi<|zc<|zf<|zf<|za<|e_mv rfl<|e_p (zR Try.underlying36 rfl)<|e_mv rfl<|zi<|zc<|zq<|zY (X:=Nat) (fun x:Nat=>x≤AA.length) (fun x=>[(30,ya yb (Fl.tar (AA.take x))),(230,ya yb ((x:Nat):Int)),(229,ya yb (((AA.length):Nat):Int)),(228,.slice p322 (AA.length) c323),(27,ya yb (Te.mostL (yd (Te.eF wn (Fl.ge l th) n)))),(25,yc (some ⟨b28,0,none⟩)),(21,.slice p224 ((ye (Te.eVk wn ((wn+1)*(hn9+1))) (Te.eF wn (Fl.ge l th) n) bm1).length) c225),(19,ya yb (Ms.eulerR (Te.eVk wn ((wn+1)*(hn9+1))) (Te.eF wn (Fl.ge l th) n))),(17,ya yb zz),(15,.slice p322 (AA.length) c323),(11,ya yb (Te.aC (Fl.ge l th) n))]) (fun x=>[boxA b28 35 [ya yb ((yf (Te.eVk wn ((wn+1)*(hn9+1))) (Te.eF wn (Fl.ge l th) n)).1),ya yb ((yf (Te.eVk wn ((wn+1)*(hn9+1))) (Te.eF wn (Fl.ge l th) n)).2.1),ya yb ((yf (Te.eVk wn ((wn+1)*(hn9+1))) (Te.eF wn (Fl.ge l th) n)).2.2)],boxA b9 32 [.slice pv ((Te.eVk wn ((wn+1)*(hn9+1))).length) cv,.slice pf ((Te.eF wn (Fl.ge l th) n).length) cf]]) (fun x=>[slF (rI .i64) p226 c227 (yd (Te.eF wn (Fl.ge l th) n)),slF (rS (rI .i64)) p224 c225 (ye (Te.eVk wn ((wn+1)*(hn9+1))) (Te.eF wn (Fl.ge l th) n) bm1),slF (rI13 .i64) p322 c323 AA,slF (rI3 .i64) pf cf (Te.eF wn (Fl.ge l th) n),slF (rI3 .i64) pv cv (Te.eVk wn ((wn+1)*(hn9+1))),atF b4 0 [ya yb ((wn:Nat):Int)],atF b2 0 [ya yb th],atF b1 0 [ya yb ((wn:Nat):Int),ya yb ((hn9:Nat):Int),ya yb m,.slice p n cap],slF (rI .i64) p cap l]) (fun x:Nat=>AA.length - x) 0 (show 0≤AA.length from by exact Nat.zero_le _) ((.e rfl (by rfl) (.e rfl cgs (.of rfl))):SubM _ _) (ho:=((.of [0,0] rfl):PickO _ _ _)) ((.of [0,1,2,3,4,5,6,7,8] rfl):SelR _ _ _) ?_
       rintro q9 hI
       replace hI:q9≤AA.length:=hI
       try dsimp only
       have htb:=Te.tar_b hba q9
       have htb2:=Te.tar_b hba (q9+1)
       refine zf<|za<|e_p (zD rfl rfl)<|zi<|zc<|zf<|zG rfl (fun h37=> ?_) (fun h37=> ?_)
       ·
        have htk:=Te.tar_take (A:=AA) (i:=q9) om
        rw [htk] at htb2
        refine zw<|zc<|zf<|zq<|zf<|za<|zM (x0:=(AA.getD q9 b0)) 2 q9 rfl Try.underlying36 sz51 rfl rfl rfl (by first|rfl|assumption|(simp;done)|omega) rfl rfl (gD (d:=b0) om) (fun b38 o39 hok40=> ?_)
        obtain ⟨hok400,hok401,hok402,hok403,hok404,hok405,hok406,hok407,hok408,hok409,hok4010,hok4011,hok4012⟩:=hok40
        replace hok400:=ze.1 hok400
        replace hok401:=ze.1 hok401
        replace hok402:=ze.1 hok402
        replace hok403:=ze.1 hok403
        replace hok404:=ze.1 hok404
        replace hok405:=ze.1 hok405
        replace hok406:=ze.1 hok406
        replace hok407:=ze.1 hok407
        replace hok408:=ze.1 hok408
        replace hok409:=ze.1 hok409
        replace hok4010:=ze.1 hok4010
        replace hok4011:=ze.1 hok4011
        replace hok4012:=ze.1 hok4012
        refine e_ru (zJ (j:=0) 0 ty51 rfl rfl rfl (.t8 (.t4 (.take .nil))))<|zZ rfl rfl (zF zr51 rfl) (fun b41=> ?_)
        refine zE 0 rfl rfl rfl rfl rfl sz51 rfl (.t8 (.t4 (.take .nil))) .z<|zi<|zc<|za<|e_mv rfl<|e_p (zg Try.underlying51 rfl sz3 rfl rfl)<|e_ru (zb 0 ty3 rfl rfl rfl)<|e_p (zv (z:=((Fl.tar (AA.take q9))+(AA.getD q9 b0).ar)) rfl rfl (w64 om))<|e_p (zd rfl)<|zi<|zB<|zc<|za<|e_p (zv (z:=(((q9+1):Nat):Int)) rfl rfl (w64 om))<|e_mv rfl<|zi<|zQ (q9+1) (show (q9+1)≤AA.length from by show q9+1≤AA.length;omega) (by show AA.length - (q9+1)<AA.length - q9;omega) ((.e rfl (by rw [Te.tar_take om]) (.of rfl)):SubM _ _) (ho:=((.of [1,1] rfl):PickO _ _ _)) ((.of [1,2,3,4,5,6,7,8,9] rfl):SelR _ _ _)
       ·
        refine zP<|zj<|zj<|zo<|zc<|zf ?_
        have heu:Ms.eulerR (Te.eVk wn ((wn+1)*(hn9+1))) (Te.eF wn (Fl.ge l th) n)=((AA.length:Nat):Int) - zz:=by unfold Ms.eulerR;rw [if_pos hck];exact hans.eu
        have hlo:(((ye (Te.eVk wn ((wn+1)*(hn9+1))) (Te.eF wn (Fl.ge l th) n) bm1).length:Nat):Int)=((AA.length:Nat):Int)+zz:=by unfold ye;rw [if_pos hck];exact hans.lo bm1 (hB hck)
        have hpa:Te.mostL (yd (Te.eF wn (Fl.ge l th) n))=((AA.length:Nat):Int):=hans.pa
        have hve:yf (Te.eVk wn ((wn+1)*(hn9+1))) (Te.eF wn (Fl.ge l th) n)=(0,0,2*(Te.aC (Fl.ge l th) n)):=by unfold yf;rw [if_pos hck];exact hans.ve
        have hta9:Fl.tar (AA.take q9)=(Te.aC (Fl.ge l th) n):=by rw [List.take_of_length_le om];exact htA
        refine za<|e_mv rfl<|e_mv rfl<|e_p (zR Try.underlying36 rfl)<|e_mv rfl<|e_p (zxa (z:=((((AA.length):Nat):Int) - zz)) rfl rfl (w64 om))<|e_p (zya rfl rfl) ?_
        rw [show (decide (Ms.eulerR (Te.eVk wn ((wn+1)*(hn9+1))) (Te.eF wn (Fl.ge l th) n)=((((AA.length):Nat):Int) - zz)))=true from by exact decide_eq_true heu]
        refine e_mv rfl<|e_mv rfl<|e_p (zR Try.underlying42 rfl)<|e_mv rfl<|e_p (zR Try.underlying36 rfl)<|e_mv rfl<|e_p (zv (z:=((((AA.length):Nat):Int)+zz)) rfl rfl (w64 om))<|e_p (zya rfl rfl) ?_
        rw [show (decide ((((ye (Te.eVk wn ((wn+1)*(hn9+1))) (Te.eF wn (Fl.ge l th) n) bm1).length:Nat):Int)=((((AA.length):Nat):Int)+zz)))=true from by exact decide_eq_true hlo]
        refine e_p (zn rfl rfl)<|e_mv rfl<|e_mv rfl<|e_mv rfl<|e_p (zR Try.underlying36 rfl)<|e_p (zya rfl rfl) ?_
        rw [show (decide ((Te.mostL (yd (Te.eF wn (Fl.ge l th) n)))=(((AA.length):Nat):Int)))=true from by exact decide_eq_true hpa]
        refine e_p (zn rfl rfl)<|e_mv rfl<|e_mv rfl<|e_mv rfl<|e_p (zya rfl rfl) ?_
        rw [show (decide ((Fl.tar (AA.take q9))=(Te.aC (Fl.ge l th) n)))=true from by exact decide_eq_true hta9]
        refine e_p (zn rfl rfl)<|e_mv rfl<|e_ru (zm 0 ty35 rfl rfl (.t2 (.take .nil)))<|e_mv rfl<|e_p (zBa (z:=(2*(Te.aC (Fl.ge l th) n))) rfl rfl (w64 om))<|e_p (zA zr35 rfl Try.underlying35 sz3 (.c rfl (.c rfl (.c rfl .n))) (.c rfl rfl rfl (.take .nil) (.c rfl rfl rfl (.skip (.take .nil)) (.c rfl rfl rfl (.s2 (.take .nil)) .n))))<|e_p (zyc (p:=(yf (Te.eVk wn ((wn+1)*(hn9+1))) (Te.eF wn (Fl.ge l th) n)).1=0∧(yf (Te.eVk wn ((wn+1)*(hn9+1))) (Te.eF wn (Fl.ge l th) n)).2.1=0∧(yf (Te.eVk wn ((wn+1)*(hn9+1))) (Te.eF wn (Fl.ge l th) n)).2.2=(2*(Te.aC (Fl.ge l th) n))) kr rfl rfl (zIc Try.underlying35 sz3 (zjc ty3 rfl rfl (zic Try.underlying3) (zjc ty3 rfl rfl (zic Try.underlying3) (zjc ty3 rfl rfl (zic Try.underlying3) zkd)))) (by simp [Bool.decide_and])) ?_
        rw [show (decide ((yf (Te.eVk wn ((wn+1)*(hn9+1))) (Te.eF wn (Fl.ge l th) n)).1=0∧(yf (Te.eVk wn ((wn+1)*(hn9+1))) (Te.eF wn (Fl.ge l th) n)).2.1=0∧(yf (Te.eVk wn ((wn+1)*(hn9+1))) (Te.eF wn (Fl.ge l th) n)).2.2=(2*(Te.aC (Fl.ge l th) n))))=true from by exact decide_eq_true (by rw [hve];exact ⟨rfl,rfl,rfl⟩)]
        refine e_p (zn rfl rfl)<|e_p (zd rfl)<|zi<|zc<|zU ?_
        exact zO Try.results3 () trivial (zx rfl) rfl (ho:=oN) sN
end Go.Proofs.Ytpdbimfnhglhpaa.Sp
