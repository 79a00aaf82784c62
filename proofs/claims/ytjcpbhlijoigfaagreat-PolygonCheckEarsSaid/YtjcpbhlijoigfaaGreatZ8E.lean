/- Lemmas on the walk and plain lemmas that the claim of this folder uses; each states its own conditions. Lines were printed by a program of ours. -/
import Derived.Test.YtjcpbhlijoigfaaGreatZ8D
set_option linter.unusedVariables false
set_option linter.unusedSimpArgs false
set_option linter.unusedSectionVars false
open Go.Value renaming int → ya
open Go.IntKind renaming i64 → yb
open Go.Proofs.YtjcpbhlijoigfaaGreat.Big renaming digs → yc, ln → yk, raw → yl, zW → yn, ln_mono' → yr, fq → yt, digs_ok → yv, hq_num → yw, hq_den → yx, okL_getD → yA, hq → yB, sg → yD, len_digs_nil → yE, zPa → yG, zXa → yH, fr → yI
open Go.Proofs.Tryz renaming underlying54 → yd, underlying50 → ye, underlying22 → yf, underlying43 → yg, underlying39 → yh, underlying30 → yi, prog → yj, underlying41 → ym, results34 → yo, underlying121 → yp, underlying120 → yq, underlying34 → yu, underlying69 → yy, results16 → yz, results53 → yC, underlying3 → yF
namespace Go.Proofs.YtjcpbhlijoigfaaGreat.Sp
open Go
set_option linter.unusedVariables false
set_option maxRecDepth 100000
set_option maxHeartbeats 8000000
theorem zld {a:Nat} {b:Nat} {p1:Option Addr} {c1:Nat} {p2:Option Addr} {c2:Nat} (hb1:(yc a).length≤549755813888) (hb2:(yc b).length≤549755813888) (hb0:0<b):Con yj 131 [.slice p1 ((yc a).length) c1,.slice p2 ((yc b).length) c2] [] [slF (rI .u32) p1 c1 (yc a),slF (rI .u32) p2 c2 (yc b)] (Y:=(Option Addr)×Nat×(Option Addr)×Nat) (fun y=>True) (fun y=> .tuple #[.slice (y.1) ((yc (a / b)).length) (y.2.1),.slice (y.2.2.1) ((yc (a%b)).length) (y.2.2.2)]) (fun y=>[]) (fun y=>[slF (rI .u32) (y.1) (y.2.1) (yc (a / b)),slF (rI .u32) (y.2.2.1) (y.2.2.2) (yc (a%b))]):=by
 refine zp Tryz.func131 rfl rfl rfl (fun c=> ?_)
 show RunC _ _ _ _ _ [(0,.slice p1 ((yc a).length) c1),(1,.slice p2 ((yc b).length) c2)] [] [slF (rI .u32) p1 c1 (yc a),slF (rI .u32) p2 c2 (yc b)]
 refine zfa 0 rfl (fun hL0=> ?_)
 refine zfa 1 rfl (fun hL1=> ?_)
 have hln0:=Big.znf hb0
 have hob:=yA (yv b) 0
 have hob1:=yA (yv b) ((yc b).length - 1)
 have hdv:=yr (Nat.div_le_self a b)
 have hdm:=Nat.mod_lt a hb0
 refine ze<|za<|e_p (zb rfl)<|e_p (zb rfl)<|zh<|zd<|ze<|za<|e_mv rfl<|e_p (zQ yh rfl)<|e_p (zb rfl)<|zh<|zd<|ze<|ze<|za<|e_mv rfl<|e_p (zsa rfl rfl)<|zh<|zd<|zB rfl (fun hl1=> ?_) (fun hl1=> ?_)
 ·
  have hbd:=Big.one_digit (by omega:(yc b).length=1)
  have hbl:b<1000000000:=by omega
  have hokt:Big.okL [((a%b:Nat):Int)]:=Big.okL_cons.2 ⟨by omega,Big.okL_nil⟩
  have hz3:=Big.made_nat hokt (show Big.valL [((a%b:Nat):Int)]=((a%b:Nat):Int) by simp only [Big.valL];omega)
  refine ze<|za<|e_mv rfl<|e_mv rfl<|zI (x0:=((yc b).getD 0 0)) 1 0 rfl yh sz121 rfl rfl rfl (by first|rfl|assumption|(simp;done)|(simp;omega)|omega) rfl rfl (gD (d:=0) om) (fun b1 o2 hok3=> ?_)
  replace hok3:=zH.1 hok3
  refine e_ru (zl (j:=0) 0 ty121 rfl rfl rfl rfl)<|e_p (zM (z:=((yc b).getD 0 0)) rfl (by rw [yp];rfl) yq (wu64 om)) ?_
  have e4:(((yc b).getD 0 0):Int)=((b:Nat):Int):=by exact hbd
  rw [e4]
  refine zL rfl rfl (.c rfl (.c rfl .n)) ce144 (zkd (a:=a) (mm:=b) (p:=p1) (cap:=c1) (hb:=by first|rfl|assumption|omega|(simp;done)) (hm0:=ass) (hm1:=by first|rfl|assumption|omega|(simp;done))) (.c (j:=1) rfl .n) ?_
  rintro ⟨p25,c26⟩ -
  dsimp only [aq,nq,cq]
  refine e_mv rfl<|e_p (zD rfl rfl)<|e_p (zD rfl rfl)<|e_p (zb rfl)<|e_p (zb rfl)<|zh<|zd<|ze<|za<|e_mv rfl<|e_mv rfl<|e_p (zM (z:=(((a%b):Nat):Int)) rfl (by rw [yq];rfl) yp (wu32 om))<|zNa rfl rfl (zba (enc:=fun z:Int=>[.int .u32 z]) (ok:=InK .u32) (h1:=fun _=>rfl) (h2:=fun _=>rfl) (k:=1) yh inf121 rfl dd dd dd (.c (x:=(((a%b):Nat):Int)) rfl rfl (fun _ _=>by exact zH.2 om) .n)) (fun b7 _=> ?_)
  refine zna 0 rfl .z<|zL rfl rfl (.c rfl (.c rfl .n)) ce112 (zRa (s:=false) (p:=some ⟨b7,0,none⟩) (n:=1) (cap:=1) (l:=[(((a%b):Nat):Int)]) (hn:=by first|rfl|omega|(simp;done)|(simp;omega)) (ho:=by exact hokt) (hln:=by first|rfl|omega|(simp;done)|(simp;omega))) (.c (j:=0) rfl .n) ?_
  rintro ⟨p28,c29⟩ -
  dsimp only [aq,nq,cq]
  refine e_p (zHa ym rfl ty39 rfl rfl)<|e_p (zb rfl)<|e_p (zb rfl)<|zh<|zd<|zJ<|zi ?_
  exact zEa Tryz.results131 (p25,c26,p28,c29) trivial (zn rfl) (zn rfl) (by rw [hz3]) (ho:=(.n:PickO _ _ _)) ((.c (j:=2) rfl (.e (j:=0) rfl (by rw [hz3]) .n)):SelR _ _ _)
 ·
  refine zt<|zd<|ze<|ze<|za<|e_mv rfl<|e_mv rfl<|zO rfl rfl (.c rfl (.c rfl .n)) ce129 (zZc (a:=a) (b:=b) (p1:=p1) (c1:=c1) (p2:=p2) (c2:=c2)) (.c (j:=0) rfl (.c (j:=1) rfl .n))<|e_p (zR rfl rfl)<|zh<|zd<|zB rfl (fun hlt=> ?_) (fun hlt=> ?_)
  ·
   have hab9:¬(b:Int)≤a:=fun h=>by have:=Big.cmp_ge.2 h;omega
   have hab:a<b:=by omega
   refine ze<|za<|zNa rfl rfl (zDa (rI .u32) yh inf121) (fun b10 _=> ?_)
   refine e_mv rfl<|e_p (zb rfl)<|e_p (zb rfl)<|zh<|zd<|zJ<|zi ?_
   have hz1:a / b=0:=Nat.div_eq_of_lt hab
   have hz2:a%b=a:=Nat.mod_eq_of_lt hab
   refine zTb 0 rfl .z ?_
   exact zEa Tryz.results131 (some ⟨b10,0,none⟩,0,p1,c1) trivial (zn rfl) (zn rfl) (by rw [hz1,hz2];rfl) (ho:=(.n:PickO _ _ _)) ((.e (j:=0) rfl (by rw [hz1];rfl) (.e (j:=1) rfl (by rw [hz2]) .n)):SelR _ _ _)
  ·
   have hab:b≤a:=by have h9:=Big.cmp_ge.1 (by omega:0≤Big.cmp (a:Int) (b:Int));omega
   have hab2:=yr hab
   have hq1:0≤1000000000 / ((yc b).getD ((yc b).length - 1) 0+1):=Int.ediv_nonneg om om
   have hdt:=Big.digs_top (b:=b) (n:=(yc b).length - 1) om
   have hq2:1000000000 / ((yc b).getD ((yc b).length - 1) 0+1)≤500000000:=Int.ediv_le_of_le_mul om om
   refine zt<|zd<|ze<|za<|e_mv rfl<|e_mv rfl<|e_p (zja (z:=((((yc b).length - 1):Nat):Int)) rfl rfl (w64 om))<|zI (x0:=((yc b).getD ((yc b).length - 1) 0)) 1 ((yc b).length - 1) rfl yh sz121 rfl rfl rfl (by first|rfl|assumption|(simp;done)|(simp;omega)|omega) rfl rfl (gD (d:=0) om) (fun b11 o12 hok13=> ?_)
   replace hok13:=zH.1 hok13
   refine e_ru (zl (j:=0) 0 ty121 rfl rfl rfl rfl)<|e_p (zM (z:=((yc b).getD ((yc b).length - 1) 0)) rfl (by rw [yp];rfl) yq (wu64 om))<|e_p (zw (z:=(((yc b).getD ((yc b).length - 1) 0)+1)) rfl rfl (wu64 om))<|e_p (zkb (z:=(1000000000 / (((yc b).getD ((yc b).length - 1) 0)+1))) rfl rfl om (by rw [quoN (z:=(1000000000 / (((yc b).getD ((yc b).length - 1) 0)+1))) om om];exact wu64 om))<|e_p (zb rfl)<|zh<|zd<|ze ?_
   obtain ⟨s,hs⟩:∃s:Nat,s=(1000000000 / ((yc b).getD ((yc b).length - 1) 0+1)).toNat:=⟨_,rfl⟩
   obtain ⟨hs1,hs2,hs3⟩:=Big.scale_len (n:=(yc b).length - 1) om hs
   have hsd:=Big.digs_one hs1 (by omega:s<1000000000)
   have hsl:(yc s).length=1:=by rw [hsd];rfl
   have e14:((1000000000 / (((yc b).getD ((yc b).length - 1) 0)+1)):Int)=((s:Nat):Int):=by omega
   rw [e14]
   refine za<|e_mv rfl<|e_mv rfl<|zL rfl rfl (.c rfl (.c rfl .n)) ce145 (zec (a:=a) (d:=s) (p0:=p1) (cap:=c1) (hb:=by first|rfl|assumption|omega|(simp;done)) (hd:=by first|rfl|assumption|omega|(simp;done))) (.c (j:=1) rfl .n) ?_
   rintro ⟨p315,c316⟩ -
   dsimp only [aq,nq,cq]
   refine e_mv rfl<|e_mv rfl<|zL rfl rfl (.c rfl (.c rfl .n)) ce145 (zec (a:=b) (d:=s) (p0:=p2) (cap:=c2) (hb:=by first|rfl|assumption|omega|(simp;done)) (hd:=by first|rfl|assumption|omega|(simp;done))) (.c (j:=3) rfl .n) ?_
   rintro ⟨p317,c318⟩ -
   dsimp only [aq,nq,cq]
   refine e_p (zb rfl)<|e_p (zb rfl)<|zh<|zd<|ze ?_
   obtain ⟨A,hA⟩:∃z,z=a*s:=⟨_,rfl⟩
   rw [← hA]
   obtain ⟨V,hV⟩:∃z,z=b*s:=⟨_,rfl⟩
   rw [← hV]
   refine zfa 1 rfl (fun hcA=> ?_)
   have hAl:(yc a).length≤(yc A).length:=by rw [hA];exact Big.len_mul_ge hs1
   have hAl2:(yc A).length≤(yc a).length+1:=by have h8:=Big.len_mul_le a s;rw [hsl] at h8;rw [hA];exact h8
   obtain ⟨m,hm⟩:∃z,(yc V).length=z+1:=⟨(yc b).length - 1,by rw [hV,hs3]⟩
   have hmb:(yc b).length=m+1:=by rw [hV,hs3] at hm;omega
   have e19:((((yc b).length:Nat):Int):Int)=(((m+1):Nat):Int):=by omega
   rw [e19]
   refine za<|e_mv rfl<|e_mv rfl<|e_p (zQ yh rfl)<|e_mv rfl<|e_p (zja (z:=((((yc A).length - (m+1)):Nat):Int)) rfl rfl (w64 om))<|e_p (zw (z:=((((yc A).length - m):Nat):Int)) rfl rfl (w64 om))<|e_p (zpe (lo:=((yc A).length - m)) (hi:=(yc A).length) yh sz121 rfl (.s rfl) .n (.inr ⟨_,rfl⟩) (.inl ⟨rfl,rfl⟩) om om)<|zAc (zNf 1 rfl ((yc A).length - m) ((yc A).length) om om) (fun _ _=> ?_)
   refine zL rfl rfl (.c rfl (.c rfl .n)) ce112 (zRa (s:=false) (p:=(newP p315 c316 ((yc A).length - m) 1)) (n:=((yc A).length) - ((yc A).length - m)) (cap:=(c316 - ((yc A).length - m))) (l:=(((yc A).take ((yc A).length)).drop ((yc A).length - m))) (hn:=by first|rfl|omega|(simp;done)|(simp;omega)) (ho:=by exact Big.okL_drop (Big.okL_take (yv _) _) _) (hln:=by first|rfl|omega|(simp;done)|(simp;omega))) (.c (j:=0) rfl .n) ?_
   rintro ⟨p220,c221⟩ -
   dsimp only [aq,nq,cq]
   refine e_p (zHa ym rfl ty39 rfl rfl)<|e_p (zb rfl)<|zh<|zd<|ze ?_
   obtain ⟨R0,hR0⟩:∃z,z=(yD false (Big.valL (((yc A).take ((yc A).length)).drop ((yc A).length - m)))).natAbs:=⟨_,rfl⟩
   rw [← hR0]
   have hpt:Big.PtI A V ((yc A).length - m) [] R0:=Big.PtI.start hm om (by rw [hR0,List.take_length];have:=Big.valL_nonneg (Big.okL_drop (yv A) ((yc A).length - m));simp only [yD];omega)
   refine za<|e_mv rfl<|e_p (zQ yh rfl)<|e_mv rfl<|e_p (zja (z:=((((yc A).length - (m+1)):Nat):Int)) rfl rfl (w64 om))<|e_p (zw (z:=((((yc A).length - m):Nat):Int)) rfl rfl (w64 om))<|zNa rfl rfl (zsb (r:=rI .u32) (k:=((yc A).length - m)) (x0:=0) (γ0:=()) yh inf121 rfl rfl rfl rfl om om rfl (fun g _=>by exact zH.2 dd) dd) (fun b22 _=> ?_)
   refine e_p (zb rfl)<|zh<|zd<|ze<|ze<|za<|e_mv rfl<|e_p (zQ yh rfl)<|e_mv rfl<|e_p (zja (z:=((((yc A).length:Nat):Int) - (((m+1):Nat):Int))) rfl rfl (w64 om))<|e_p (zb rfl)<|zh<|zd<|zv<|zma (X:=Nat×(List Int)×Nat×(Option Addr)×Nat) (fun x:Nat×(List Int)×Nat×(Option Addr)×Nat=>Big.PtI A V x.1 x.2.1 x.2.2.1∧x.1+x.2.1.length=(yc A).length - m) (fun x=>[(10,.slice (x.2.2.2.1) ((yc (x.2.2.1)).length) (x.2.2.2.2)),(12,ya yb (((x.1:Nat):Int) - 1)),(11,.slice (some ⟨b22,0,none⟩) ((yc A).length - m) ((yc A).length - m)),(1,.slice p317 ((yc V).length) c318),(0,.slice p315 ((yc A).length) c316),(9,.int .u64 ((s:Nat):Int)),(6,ya yb (((m+1):Nat):Int)),(5,.slice none 0 0),(4,.slice none 0 0)]) (fun x=>[rowA 121 (rI .u32) (some ⟨b22,0,none⟩) ((yc A).length - m) (List.replicate x.1 0++x.2.1)]) (fun x=>[slF (rI .u32) (x.2.2.2.1) (x.2.2.2.2) (yc (x.2.2.1)),slF (rI .u32) p220 c221 (yc R0),slF (rI .u32) (newP p315 c316 ((yc A).length - m) 1) (c316 - ((yc A).length - m)) (((yc A).take ((yc A).length)).drop ((yc A).length - m)),slF (rI .u32) p317 c318 (yc V),slF (rI .u32) p315 c316 (yc A),atF b11 o12 [.int .u32 ((yc b).getD ((yc b).length - 1) 0)],slF (rI .u32) p1 c1 (yc a),slF (rI .u32) p2 c2 (yc b)]) (fun x:Nat×(List Int)×Nat×(Option Addr)×Nat=>x.1) (((yc A).length - m),([]:List Int),R0,p220,c221) (show Big.PtI A V ((yc A).length - m) ([]:List Int) R0∧((yc A).length - m)+([]:List Int).length=(yc A).length - m from by exact ⟨hpt,rfl⟩) ((.e rfl (by first|rfl|(congr 1;omega)|simp_all) (.e rfl (congrArg (Value.int .i64) om) (.of rfl))):SubM _ _) (ho:=((.e (i:=0) rfl (by simp) .n):PickO _ _ _)) ((.e (j:=0) rfl (by first|rfl|simp_all) (.of [0,1,2,3,4,5,6] rfl)):SelR _ _ _) ?_
   rintro ⟨jj,qs,R,pr,cr⟩ hI
   replace hI:Big.PtI A V jj qs R∧jj+qs.length=(yc A).length - m:=hI
   try dsimp only
   obtain ⟨hP,hql⟩:=hI
   refine ze<|ze<|za<|e_mv rfl<|e_p (zIa rfl rfl)<|zh<|zd<|zB rfl (fun hj=> ?_) (fun hj=> ?_)
   ·
    obtain ⟨j,rfl⟩:∃j,jj=j+1:=⟨jj - 1,by omega⟩
    have e23:(((((j+1):Nat):Int) - 1):Int)=((j:Nat):Int):=by omega
    rw [e23]
    have hjle:=hP.le
    have hRV:=hP.lt
    have hdn:=yA (yv A) j
    obtain ⟨d,hd⟩:∃d:Nat,(yc A).getD j 0=(d:Int):=⟨_,(Int.toNat_of_nonneg hdn.1).symm⟩
    have hd9:d<1000000000:=by omega
    have hWlt9:=Big.pt_lim hRV hd9
    have hRl:=yr (Nat.le_of_lt hRV)
    refine zt<|zd<|ze<|zv<|ze<|za<|e_mv rfl<|e_mv rfl<|e_mv rfl<|zI (x0:=((yc A).getD j 0)) 4 j rfl yh sz121 rfl rfl rfl (by first|rfl|assumption|(simp;done)|(simp;omega)|omega) rfl rfl (gD (d:=0) om) (fun b24 o25 hok26=> ?_)
    replace hok26:=zH.1 hok26
    refine e_ru (zl (j:=0) 0 ty121 rfl rfl rfl rfl) ?_
    have e27:(((yc A).getD j 0):Int)=((d:Nat):Int):=by exact hd
    rw [e27]
    refine zL rfl rfl (.c rfl (.c rfl .n)) ce146 (zOd (a:=R) (d:=d) (p0:=pr) (cap:=cr) (hb:=by first|rfl|assumption|omega|(simp;done)) (hd:=by first|rfl|assumption|omega|(simp;done))) (.c (j:=1) rfl .n) ?_
    rintro ⟨p328,c329⟩ -
    dsimp only [aq,nq,cq]
    refine e_p (zb rfl)<|zh<|zd<|ze ?_
    obtain ⟨W,hW⟩:∃z,z=(R*1000000000+d):=⟨_,rfl⟩
    rw [← hW]
    have hWlt:W<V*1000000000:=by rw [hW];exact hWlt9
    have hWl:=Big.pt_wlen hWlt hm
    have hw1:=yA (yv W) (m+1)
    have hw0:=yA (yv W) m
    have hv0:=yA (yv V) m
    have hg0:0≤(((yc W).getD (m+1) 0*1000000000+(yc W).getD m 0) / ((yc V).getD m 0+1)):=Int.ediv_nonneg om om
    have hg1:(((yc W).getD (m+1) 0*1000000000+(yc W).getD m 0) / ((yc V).getD m 0+1))≤1000000000000000000:=Int.le_trans (Int.ediv_le_self _ om) om
    refine zZ (OW:=[]) (O:=[rowA 121 (rI .u32) (some ⟨b22,0,none⟩) ((yc A).length - m) (List.replicate (j+1) 0++qs)]) 100000 mixed (.then (.block (.then (.then (.block (.then .ret)))))) kr<|e_dm 0 rfl rfl rfl<|e_dm 1 rfl rfl rfl<|e_dm 4 rfl rfl rfl<|e_dm 5 rfl rfl rfl<|e_pv 6 rfl rfl (zja (z:=((m:Nat):Int)) rfl rfl (w64 om))<|e_dm 9 rfl rfl rfl<|e_dm 10 rfl rfl rfl<|e_pv 11 rfl rfl (zja (z:=((m:Nat):Int)) rfl rfl (w64 om))<|zca (x0:=((yc V).getD m 0)) 12 rfl rfl kr kr 5 m rfl yh sz121 rfl rfl rfl (by first|rfl|assumption|(simp;done)|(simp;omega)|omega) rfl rfl (gD (d:=0) om) (fun b30 o31 hok32=> ?_)
    replace hok32:=zH.1 hok32
    refine e_u 13 rfl rfl (zl (j:=0) 0 ty121 rfl rfl rfl rfl)<|e_pv 14 rfl rfl (zM (z:=((yc V).getD m 0)) rfl (by rw [yp];rfl) yq (wu64 om))<|e_pv 15 rfl rfl (zw (z:=(((yc V).getD m 0)+1)) rfl rfl (wu64 om))<|e_one 2 (zua rfl rfl rfl rfl (.c rfl (.c rfl .n)) ce143 (zcb (p:=p328) (n:=(yc W).length) (cap:=c329) (l:=yc W) (i:=(m+1)) (hn:=by first|rfl|assumption|omega|(simp;done)) (hi:=by first|rfl|assumption|omega|(simp;done))) (.c (j:=1) rfl .n) ?_)
    refine e_pv 3 rfl rfl (zGa (z:=((yc W).getD (m+1) 0*1000000000)) rfl rfl (wu64 om))<|e_one 7 (zua rfl rfl rfl rfl (.c rfl (.c rfl .n)) ce143 (zcb (p:=p328) (n:=(yc W).length) (cap:=c329) (l:=yc W) (i:=m) (hn:=by first|rfl|assumption|omega|(simp;done)) (hi:=by first|rfl|assumption|omega|(simp;done))) (.c (j:=1) rfl .n) ?_)
    refine e_pv 8 rfl rfl (zw (z:=(((yc W).getD (m+1) 0*1000000000)+(yc W).getD m 0)) rfl rfl (wu64 om))<|e_pv 16 rfl rfl (zkb (z:=((((yc W).getD (m+1) 0*1000000000)+(yc W).getD m 0) / (((yc V).getD m 0)+1))) rfl rfl om (by rw [quoN (z:=((((yc W).getD (m+1) 0*1000000000)+(yc W).getD m 0) / (((yc V).getD m 0)+1))) om om];exact wu64 om))<|e_pv 17 rfl rfl (zb rfl)<|zX kr<|zd<|ze ?_
    obtain ⟨g0,hg9⟩:∃g:Nat,(g:Int)=(((yc W).getD (m+1) 0*1000000000+(yc W).getD m 0) / ((yc V).getD m 0+1)):=⟨_,Int.toNat_of_nonneg hg0⟩
    obtain ⟨hgm,hgl⟩:=Big.pt_guess hWlt hm hg9
    have hVg:=yr hgm
    have e33:(((((yc W).getD (m+1) 0*1000000000)+(yc W).getD m 0) / (((yc V).getD m 0)+1)):Int)=((g0:Nat):Int):=by exact hg9.symm
    rw [e33]
    refine za<|e_mv rfl<|e_mv rfl<|e_mv rfl<|zL rfl rfl (.c rfl (.c rfl .n)) ce145 (zec (a:=V) (d:=g0) (p0:=p317) (cap:=c318) (hb:=by first|rfl|assumption|omega|(simp;done)) (hd:=by first|rfl|assumption|omega|(simp;done))) (.c (j:=6) rfl .n) ?_
    rintro ⟨p334,c335⟩ -
    dsimp only [aq,nq,cq]
    refine zL rfl rfl (.c rfl (.c rfl .n)) ce130 (zWb (a:=W) (b:=V*g0) (p1:=p328) (c1:=c329) (p2:=p334) (c2:=c335) (hb1:=by first|rfl|assumption|omega|(simp;done)) (hb2:=by first|rfl|assumption|omega|(simp;done)) (hab:=by first|rfl|assumption|omega|(simp;done))) (.c (j:=2) rfl (.c (j:=0) rfl .n)) ?_
    rintro ⟨p336,c337⟩ -
    dsimp only [aq,nq,cq]
    refine e_p (zb rfl)<|zh<|zd<|ze<|zv<|zma (X:=Nat×Nat×(Option Addr)×Nat) (fun x:Nat×Nat×(Option Addr)×Nat=>x.2.1+V*x.1=W) (fun x=>[(10,.slice (x.2.2.1) ((yc (x.2.1)).length) (x.2.2.2)),(13,.int .u64 ((x.1:Nat):Int)),(12,ya yb ((j:Nat):Int)),(11,.slice (some ⟨b22,0,none⟩) ((yc A).length - m) ((yc A).length - m)),(1,.slice p317 ((yc V).length) c318),(0,.slice p315 ((yc A).length) c316),(9,.int .u64 ((s:Nat):Int)),(6,ya yb (((m+1):Nat):Int)),(5,.slice none 0 0),(4,.slice none 0 0)]) (fun x=>[rowA 121 (rI .u32) (some ⟨b22,0,none⟩) ((yc A).length - m) (List.replicate (j+1) 0++qs)]) (fun x=>[slF (rI .u32) (x.2.2.1) (x.2.2.2) (yc (x.2.1)),slF (rI .u32) p336 c337 (yc (W - (V*g0))),slF (rI .u32) p334 c335 (yc (V*g0)),atF b30 o31 [.int .u32 ((yc V).getD m 0)],slF (rI .u32) p328 c329 (yc W),atF b24 o25 [.int .u32 ((d:Nat):Int)],slF (rI .u32) pr cr (yc R),slF (rI .u32) p220 c221 (yc R0),slF (rI .u32) (newP p315 c316 ((yc A).length - m) 1) (c316 - ((yc A).length - m)) (((yc A).take ((yc A).length)).drop ((yc A).length - m)),slF (rI .u32) p317 c318 (yc V),slF (rI .u32) p315 c316 (yc A),atF b11 o12 [.int .u32 ((yc b).getD ((yc b).length - 1) 0)],slF (rI .u32) p1 c1 (yc a),slF (rI .u32) p2 c2 (yc b)]) (fun x:Nat×Nat×(Option Addr)×Nat=>x.2.1) (g0,(W - V*g0),p336,c337) (show (W - V*g0)+V*g0=W from by exact Nat.sub_add_cancel hgm) ((.e rfl (by first|rfl|(congr 1;omega)|simp_all) (.of rfl)):SubM _ _) (ho:=((.c (i:=0) rfl .n):PickO _ _ _)) ((.e (j:=0) rfl (by first|rfl|simp_all) (.of [0,1,2,3,4,5,6,7,8,9,10,11,12] rfl)):SelR _ _ _) ?_
    rintro ⟨g,r,p9,c9⟩ hJ
    replace hJ:r+V*g=W:=hJ
    try dsimp only
    have hgb:g<1000000000:=Nat.lt_of_mul_lt_mul_left (a:=V) om
    have hrl:=yr (show r≤W by omega)
    refine ze<|ze<|za<|e_mv rfl<|e_mv rfl<|zO rfl rfl (.c rfl (.c rfl .n)) ce129 (zZc (a:=r) (b:=V) (p1:=p9) (c1:=c9) (p2:=p317) (c2:=c318)) (.c (j:=0) rfl (.c (j:=9) rfl .n))<|e_p (zIa rfl rfl)<|zh<|zd<|zB rfl (fun hge=> ?_) (fun hge=> ?_)
    ·
     have hrV:V≤r:=by have h9:=Big.cmp_ge.1 hge;omega
     refine zt<|zd<|zv<|ze<|za<|e_mv rfl<|e_mv rfl<|zL rfl rfl (.c rfl (.c rfl .n)) ce130 (zWb (a:=r) (b:=V) (p1:=p9) (c1:=c9) (p2:=p317) (c2:=c318) (hb1:=by first|rfl|assumption|omega|(simp;done)) (hb2:=by first|rfl|assumption|omega|(simp;done)) (hab:=by first|rfl|assumption|omega|(simp;done))) (.c (j:=0) rfl (.c (j:=9) rfl .n)) ?_
     rintro ⟨p338,c339⟩ -
     dsimp only [aq,nq,cq]
     refine e_p (zb rfl)<|zh<|zd<|za<|e_mv rfl<|e_p (zw (z:=(((g+1):Nat):Int)) rfl rfl (wu64 om))<|e_p (zb rfl)<|zh<|zK<|zda ((g+1),(r - V),p338,c339) (show (r - V)+V*(g+1)=W from by rw [Nat.mul_succ];omega) (by show r - V<r;omega) ((.e rfl (by first|rfl|(congr 1;omega)|simp_all) (.of rfl)):SubM _ _) (ho:=((.c (i:=0) rfl .n):PickO _ _ _)) ((.e (j:=0) rfl (by first|rfl|simp_all) (.of [2,3,4,5,6,7,8,9,10,11,12,13,14] rfl)):SelR _ _ _)
    ·
     have hrV:r<V:=by have h9:¬(V:Int)≤r:=fun h=>hge (Big.cmp_ge.2 h);omega
     have hst:=hP.step hd (by rw [← hW];exact hJ) hrV
     refine zga<|zj<|zj<|zr<|zd<|za<|e_mv rfl<|e_mv rfl<|e_mv rfl<|e_p (zM (z:=((g:Nat):Int)) rfl (by rw [yq];rfl) yp (wu32 om))<|e_p (zka (j:=j) yh sz121 rfl rfl rfl om)<|zOa 0 rfl rfl rfl (zha (j:=j) (x0:=((g:Nat):Int)) (γ0:=()) rfl rfl (by first|omega|(rw [List.length_map];omega)|(simp only [List.length_set];omega)|(simp;done)|(simp;omega)) rfl rfl sz121 (fun _ _=>by exact zH.2 om)) (fun _=> .z) (fun _ _=> ?_)
     refine zh<|zK<|zd<|za<|e_mv rfl<|e_p (zja (z:=(((j:Nat):Int) - 1)) rfl rfl (w64 om))<|e_p (zb rfl)<|zh<|zda (j,(((g:Nat):Int) :: qs),r,p9,c9) (show Big.PtI A V j (((g:Nat):Int) :: qs) r∧j+(((g:Nat):Int) :: qs).length=(yc A).length - m from by exact ⟨hst,by rw [List.length_cons];omega⟩) (by show j<j+1;omega) ((.of rfl):SubM _ _) (ho:=((.e (i:=0) rfl (by rw [Big.pad_set]) .n):PickO _ _ _)) ((.of [0,7,8,9,10,11,12,13] rfl):SelR _ _ _)
   ·
    have hj0:jj=0:=by omega
    have hI0:Big.PtI A V 0 qs R:=hj0 ▸ hP
    obtain ⟨hf1,hf2⟩:=hI0.fin
    have hsc:=Big.scale_div (a:=a) (b:=b) hs1
    have hRV:=hI0.lt
    have hRl:=yr (Nat.le_of_lt hRV)
    have hz4:=Big.made_nat hI0.ok hf1
    have hok5:=hI0.ok
    refine zga<|zj<|zj<|zr<|zd<|ze<|za<|e_mv rfl<|e_mv rfl<|zL rfl rfl (.c rfl (.c rfl .n)) ce144 (zkd (a:=R) (mm:=s) (p:=pr) (cap:=cr) (hb:=by first|rfl|assumption|omega|(simp;done)) (hm0:=by first|rfl|assumption|omega|(simp;done)) (hm1:=by first|rfl|assumption|omega|(simp;done))) (.c (j:=0) rfl .n) ?_
    rintro ⟨p240,c241⟩ -
    dsimp only [aq,nq,cq]
    refine e_mv rfl<|e_p (zD rfl rfl)<|e_p (zD rfl rfl)<|e_p (zb rfl)<|e_p (zb rfl)<|zh<|zd<|ze ?_
    have e42:List.replicate jj 0++qs=qs:=by rw [hj0];rfl
    rw [e42]
    refine za<|e_mv rfl<|zna 0 rfl .z<|zL rfl rfl (.c rfl (.c rfl .n)) ce112 (zRa (s:=false) (p:=some ⟨b22,0,none⟩) (n:=((yc A).length - m)) (cap:=((yc A).length - m)) (l:=qs) (hn:=by first|rfl|omega|(simp;done)|(simp;omega)) (ho:=by exact hok5) (hln:=by first|rfl|omega|(simp;done)|(simp;omega))) (.c (j:=0) rfl .n) ?_
    rintro ⟨p243,c244⟩ -
    dsimp only [aq,nq,cq]
    refine e_p (zHa ym rfl ty39 rfl rfl)<|e_mv rfl<|e_p (zb rfl)<|e_p (zb rfl)<|zh<|zd<|zJ ?_
    have hr9:R / s=a%b:=by rw [hf2,hA,hV,hsc.2]
    have hz5:(yD false (Big.valL qs)).natAbs=a / b:=by rw [hz4,hA,hV,hsc.1]
    exact zEa Tryz.results131 (p243,c244,p240,c241) trivial (zn rfl) (zn rfl) (by rw [hz5,hr9]) (ho:=(.n:PickO _ _ _)) ((.e (j:=0) rfl (by rw [hz5]) (.e (j:=2) rfl (by rw [hr9]) .n)):SelR _ _ _)
end Go.Proofs.YtjcpbhlijoigfaaGreat.Sp
namespace Go.Proofs.YtjcpbhlijoigfaaGreat.Sp
open Go
set_option linter.unusedVariables false
set_option maxRecDepth 100000
set_option maxHeartbeats 8000000
theorem zCe {s:Bool} {p1:Option Addr} {n1:Nat} {c1:Nat} {l1:List Int} {t:Bool} {p2:Option Addr} {n2:Nat} {c2:Nat} {l2:List Int} (hn1:l1.length=n1) (hn2:l2.length=n2) (hm1:n1≤549755813888) (hm2:n2≤549755813888):Con yj 109 [.agg #[.bool s,.slice p1 n1 c1],.agg #[.bool t,.slice p2 n2 c2]] [] [slF (rI .u32) p1 c1 l1,slF (rI .u32) p2 c2 l2] (Y:=(Option Addr)×Nat) (fun y=>True) (fun y=> .agg #[.bool (decide (((Nat.gcd (yl s l1).natAbs (yl t l2).natAbs:Nat):Int)<0)),.slice (y.1) ((yc (((Nat.gcd (yl s l1).natAbs (yl t l2).natAbs:Nat):Int).natAbs)).length) (y.2)]) (fun y=>[]) (fun y=>[slF (rI .u32) (y.1) (y.2) (yc (((Nat.gcd (yl s l1).natAbs (yl t l2).natAbs:Nat):Int).natAbs))]):=by
 refine zp Tryz.func109 rfl rfl rfl (fun c=> ?_)
 show RunC _ _ _ _ _ [(0,.agg #[.bool s,.slice p1 n1 c1]),(1,.agg #[.bool t,.slice p2 n2 c2])] [] [slF (rI .u32) p1 c1 l1,slF (rI .u32) p2 c2 l2]
 refine zfa 0 rfl (fun hL0=> ?_)
 refine zWa 0 rfl (fun hE0=> ?_)
 refine zfa 1 rfl (fun hL1=> ?_)
 refine zWa 1 rfl (fun hE1=> ?_)
 have hnn1:Big.nn l1:=fun g hg=>(zH.1 (hE0 g hg)).1
 have hnn2:Big.nn l2:=fun g hg=>(zH.1 (hE1 g hg)).1
 have hb1:yk (yl s l1)≤n1:=by have:=yH (s:=s) hnn1;omega
 have hb2:yk (yl t l2)≤n2:=by have:=yH (s:=t) hnn2;omega
 unfold yk at hb1 hb2
 refine ze<|za<|zP rfl rfl (zV rfl rfl) (fun b1=> ?_)
 refine zP rfl rfl (zV rfl rfl) (fun b2=> ?_)
 refine zP rfl rfl (zu zr41 rfl) (fun b3=> ?_)
 refine zh<|zd<|ze<|zZ (OW:=[]) (O:=[boxA b3 41 [wz.b,wz.l],boxA b2 41 [.bool t,.slice p2 n2 c2],boxA b1 41 [.bool s,.slice p1 n1 c1]]) 100000 mixed (.then .ret) kr<|e_u 0 rfl rfl (zc 2 ty41 rfl rfl (.t2 .nil))<|e_u 3 rfl rfl (zc 1 ty41 rfl rfl (.t2 .nil))<|e_one 1 (zE rfl rfl rfl rfl (.c rfl .n) ce111 (zUa (s:=s) (p:=p1) (n:=n1) (cap:=c1) (l:=l1) (hn:=ass) (hln:=cbo)) (.c (j:=0) rfl .n) ?_)
 rintro ⟨p24,c25⟩ -
 dsimp only [aq,nq,cq]
 refine e_pv 2 rfl rfl (zHa ym rfl ty39 rfl rfl)<|e_one 4 (zE rfl rfl rfl rfl (.c rfl .n) ce111 (zUa (s:=t) (p:=p2) (n:=n2) (cap:=c2) (l:=l2) (hn:=ass) (hln:=cbo)) (.c (j:=2) rfl .n) ?_)
 rintro ⟨p26,c27⟩ -
 dsimp only [aq,nq,cq]
 refine e_pv 5 rfl rfl (zHa ym rfl ty39 rfl rfl)<|e_pv 6 rfl rfl (zb rfl)<|e_pv 7 rfl rfl (zb rfl)<|zX kr<|zd<|ze<|zv<|zma (X:=Nat×Nat×(Option Addr)×Nat×(Option Addr)×Nat) (fun x:Nat×Nat×(Option Addr)×Nat×(Option Addr)×Nat=>Nat.gcd x.1 x.2.1=Nat.gcd (yl s l1).natAbs (yl t l2).natAbs∧(yc x.1).length≤549755813888∧(yc x.2.1).length≤549755813888) (fun x=>[(6,.slice (x.2.2.2.2.1) ((yc (x.2.1)).length) (x.2.2.2.2.2)),(5,.slice (x.2.2.1) ((yc (x.1)).length) (x.2.2.2.1)),(4,.pointer (some ⟨b3,0,none⟩))]) (fun x=>[boxA b3 41 [wz.b,wz.l],boxA b2 41 [.bool t,.slice p2 n2 c2],boxA b1 41 [.bool s,.slice p1 n1 c1]]) (fun x=>[slF (rI .u32) (x.2.2.1) (x.2.2.2.1) (yc (x.1)),slF (rI .u32) (x.2.2.2.2.1) (x.2.2.2.2.2) (yc (x.2.1)),slF (rI .u32) p26 c27 (yc ((yl t l2).natAbs)),slF (rI .u32) p24 c25 (yc ((yl s l1).natAbs)),slF (rI .u32) p1 c1 l1,slF (rI .u32) p2 c2 l2]) (fun x:Nat×Nat×(Option Addr)×Nat×(Option Addr)×Nat=>x.2.1) ((yl s l1).natAbs,(yl t l2).natAbs,p24,c25,p26,c27) (show Nat.gcd ((yl s l1).natAbs) ((yl t l2).natAbs)=Nat.gcd (yl s l1).natAbs (yl t l2).natAbs∧(yc ((yl s l1).natAbs)).length≤549755813888∧(yc ((yl t l2).natAbs)).length≤549755813888 from by exact ⟨rfl,by omega,by omega⟩) ((.of rfl):SubM _ _) (ho:=((.of [0,0,0] rfl):PickO _ _ _)) ((.of [1,0,0,1,2,3] rfl):SelR _ _ _) ?_
 rintro ⟨a,b,pa,ca,pb,cb⟩ hI
 replace hI:Nat.gcd a b=Nat.gcd (yl s l1).natAbs (yl t l2).natAbs∧(yc a).length≤549755813888∧(yc b).length≤549755813888:=hI
 try dsimp only
 obtain ⟨hgc,hba,hbb⟩:=hI
 refine ze<|zAa (X:=Unit) (fun x=>True) (fun x=>[(29,.bool (decide (0<(yc b).length∧(2<(yc a).length∨2<(yc b).length)))),(6,.slice pb ((yc b).length) cb),(5,.slice pa ((yc a).length) ca),(4,.pointer (some ⟨b3,0,none⟩))]) (fun x=>[boxA b3 41 [wz.b,wz.l],boxA b2 41 [.bool t,.slice p2 n2 c2],boxA b1 41 [.bool s,.slice p1 n1 c1]]) (fun x=>[slF (rI .u32) pa ca (yc a),slF (rI .u32) pb cb (yc b),slF (rI .u32) p26 c27 (yc ((yl t l2).natAbs)),slF (rI .u32) p24 c25 (yc ((yl s l1).natAbs)),slF (rI .u32) p1 c1 l1,slF (rI .u32) p2 c2 l2]) ?_ ?_
 ·
  refine za<|e_mv rfl<|e_p (zQ yh rfl)<|e_p (zFa rfl rfl)<|zS rfl rfl (zT rfl) (fun h8=> ?_) (fun h8=> ?_)
  ·
   refine e_mv rfl<|e_p (zQ yh rfl)<|e_p (zFa rfl rfl)<|zS rfl rfl (zT rfl) (fun h9=> ?_) (fun h9=> ?_)
   ·
    refine e_no<|e_no<|e_no<|e_p (zo rfl rfl)<|e_p (zo rfl rfl)<|zh ?_
    exact zY () (show True from by first|trivial|omega|simp_all) ((.e rfl (congrArg Value.bool (by first|(simp;omega)|exact decide_eq_decide.2 ⟨fun h=>⟨by omega,.inr om⟩,fun h=>by omega⟩)) (.of rfl)):SubM _ _) (ho:=((.of [0,0,0] rfl):PickO _ _ _)) ((.of [0,1,2,3,4,5] rfl):SelR _ _ _)
   ·
    refine e_mv rfl<|e_p (zQ yh rfl)<|e_p (zFa rfl rfl)<|e_p (zo rfl rfl)<|e_p (zo rfl rfl)<|zh ?_
    exact zY () (show True from by first|trivial|omega|simp_all) ((.e rfl (congrArg Value.bool (by first|(simp;omega)|exact decide_eq_decide.2 ⟨fun h=>⟨by omega,.inr om⟩,fun h=>by omega⟩)) (.of rfl)):SubM _ _) (ho:=((.of [0,0,0] rfl):PickO _ _ _)) ((.of [0,1,2,3,4,5] rfl):SelR _ _ _)
  ·
   refine e_no<|e_no<|e_no<|e_no<|e_no<|e_no<|e_no<|e_no<|e_p (zo rfl rfl)<|zh ?_
   exact zY () (show True from by first|trivial|omega|simp_all) ((.e rfl (congrArg Value.bool (by first|(simp;omega)|exact decide_eq_decide.2 ⟨fun h=>⟨by omega,.inr om⟩,fun h=>by omega⟩)) (.of rfl)):SubM _ _) (ho:=((.of [0,0,0] rfl):PickO _ _ _)) ((.of [0,1,2,3,4,5] rfl):SelR _ _ _)
 ·
  rintro ⟨⟩ -
  try dsimp only
  refine zB rfl (fun hw=> ?_) (fun hw=> ?_)
  ·
   have hb0:0<b:=Nat.pos_of_ne_zero (fun e=>by rw [e] at hw;simp [Big.digs_zero] at hw)
   refine zt<|zd<|zv<|ze<|za<|e_mv rfl<|e_mv rfl<|zL rfl rfl (.c rfl (.c rfl .n)) ce131 (zld (a:=a) (b:=b) (p1:=pa) (c1:=ca) (p2:=pb) (c2:=cb) (hb1:=cbo) (hb2:=cbo) (hb0:=cbo)) (.c (j:=0) rfl (.c (j:=1) rfl .n)) ?_
   rintro ⟨p310,c311,p412,c413⟩ -
   dsimp only [aq,nq,cq]
   refine e_mv rfl<|e_p (zD rfl rfl)<|e_p (zD rfl rfl)<|e_p (zb rfl)<|e_p (zb rfl)<|zh<|zd<|za<|e_mv rfl<|e_mv rfl<|e_p (zb rfl)<|e_p (zb rfl)<|zh<|zK<|zda (b,(a%b),pb,cb,p412,c413) (show Nat.gcd b (a%b)=Nat.gcd (yl s l1).natAbs (yl t l2).natAbs∧(yc b).length≤549755813888∧(yc (a%b)).length≤549755813888 from by exact ⟨by rw [Big.gcd_rest,hgc],hbb,Nat.le_trans (yr (Nat.le_of_lt (Nat.mod_lt a hb0))) hbb⟩) (by exact Nat.mod_lt a hb0) ((.e rfl (by first|rfl|(congr 1;omega)|simp_all) (.c rfl (.c rfl .n))):SubM _ _) (ho:=((.of [0,0,0] rfl):PickO _ _ _)) ((.c (j:=3) rfl (.e (j:=1) rfl (by first|rfl|simp_all) (.of [4,5,6,7] rfl))):SelR _ _ _)
  ·
   refine zga<|zj<|zj<|zr<|zd<|ze<|ze<|za<|e_mv rfl<|e_p (zQ yh rfl)<|e_p (zsa rfl rfl)<|zh<|zd<|zB rfl (fun hbz=> ?_) (fun hbz=> ?_)
   ·
    have hbz0:b=0:=yE.1 om
    have hfin:a=Nat.gcd (yl s l1).natAbs (yl t l2).natAbs:=by rw [← hgc,hbz0,Nat.gcd_zero_right]
    refine ze<|za<|e_mv rfl<|zL rfl rfl (.c rfl (.c rfl .n)) ce112 (zpb (s:=false) (a:=a) (p:=pa) (cap:=ca) (hln:=cbo)) (.c (j:=0) rfl .n) ?_
    rintro ⟨p214,c215⟩ -
    dsimp only [aq,nq,cq]
    refine zq 0 rfl rfl rfl rfl rfl sz41 rfl (.t2 .nil) .z<|zh<|zd<|zJ<|zi ?_
    exact zx Tryz.results109 (p214,c215) trivial (zC 0 ty41 rfl rfl (.t2 .nil)) (by rw [← hfin];rfl) (ho:=(.n:PickO _ _ _)) ((.e (j:=0) rfl (by rw [← hfin];rfl) .n):SelR _ _ _)
   ·
    have ha2:(yc a).length≤2:=by omega
    have hb2:(yc b).length≤2:=by omega
    have ha18:=Big.two_lt ha2
    have hb18:=Big.two_lt hb2
    refine zt<|zd<|ze<|za<|e_mv rfl<|zO rfl rfl (.c rfl .n) ce132 (zPd (a:=a) (p:=pa) (cap:=ca) (hb:=cbo)) (.c (j:=0) rfl .n)<|e_mv rfl<|zO rfl rfl (.c rfl .n) ce132 (zPd (a:=b) (p:=pb) (cap:=cb) (hb:=cbo)) (.c (j:=1) rfl .n)<|e_p (zb rfl)<|e_p (zb rfl)<|zh<|zd<|ze<|zv<|zma (X:=Nat×Nat) (fun x:Nat×Nat=>Nat.gcd x.1 x.2=Nat.gcd a b∧x.1<1000000000000000000∧x.2<1000000000000000000) (fun x=>[(10,.int .u64 ((x.2:Nat):Int)),(9,.int .u64 ((x.1:Nat):Int)),(4,.pointer (some ⟨b3,0,none⟩))]) (fun x=>[boxA b3 41 [wz.b,wz.l],boxA b2 41 [.bool t,.slice p2 n2 c2],boxA b1 41 [.bool s,.slice p1 n1 c1]]) (fun x=>[slF (rI .u32) pa ca (yc a),slF (rI .u32) pb cb (yc b),slF (rI .u32) p26 c27 (yc ((yl t l2).natAbs)),slF (rI .u32) p24 c25 (yc ((yl s l1).natAbs)),slF (rI .u32) p1 c1 l1,slF (rI .u32) p2 c2 l2]) (fun x:Nat×Nat=>x.2) (a,b) (show Nat.gcd a b=Nat.gcd a b∧a<1000000000000000000∧b<1000000000000000000 from by exact ⟨rfl,ha18,hb18⟩) ((.of rfl):SubM _ _) (ho:=((.of [0,0,0] rfl):PickO _ _ _)) ((.of [0,1,2,3,4,5] rfl):SelR _ _ _) ?_
    rintro ⟨q,r⟩ hJ
    replace hJ:Nat.gcd q r=Nat.gcd a b∧q<1000000000000000000∧r<1000000000000000000:=hJ
    try dsimp only
    obtain ⟨hgq,hq18,hr18⟩:=hJ
    have hmr:=Nat.mod_le q r
    refine ze<|ze<|za<|e_mv rfl<|e_p (zFa rfl rfl)<|zh<|zd<|zB rfl (fun hy=> ?_) (fun hy=> ?_)
    ·
     refine zt<|zd<|zv<|zZ (OW:=[]) (O:=[boxA b3 41 [wz.b,wz.l],boxA b2 41 [.bool t,.slice p2 n2 c2],boxA b1 41 [.bool s,.slice p1 n1 c1]]) 100000 mixed (.block (.then (.block (.then .ret)))) kr<|e_dm 0 rfl rfl rfl<|e_dm 1 rfl rfl rfl<|e_dm 2 rfl rfl rfl<|e_pv 3 rfl rfl (zoa (z:=(((q%r):Nat):Int)) rfl rfl om (remN om om))<|e_pv 4 rfl rfl (zb rfl)<|e_pv 5 rfl rfl (zb rfl)<|zX kr<|zK<|zda (r,(q%r)) (show Nat.gcd r (q%r)=Nat.gcd a b∧r<1000000000000000000∧(q%r)<1000000000000000000 from by exact ⟨by rw [Big.gcd_rest,hgq],hr18,by omega⟩) (by exact Nat.mod_lt q om) ((.of rfl):SubM _ _) (ho:=((.of [0,0,0] rfl):PickO _ _ _)) ((.of [0,1,2,3,4,5] rfl):SelR _ _ _)
    ·
     have hrz:r=0:=by omega
     have hfin:q=Nat.gcd (yl s l1).natAbs (yl t l2).natAbs:=by rw [← hgc,←hgq,hrz,Nat.gcd_zero_right]
     obtain ⟨ht1,ht2⟩:=Big.two_val hq18
     refine zga<|zj<|zj<|zr<|zd<|ze<|za<|e_mv rfl<|e_p (zoa (z:=(((q%1000000000):Nat):Int)) rfl rfl om (remN om om))<|e_p (zM (z:=(((q%1000000000):Nat):Int)) rfl (by rw [yq];rfl) yp (wu32 om))<|e_mv rfl<|e_p (zkb (z:=(((q / 1000000000):Nat):Int)) rfl rfl om (by rw [quoN (z:=(((q / 1000000000):Nat):Int)) om om];exact wu64 om))<|e_p (zM (z:=(((q / 1000000000):Nat):Int)) rfl (by rw [yq];rfl) yp (wu32 om))<|zNa rfl rfl (zba (enc:=fun z:Int=>[.int .u32 z]) (ok:=InK .u32) (h1:=fun _=>rfl) (h2:=fun _=>rfl) (k:=2) yh inf121 rfl dd dd dd (.c (x:=(((q%1000000000):Nat):Int)) rfl rfl (fun _ _=>by exact zH.2 om) (.c (x:=(((q / 1000000000):Nat):Int)) rfl rfl (fun _ _=>by exact zH.2 om) .n))) (fun b16 _=> ?_)
     refine zna 0 rfl .z<|zL rfl rfl (.c rfl (.c rfl .n)) ce112 (zRa (s:=false) (p:=some ⟨b16,0,none⟩) (n:=2) (cap:=2) (l:=[(((q%1000000000):Nat):Int),(((q / 1000000000):Nat):Int)]) (hn:=by first|rfl|omega|(simp;done)|(simp;omega)) (ho:=by exact ht1) (hln:=by first|rfl|omega|(simp;done)|(simp;omega))) (.c (j:=0) rfl .n) ?_
     rintro ⟨p217,c218⟩ -
     dsimp only [aq,nq,cq]
     refine zq 1 rfl rfl rfl rfl rfl sz41 rfl (.t2 .nil) (.s .z)<|zh<|zd<|zJ ?_
     exact zx Tryz.results109 (p217,c218) trivial (zC 1 ty41 rfl rfl (.t2 .nil)) (by rw [ht2,←hfin];rfl) (ho:=(.n:PickO _ _ _)) ((.e (j:=0) rfl (by rw [ht2,←hfin];rfl) .n):SelR _ _ _)
theorem zFf {x1:Int} {x2:Int} {p1:Option Addr} {c1:Nat} {p2:Option Addr} {c2:Nat} (hb1:yk x1≤549755813888) (hb2:yk x2≤549755813888):Con yj 109 [.agg #[.bool (decide ((x1)<0)),.slice (p1) ((yc ((x1).natAbs)).length) (c1)],.agg #[.bool (decide ((x2)<0)),.slice (p2) ((yc ((x2).natAbs)).length) (c2)]] [] [slF (rI .u32) (p1) (c1) (yc ((x1).natAbs)),slF (rI .u32) (p2) (c2) (yc ((x2).natAbs))] (Y:=(Option Addr)×(Nat)) (fun y=>True) (fun y=> .agg #[.bool (decide ((((Nat.gcd x1.natAbs x2.natAbs:Nat):Int))<0)),.slice (y.1) ((yc ((((Nat.gcd x1.natAbs x2.natAbs:Nat):Int)).natAbs)).length) (y.2)]) (fun y=>[]) (fun y=>[slF (rI .u32) (y.1) (y.2) (yc ((((Nat.gcd x1.natAbs x2.natAbs:Nat):Int)).natAbs))]):=by
  have h:= @zCe (decide ((x1)<0)) p1 (yc (x1).natAbs).length c1 (yc (x1).natAbs) (decide ((x2)<0)) p2 (yc (x2).natAbs).length c2 (yc (x2).natAbs) rfl rfl hb1 hb2
  rw [Big.raw_big,Big.raw_big] at h
  exact h
theorem zGf {w1:Wd} {w2:Wd} {x1:Int} {x2:Int} (hb1:yk x1≤549755813888) (hb2:yk x2≤549755813888):Con yj 109 [.agg #[w1.b,w1.l],.agg #[w2.b,w2.l]] [] [zF w1 (x1),zF w2 (x2)] (Y:=(Wd)) (fun y=>True) (fun y=> .agg #[y.b,y.l]) (fun y=>[]) (fun y=>[zF y (((Nat.gcd x1.natAbs x2.natAbs:Nat):Int))]):=by
  exact zZb (zEc (fun p1 c1 p2 c2=>zFf hb1 hb2))
theorem zQd {s:Bool} {p1:Option Addr} {n1:Nat} {c1:Nat} {l1:List Int} {t:Bool} {p2:Option Addr} {n2:Nat} {c2:Nat} {l2:List Int} (hn1:l1.length=n1) (hn2:l2.length=n2) (hm1:n1≤549755813888) (hm2:n2≤549755813888):Con yj 123 [.agg #[.bool s,.slice p1 n1 c1],.agg #[.bool t,.slice p2 n2 c2]] [] [slF (rI .u32) p1 c1 l1,slF (rI .u32) p2 c2 l2] (Y:=Unit) (fun y=>True) (fun y=> ya yb ((yl s l1 - yl t l2).sign)) (fun y=>[]) (fun y=>[]):=by
 refine zp Tryz.func123 rfl rfl rfl (fun c=> ?_)
 show RunC _ _ _ _ _ [(0,.agg #[.bool s,.slice p1 n1 c1]),(1,.agg #[.bool t,.slice p2 n2 c2])] [] [slF (rI .u32) p1 c1 l1,slF (rI .u32) p2 c2 l2]
 refine zfa 0 rfl (fun hL0=> ?_)
 refine zWa 0 rfl (fun hE0=> ?_)
 refine zfa 1 rfl (fun hL1=> ?_)
 refine zWa 1 rfl (fun hE1=> ?_)
 have hnn1:Big.nn l1:=fun g hg=>(zH.1 (hE0 g hg)).1
 have hnn2:Big.nn l2:=fun g hg=>(zH.1 (hE1 g hg)).1
 have hb1:yk (yl s l1)≤n1:=by have:=yH (s:=s) hnn1;omega
 have hb2:yk (yl t l2)≤n2:=by have:=yH (s:=t) hnn2;omega
 unfold yk at hb1 hb2
 have hls:=Big.ln_sub (yl s l1) (yl t l2)
 unfold yk at hls
 refine ze<|za<|zP rfl rfl (zV rfl rfl) (fun b1=> ?_)
 refine zP rfl rfl (zV rfl rfl) (fun b2=> ?_)
 refine e_p (zb rfl)<|zh<|zd<|ze<|za<|e_ru (zc 1 ty41 rfl rfl (.t2 .nil))<|e_ru (zc 0 ty41 rfl rfl (.t2 .nil))<|zL rfl rfl (.c rfl (.c rfl .n)) ce133 (zBe (s:=s) (p1:=p1) (n1:=n1) (c1:=c1) (l1:=l1) (t:=t) (p2:=p2) (n2:=n2) (c2:=c2) (l2:=l2) (hn1:=ass) (hn2:=ass) (hm1:=by first|rfl|assumption|omega|(unfold yk;omega)) (hm2:=by first|rfl|assumption|omega|(unfold yk;omega))) (.c (j:=0) rfl (.c (j:=1) rfl .n)) ?_
 rintro ⟨p33,c34⟩ -
 dsimp only [aq,nq,cq]
 refine zO rfl rfl (.c rfl .n) ce105 (zjd (z:=yl s l1 - yl t l2) (p:=p33) (cap:=c34) (hln:=by first|rfl|assumption|omega|(unfold yk;omega))) (.c (j:=0) rfl .n)<|e_p (zb rfl)<|zh<|zd<|zJ ?_
 exact zx Tryz.results123 () trivial (zn rfl) rfl (ho:=(.n:PickO _ _ _)) (.n:SelR _ _ _)
theorem zud {x1:Int} {x2:Int} {p1:Option Addr} {c1:Nat} {p2:Option Addr} {c2:Nat} (hb1:yk x1≤549755813888) (hb2:yk x2≤549755813888):Con yj 123 [.agg #[.bool (decide ((x1)<0)),.slice (p1) ((yc ((x1).natAbs)).length) (c1)],.agg #[.bool (decide ((x2)<0)),.slice (p2) ((yc ((x2).natAbs)).length) (c2)]] [] [slF (rI .u32) (p1) (c1) (yc ((x1).natAbs)),slF (rI .u32) (p2) (c2) (yc ((x2).natAbs))] (Y:=Unit) (fun y=>True) (fun y=> ya yb ((x1 - x2).sign)) (fun y=>[]) (fun y=>[]):=by
  have h:= @zQd (decide ((x1)<0)) p1 (yc (x1).natAbs).length c1 (yc (x1).natAbs) (decide ((x2)<0)) p2 (yc (x2).natAbs).length c2 (yc (x2).natAbs) rfl rfl hb1 hb2
  rw [Big.raw_big,Big.raw_big] at h
  exact h
theorem zRd {x1:Int} {x2:Int} {p1:Option Addr} {c1:Nat} {p2:Option Addr} {c2:Nat} (hb1:yk x1≤274877906944) (hb2:yk x2≤274877906944) (hy:x2≠0):Con yj 110 [.agg #[.bool (decide (x1<0)),.slice p1 ((yc ((x1).natAbs)).length) c1],.agg #[.bool (decide (x2<0)),.slice p2 ((yc ((x2).natAbs)).length) c2]] [] [slF (rI .u32) p1 c1 (yc ((x1).natAbs)),slF (rI .u32) p2 c2 (yc ((x2).natAbs))] (Y:=(Option Addr)×Nat×(Option Addr)×Nat) (fun y=>True) (fun y=> .tuple #[.agg #[.bool (decide ((yt x1 x2)<0)),.slice (y.1) ((yc ((yt x1 x2).natAbs)).length) (y.2.1)],.agg #[.bool (decide ((yI x1 x2)<0)),.slice (y.2.2.1) ((yc ((yI x1 x2).natAbs)).length) (y.2.2.2)],ya yb 0]) (fun y=>[]) (fun y=>[slF (rI .u32) (y.1) (y.2.1) (yc ((yt x1 x2).natAbs)),slF (rI .u32) (y.2.2.1) (y.2.2.2) (yc ((yI x1 x2).natAbs))]):=by
 refine zp Tryz.func110 rfl rfl rfl (fun c=> ?_)
 show RunC _ _ _ _ _ [(0,.agg #[.bool (decide (x1<0)),.slice p1 ((yc ((x1).natAbs)).length) c1]),(1,.agg #[.bool (decide (x2<0)),.slice p2 ((yc ((x2).natAbs)).length) c2])] [] [slF (rI .u32) p1 c1 (yc ((x1).natAbs)),slF (rI .u32) p2 c2 (yc ((x2).natAbs))]
 refine zfa 0 rfl (fun hL0=> ?_)
 refine zfa 1 rfl (fun hL1=> ?_)
 have hfl:=Big.ln_fq (x:=x1) hy
 have hml:=yG (yt x1 x2) x2
 unfold yk at hb1 hb2 hfl hml
 have hd1:=Nat.div_le_self x1.natAbs x2.natAbs
 have hd2:=Nat.mod_lt x1.natAbs (show 0<x2.natAbs by omega)
 have hl1:=yr hd1
 have hl2:=yr (Nat.le_of_lt hd2)
 refine ze<|za<|zP rfl rfl (zV rfl rfl) (fun b1=> ?_)
 refine zP rfl rfl (zV rfl rfl) (fun b2=> ?_)
 refine zP rfl rfl (zu zr41 rfl) (fun b3=> ?_)
 refine zP rfl rfl (zu zr41 rfl) (fun b4=> ?_)
 refine e_p (zb rfl)<|zh<|zd<|ze<|zwa (.c (i:=3) rfl (.c (i:=2) rfl (.c (i:=0) rfl (.c (i:=0) rfl .n))))<|zZ (OW:=[boxA b1 41 [.bool (decide (x1<0)),.slice p1 ((yc ((x1).natAbs)).length) c1],boxA b2 41 [.bool (decide (x2<0)),.slice p2 ((yc ((x2).natAbs)).length) c2]]) (O:=[boxA b4 41 [wz.b,wz.l],boxA b3 41 [wz.b,wz.l]]) 4 mixed (.then .ret) kr<|e_uw 0 rfl rfl (zc 0 ty41 rfl rfl (.t2 .nil))<|e_uw 2 rfl rfl (zc 1 ty41 rfl rfl (.t2 .nil))<|e_one 1 (zE rfl rfl rfl rfl (.c rfl .n) ce111 (zYc (z:=x1) (p:=p1) (cap:=c1) (hln:=by first|rfl|assumption|omega|(unfold yk;omega)|(unfold yk;rw [hsq];omega)|(decide +kernel))) (.c (j:=0) rfl .n) ?_)
 rintro ⟨p25,c26⟩ -
 dsimp only [aq,nq,cq]
 refine e_one 3 (zE rfl rfl rfl rfl (.c rfl .n) ce111 (zYc (z:=x2) (p:=p2) (cap:=c2) (hln:=by first|rfl|assumption|omega|(unfold yk;omega)|(unfold yk;rw [hsq];omega)|(decide +kernel))) (.c (j:=2) rfl .n) ?_)
 rintro ⟨p27,c28⟩ -
 dsimp only [aq,nq,cq]
 refine e_one 4 (zA kr rfl rfl rfl rfl rfl sz41 rfl (.t2 .nil) ?_)
 refine zab (zea (i:=1) rfl)<|e_one 5 (zA kr rfl rfl rfl rfl rfl sz41 rfl (.t2 .nil) ?_)
 refine zX kr<|zd<|ze<|ze<|za<|e_p (zg ym rfl sz39 rfl rfl)<|e_ru (zf 0 ty39 rfl rfl rfl)<|e_p (zQ yh rfl)<|e_p (zsa rfl rfl)<|zh<|zd<|zB rfl (fun h9=> ?_) (fun h9=> ?_)
 ·
  exact absurd (yE.1 (show (yc x2.natAbs).length=0 by omega)) om
 ·
  refine zt<|zd<|ze<|za<|e_p (zg ym rfl sz39 rfl rfl)<|e_ru (zf 1 ty39 rfl rfl rfl)<|e_p (zg ym rfl sz39 rfl rfl)<|e_ru (zf 0 ty39 rfl rfl rfl)<|zL rfl rfl (.c rfl (.c rfl .n)) ce131 (zld (a:=(x1).natAbs) (b:=(x2).natAbs) (p1:=p25) (c1:=c26) (p2:=p27) (c2:=c28) (hb1:=by first|rfl|assumption|omega|(unfold yk;omega)|(unfold yk;rw [hsq];omega)|(decide +kernel)) (hb2:=by first|rfl|assumption|omega|(unfold yk;omega)|(unfold yk;rw [hsq];omega)|(decide +kernel)) (hb0:=by first|rfl|assumption|omega|(unfold yk;omega)|(unfold yk;rw [hsq];omega)|(decide +kernel))) (.c (j:=1) rfl (.c (j:=0) rfl .n)) ?_
  rintro ⟨p310,c311,p412,c413⟩ -
  dsimp only [aq,nq,cq]
  refine e_mv rfl<|e_p (zD rfl rfl)<|e_p (zD rfl rfl)<|e_p (zb rfl)<|e_p (zb rfl)<|zh<|zd<|ze ?_
  obtain ⟨Q,hQ⟩:∃z,z=((x1).natAbs) / ((x2).natAbs):=⟨_,rfl⟩
  rw [← hQ]
  obtain ⟨R0,hR0⟩:∃z,z=((x1).natAbs)%((x2).natAbs):=⟨_,rfl⟩
  rw [← hR0]
  rw [← hQ] at hl1
  rw [← hR0] at hl2
  have hsq:(yD (decide (decide (x1<0)≠decide (x2<0))) (Q:Int)).natAbs=Q:=by rw [Big.sg_abs om];exact Int.toNat_natCast _
  refine za<|e_p (zg ym rfl sz4 rfl rfl)<|e_ru (zf 1 ty4 rfl rfl rfl)<|e_p (zg ym rfl sz4 rfl rfl)<|e_ru (zf 0 ty4 rfl rfl rfl)<|e_p (zSa Tryz.underlying4 rfl rfl)<|e_mv rfl<|zL rfl rfl (.c rfl (.c rfl .n)) ce112 (zpb (s:=decide (decide (x1<0)≠decide (x2<0))) (a:=Q) (p:=p310) (cap:=c311) (hln:=by first|rfl|assumption|omega|(unfold yk;omega)|(unfold yk;rw [hsq];omega)|(decide +kernel))) (.c (j:=0) rfl .n) ?_
  rintro ⟨p214,c215⟩ -
  dsimp only [aq,nq,cq]
  refine zP rfl rfl (zu zr41 rfl) (fun b16=> ?_)
  refine zq 0 rfl rfl rfl rfl rfl sz41 rfl (.t2 .nil) .z<|zh<|zd<|ze<|ze<|za<|e_p (zg ym rfl sz4 rfl rfl)<|e_ru (zf 2 ty4 rfl rfl rfl)<|e_p (zg ym rfl sz4 rfl rfl)<|e_ru (zf 1 ty4 rfl rfl rfl)<|e_p (zSa Tryz.underlying4 rfl rfl)<|zS rfl rfl (zT rfl) (fun hsd=> ?_) (fun hsd=> ?_)
  ·
   refine e_mv rfl<|e_p (zQ yh rfl)<|e_p (zFa rfl rfl)<|e_p (zo rfl rfl)<|zh<|zd<|zB rfl (fun hadj=> ?_) (fun hadj=> ?_)
   ·
    have hr0:x1.natAbs%x2.natAbs≠0:=fun e=>by rw [hR0,e,Big.digs_zero] at hadj;exact absurd hadj dd
    have hqz:yD (decide (decide (x1<0)≠decide (x2<0))) (Q:Int) - 1=yt x1 x2:=by have h9:=(Big.fq_odd hy hsd hr0).1;rw [← h9,decide_eq_true hsd,hQ,Big.sg_t,Big.sg_t];omega
    refine zZ (OW:=[boxA b16 41 [.bool (decide ((yD (decide (decide (x1<0)≠decide (x2<0))) (Q:Int))<0)),.slice p214 ((yc ((yD (decide (decide (x1<0)≠decide (x2<0))) (Q:Int)).natAbs)).length) c215]]) (O:=[boxA b2 41 [.bool (decide (x2<0)),.slice p27 ((yc ((x2).natAbs)).length) c28],boxA b1 41 [.bool (decide (x1<0)),.slice p25 ((yc ((x1).natAbs)).length) c26],boxA b4 41 [wz.b,wz.l],boxA b3 41 [wz.b,wz.l]]) 3 mixed (.then .ret) kr<|e_uw 0 rfl rfl (zc 0 ty41 rfl rfl (.t2 .nil))<|e_one 1 (zE rfl rfl rfl rfl (.c rfl .n) ce113 (zAf (z:=1) (hz:=by first|rfl|assumption|omega|(unfold yk;omega)|(unfold yk;rw [hsq];omega)|(decide +kernel))) (.n) ?_)
    rintro ⟨p217,c218⟩ -
    dsimp only [aq,nq,cq]
    refine e_one 2 (zE rfl rfl rfl rfl (.c rfl (.c rfl .n)) ce133 (zqc (x1:=yD (decide (decide (x1<0)≠decide (x2<0))) (Q:Int)) (x2:=1) (p1:=p214) (c1:=c215) (p2:=p217) (c2:=c218) (hb1:=by first|rfl|assumption|omega|(unfold yk;omega)|(unfold yk;rw [hsq];omega)|(decide +kernel)) (hb2:=by first|rfl|assumption|omega|(unfold yk;omega)|(unfold yk;rw [hsq];omega)|(decide +kernel))) (.c (j:=1) rfl (.c (j:=0) rfl .n)) ?_)
    rintro ⟨p319,c320⟩ -
    dsimp only [aq,nq,cq]
    refine e_one 3 (zA kr rfl rfl rfl rfl rfl sz41 rfl (.t2 .nil) ?_)
    refine zX kr<|zd<|ze ?_
    have e21:(yD (decide (decide (x1<0)≠decide (x2<0))) (Q:Int)) - 1=yt x1 x2:=by exact hqz
    rw [e21]
    refine zwa (.c (i:=4) rfl (.c (i:=3) rfl (.c (i:=0) rfl (.c (i:=0) rfl (.c (i:=0) rfl .n)))))<|zZ (OW:=[boxA b3 41 [wz.b,wz.l],boxA b4 41 [wz.b,wz.l]]) (O:=[boxA b16 41 [.bool (decide ((yt x1 x2)<0)),.slice p319 ((yc ((yt x1 x2).natAbs)).length) c320],boxA b2 41 [.bool (decide (x2<0)),.slice p27 ((yc ((x2).natAbs)).length) c28],boxA b1 41 [.bool (decide (x1<0)),.slice p25 ((yc ((x1).natAbs)).length) c26]]) 6 mixed (.then .ret) kr<|e_uw 0 rfl rfl (zc 2 ty41 rfl rfl (.t2 .nil))<|e_uw 1 rfl rfl (zc 4 ty41 rfl rfl (.t2 .nil))<|e_uw 2 rfl rfl (zc 2 ty41 rfl rfl (.t2 .nil))<|e_uw 3 rfl rfl (zc 3 ty41 rfl rfl (.t2 .nil))<|e_one 4 (zE rfl rfl rfl rfl (.c rfl (.c rfl .n)) ce73 (zrc (x1:=yt x1 x2) (x2:=x2) (p1:=p319) (c1:=c320) (p2:=p27) (c2:=c28) (hb1:=by first|rfl|assumption|omega|(unfold yk;omega)|(unfold yk;rw [hsq];omega)|(decide +kernel)) (hb2:=by first|rfl|assumption|omega|(unfold yk;omega)|(unfold yk;rw [hsq];omega)|(decide +kernel))) (.c (j:=0) rfl (.c (j:=5) rfl .n)) ?_)
    rintro ⟨p322,c323⟩ -
    dsimp only [aq,nq,cq]
    refine e_one 5 (zE rfl rfl rfl rfl (.c rfl (.c rfl .n)) ce133 (zqc (x1:=x1) (x2:=(yt x1 x2)*x2) (p1:=p25) (c1:=c26) (p2:=p322) (c2:=c323) (hb1:=by first|rfl|assumption|omega|(unfold yk;omega)|(unfold yk;rw [hsq];omega)|(decide +kernel)) (hb2:=by first|rfl|assumption|omega|(unfold yk;omega)|(unfold yk;rw [hsq];omega)|(decide +kernel))) (.c (j:=7) rfl (.c (j:=0) rfl .n)) ?_)
    rintro ⟨p324,c325⟩ -
    dsimp only [aq,nq,cq]
    refine e_one 6 (zA kr rfl rfl rfl rfl rfl sz41 rfl (.t2 .nil) ?_)
    refine zab (zea (i:=1) rfl)<|e_one 7 (zA kr rfl rfl rfl rfl rfl sz41 rfl (.t2 .nil) ?_)
    refine e_pv 8 rfl rfl (zb rfl)<|zX kr<|zd<|zJ ?_
    have hz2:x1 - yt x1 x2*x2=yI x1 x2:=by unfold yI;rw [Int.mul_comm]
    exact zed Tryz.results110 (p319,c320,p324,c325) trivial (zC 1 ty41 rfl rfl (.t2 .nil)) (zC 0 ty41 rfl rfl (.t2 .nil)) (zn rfl) (by rw [hz2]) (ho:=(.n:PickO _ _ _)) ((.c (j:=2) rfl (.e (j:=0) rfl (by rw [hz2]) .n)):SelR _ _ _)
   ·
    have hr0:x1.natAbs%x2.natAbs=0:=yE.1 (by rw [← hR0];omega)
    have hqz:yD (decide (decide (x1<0)≠decide (x2<0))) (Q:Int)=yt x1 x2:=by rw [decide_eq_true hsd,hQ];exact (Big.fq_even hy hsd hr0).1
    refine zt<|zd<|ze ?_
    have e26:yD (decide (decide (x1<0)≠decide (x2<0))) (Q:Int)=yt x1 x2:=by exact hqz
    rw [e26]
    refine zwa (.c (i:=4) rfl (.c (i:=3) rfl (.c (i:=0) rfl (.c (i:=0) rfl (.c (i:=0) rfl .n)))))<|zZ (OW:=[boxA b3 41 [wz.b,wz.l],boxA b4 41 [wz.b,wz.l]]) (O:=[boxA b16 41 [.bool (decide ((yt x1 x2)<0)),.slice p214 ((yc ((yt x1 x2).natAbs)).length) c215],boxA b2 41 [.bool (decide (x2<0)),.slice p27 ((yc ((x2).natAbs)).length) c28],boxA b1 41 [.bool (decide (x1<0)),.slice p25 ((yc ((x1).natAbs)).length) c26]]) 6 mixed (.then .ret) kr<|e_uw 0 rfl rfl (zc 2 ty41 rfl rfl (.t2 .nil))<|e_uw 1 rfl rfl (zc 4 ty41 rfl rfl (.t2 .nil))<|e_uw 2 rfl rfl (zc 2 ty41 rfl rfl (.t2 .nil))<|e_uw 3 rfl rfl (zc 3 ty41 rfl rfl (.t2 .nil))<|e_one 4 (zE rfl rfl rfl rfl (.c rfl (.c rfl .n)) ce73 (zrc (x1:=yt x1 x2) (x2:=x2) (p1:=p214) (c1:=c215) (p2:=p27) (c2:=c28) (hb1:=by first|rfl|assumption|omega|(unfold yk;omega)|(unfold yk;rw [hsq];omega)|(decide +kernel)) (hb2:=by first|rfl|assumption|omega|(unfold yk;omega)|(unfold yk;rw [hsq];omega)|(decide +kernel))) (.c (j:=0) rfl (.c (j:=3) rfl .n)) ?_)
    rintro ⟨p327,c328⟩ -
    dsimp only [aq,nq,cq]
    refine e_one 5 (zE rfl rfl rfl rfl (.c rfl (.c rfl .n)) ce133 (zqc (x1:=x1) (x2:=(yt x1 x2)*x2) (p1:=p25) (c1:=c26) (p2:=p327) (c2:=c328) (hb1:=by first|rfl|assumption|omega|(unfold yk;omega)|(unfold yk;rw [hsq];omega)|(decide +kernel)) (hb2:=by first|rfl|assumption|omega|(unfold yk;omega)|(unfold yk;rw [hsq];omega)|(decide +kernel))) (.c (j:=5) rfl (.c (j:=0) rfl .n)) ?_)
    rintro ⟨p329,c330⟩ -
    dsimp only [aq,nq,cq]
    refine e_one 6 (zA kr rfl rfl rfl rfl rfl sz41 rfl (.t2 .nil) ?_)
    refine zab (zea (i:=1) rfl)<|e_one 7 (zA kr rfl rfl rfl rfl rfl sz41 rfl (.t2 .nil) ?_)
    refine e_pv 8 rfl rfl (zb rfl)<|zX kr<|zd<|zJ ?_
    have hz2:x1 - yt x1 x2*x2=yI x1 x2:=by unfold yI;rw [Int.mul_comm]
    exact zed Tryz.results110 (p214,c215,p329,c330) trivial (zC 1 ty41 rfl rfl (.t2 .nil)) (zC 0 ty41 rfl rfl (.t2 .nil)) (zn rfl) (by rw [hz2]) (ho:=(.n:PickO _ _ _)) ((.c (j:=2) rfl (.e (j:=0) rfl (by rw [hz2]) .n)):SelR _ _ _)
  ·
   have hs9:=Decidable.not_not.1 hsd
   have hqz:yD (decide (decide (x1<0)≠decide (x2<0))) (Q:Int)=yt x1 x2:=by rw [decide_eq_false hsd,hQ];exact (Big.fq_same hy hs9).1
   refine e_no<|e_no<|e_no<|e_p (zo rfl rfl)<|zh<|zd<|zBa rfl rfl<|zt<|zd<|ze ?_
   have e31:yD (decide (decide (x1<0)≠decide (x2<0))) (Q:Int)=yt x1 x2:=by exact hqz
   rw [e31]
   refine zwa (.c (i:=4) rfl (.c (i:=3) rfl (.c (i:=0) rfl (.c (i:=0) rfl (.c (i:=0) rfl .n)))))<|zZ (OW:=[boxA b3 41 [wz.b,wz.l],boxA b4 41 [wz.b,wz.l]]) (O:=[boxA b16 41 [.bool (decide ((yt x1 x2)<0)),.slice p214 ((yc ((yt x1 x2).natAbs)).length) c215],boxA b2 41 [.bool (decide (x2<0)),.slice p27 ((yc ((x2).natAbs)).length) c28],boxA b1 41 [.bool (decide (x1<0)),.slice p25 ((yc ((x1).natAbs)).length) c26]]) 6 mixed (.then .ret) kr<|e_uw 0 rfl rfl (zc 2 ty41 rfl rfl (.t2 .nil))<|e_uw 1 rfl rfl (zc 4 ty41 rfl rfl (.t2 .nil))<|e_uw 2 rfl rfl (zc 2 ty41 rfl rfl (.t2 .nil))<|e_uw 3 rfl rfl (zc 3 ty41 rfl rfl (.t2 .nil))<|e_one 4 (zE rfl rfl rfl rfl (.c rfl (.c rfl .n)) ce73 (zrc (x1:=yt x1 x2) (x2:=x2) (p1:=p214) (c1:=c215) (p2:=p27) (c2:=c28) (hb1:=by first|rfl|assumption|omega|(unfold yk;omega)|(unfold yk;rw [hsq];omega)|(decide +kernel)) (hb2:=by first|rfl|assumption|omega|(unfold yk;omega)|(unfold yk;rw [hsq];omega)|(decide +kernel))) (.c (j:=0) rfl (.c (j:=3) rfl .n)) ?_)
   rintro ⟨p332,c333⟩ -
   dsimp only [aq,nq,cq]
   refine e_one 5 (zE rfl rfl rfl rfl (.c rfl (.c rfl .n)) ce133 (zqc (x1:=x1) (x2:=(yt x1 x2)*x2) (p1:=p25) (c1:=c26) (p2:=p332) (c2:=c333) (hb1:=by first|rfl|assumption|omega|(unfold yk;omega)|(unfold yk;rw [hsq];omega)|(decide +kernel)) (hb2:=by first|rfl|assumption|omega|(unfold yk;omega)|(unfold yk;rw [hsq];omega)|(decide +kernel))) (.c (j:=5) rfl (.c (j:=0) rfl .n)) ?_)
   rintro ⟨p334,c335⟩ -
   dsimp only [aq,nq,cq]
   refine e_one 6 (zA kr rfl rfl rfl rfl rfl sz41 rfl (.t2 .nil) ?_)
   refine zab (zea (i:=1) rfl)<|e_one 7 (zA kr rfl rfl rfl rfl rfl sz41 rfl (.t2 .nil) ?_)
   refine e_pv 8 rfl rfl (zb rfl)<|zX kr<|zd<|zJ ?_
   have hz2:x1 - yt x1 x2*x2=yI x1 x2:=by unfold yI;rw [Int.mul_comm]
   exact zed Tryz.results110 (p214,c215,p334,c335) trivial (zC 1 ty41 rfl rfl (.t2 .nil)) (zC 0 ty41 rfl rfl (.t2 .nil)) (zn rfl) (by rw [hz2]) (ho:=(.n:PickO _ _ _)) ((.c (j:=2) rfl (.e (j:=0) rfl (by rw [hz2]) .n)):SelR _ _ _)
theorem zrb {w1:Wd} {w2:Wd} {x1:Int} {x2:Int} (hb1:yk x1≤274877906944) (hb2:yk x2≤274877906944) (hy:x2≠0):Con yj 110 [.agg #[w1.b,w1.l],.agg #[w2.b,w2.l]] [] [zF w1 (x1),zF w2 (x2)] (Y:=(Wd)×(Wd)) (fun y=>True) (fun y=> .tuple #[.agg #[y.1.b,y.1.l],.agg #[y.2.b,y.2.l],ya yb (0)]) (fun y=>[]) (fun y=>[zF y.1 (yt x1 x2),zF y.2 (yI x1 x2)]):=by
  exact zpf (zEc (fun p1 c1 p2 c2=>zRd hb1 hb2 hy))
end Go.Proofs.YtjcpbhlijoigfaaGreat.Sp
namespace Go.Proofs.YtjcpbhlijoigfaaGreat.Sp
open Go
set_option linter.unusedVariables false
set_option maxRecDepth 100000
set_option maxHeartbeats 8000000
theorem zmd {z:Int} (hz: -9223372036854775808≤z∧z≤9223372036854775807):Con yj 74 [ya yb z] [] [] (Y:=(Option Addr)×Nat) (fun y=>True) (fun y=> .agg #[.bool (decide (z<0)),.slice (y.1) ((yc ((z).natAbs)).length) (y.2)]) (fun y=>[]) (fun y=>[slF (rI .u32) (y.1) (y.2) (yc ((z).natAbs))]):=by
 refine zp Tryz.func74 rfl rfl rfl (fun c=> ?_)
 show RunC _ _ _ _ _ [(0,ya yb z)] [] []
 refine ze<|za<|zP rfl rfl (zu zr41 rfl) (fun b1=> ?_)
 refine zh<|zd<|ze<|za<|e_mv rfl<|zL rfl rfl (.c rfl .n) ce113 (zAf (z:=z) (hz:=ass)) (.n) ?_
 rintro ⟨p22,c23⟩ -
 dsimp only [aq,nq,cq]
 refine zq 0 rfl rfl rfl rfl rfl sz41 rfl (.t2 .nil) .z<|zh<|zd<|zJ ?_
 exact zx Tryz.results74 (p22,c23) trivial (zC 0 ty41 rfl rfl (.t2 .nil)) rfl (ho:=(.n:PickO _ _ _)) ((.c (j:=0) rfl .n):SelR _ _ _)
theorem zFb {z:Int} (hz: -9223372036854775808≤z∧z≤9223372036854775807):Con yj 74 [ya yb (z)] [] [] (Y:=(Wd)) (fun y=>True) (fun y=> .agg #[y.b,y.l]) (fun y=>[]) (fun y=>[zF y (z)]):=by
  exact zZb (zmd hz)
theorem znd {z:Int} (hz: -9223372036854775808≤z∧z≤9223372036854775807):Con yj 26 [ya yb z] [] [] (Y:=Wd×Wd) (fun y=>True) (fun y=> .agg #[y.1.b,y.1.l,y.2.b,y.2.l]) (fun y=>[]) (fun y=>[qF true y.1 y.2 ((z:Int):Rat)]):=by
 refine zp Tryz.func26 rfl rfl rfl (fun c=> ?_)
 show RunC _ _ _ _ _ [(0,ya yb z)] [] []
 refine ze<|za<|zP rfl rfl (zu zr43 rfl) (fun b1=> ?_)
 refine zh<|zd<|ze<|za<|e_mv rfl<|zL rfl rfl (.c rfl .n) ce74 (zFb (z:=z) (hz:=ass)) (.n) ?_
 rintro w32 -
 dsimp only [aq,nq,cq]
 refine zL rfl rfl (.c rfl .n) ce74 (zFb (z:=1) (hz:=by first|rfl|assumption|omega|(rw [yn];omega)|(decide +kernel))) (.n) ?_
 rintro w33 -
 dsimp only [aq,nq,cq]
 refine e_p (zN zr43 rfl yg (.c sz41 (.c sz41 .n)) (.c rfl (.c rfl .n)) (.c rfl rfl rfl (.t2 .nil) (.c rfl rfl rfl (.s2 (.t2 .nil)) .n)))<|zq 0 rfl rfl rfl rfl rfl sz43 rfl (.t4 .nil) .z<|zh<|zd<|zJ<|zNb (qF true w32 w33 ((z:Int):Rat)) (qF_close 1 0 rfl rfl (by exact ⟨(Rat.num_intCast z).symm,by rw [Rat.den_intCast];rfl,Nat.le_trans (Big.hq_64 hz.1 hz.2) dd⟩)) ?_
 exact zx Tryz.results26 (w32,w33) trivial (zC 0 ty43 rfl rfl (.t4 .nil)) rfl (ho:=(.n:PickO _ _ _)) ((.c (j:=0) rfl .n):SelR _ _ _)
theorem zad {s:Bool} {p1:Option Addr} {n1:Nat} {c1:Nat} {l1:List Int} {t:Bool} {p2:Option Addr} {n2:Nat} {c2:Nat} {l2:List Int} (hn1:l1.length=n1) (hn2:l2.length=n2) (hm1:n1≤1048576) (hm2:n2≤1048576):Con yj 88 [.agg #[.bool s,.slice p1 n1 c1,.bool t,.slice p2 n2 c2]] [] [slF (rI .u32) p1 c1 l1,slF (rI .u32) p2 c2 l2] (Y:=Unit) (fun y=>True) (fun y=> .bool (decide (Big.qok ((s,l1),(t,l2))))) (fun y=>[]) (fun y=>[]):=by
 refine zp Tryz.func88 rfl rfl rfl (fun c=> ?_)
 show RunC _ _ _ _ _ [(0,.agg #[.bool s,.slice p1 n1 c1,.bool t,.slice p2 n2 c2])] [] [slF (rI .u32) p1 c1 l1,slF (rI .u32) p2 c2 l2]
 refine zfa 0 rfl (fun hL0=> ?_)
 refine zWa 0 rfl (fun hE0=> ?_)
 refine zfa 1 rfl (fun hL1=> ?_)
 refine zWa 1 rfl (fun hE1=> ?_)
 have hnn1:Big.nn l1:=fun g hg=>(zH.1 (hE0 g hg)).1
 have hnn2:Big.nn l2:=fun g hg=>(zH.1 (hE1 g hg)).1
 have hb1:yk (yl s l1)≤n1:=by have:=yH (s:=s) hnn1;omega
 have hb2:yk (yl t l2)≤n2:=by have:=yH (s:=t) hnn2;omega
 refine ze<|za<|zP rfl rfl (zV rfl rfl) (fun b1=> ?_)
 refine e_p (zb rfl)<|zh<|zd<|ze<|zAa (X:=Unit) (fun x=>True) (fun x=>[(18,.bool (decide (¬(Big.canon s l1∧Big.canon t l2∧0<yl t l2)))),(2,.bool false),(1,.pointer (some ⟨b1,0,none⟩))]) (fun x=>[boxA b1 43 [.bool s,.slice p1 n1 c1,.bool t,.slice p2 n2 c2]]) (fun x=>[slF (rI .u32) p1 c1 l1,slF (rI .u32) p2 c2 l2]) ?_ ?_
 ·
  refine za<|e_p (zg yg rfl sz41 rfl rfl)<|e_ru (zc 0 ty41 rfl rfl (.t2 .nil))<|zO rfl rfl (.c rfl .n) ce122 (zyc (s:=s) (p:=p1) (n:=n1) (cap:=c1) (l:=l1) (hn:=ass)) (.c (j:=0) rfl .n)<|e_p (zmb rfl)<|zS rfl rfl (zT rfl) (fun h2=> ?_) (fun h2=> ?_)
  ·
   refine e_no<|e_no<|e_no<|e_no<|e_p (zo rfl rfl)<|e_mv rfl<|e_no<|e_no<|e_no<|e_no<|e_p (zo rfl rfl)<|zh ?_
   exact zY () (show True from by first|trivial|omega|simp_all) ((.e rfl (congrArg Value.bool (by simp_all)) (.c rfl (.c rfl .n))):SubM _ _) (ho:=((.c (i:=0) rfl .n):PickO _ _ _)) ((.of [0,1] rfl):SelR _ _ _)
  ·
   refine e_p (zg yg rfl sz41 rfl rfl)<|e_ru (zc 0 ty41 rfl rfl (.s2 (.t2 .nil)))<|zO rfl rfl (.c rfl .n) ce122 (zyc (s:=t) (p:=p2) (n:=n2) (cap:=c2) (l:=l2) (hn:=ass)) (.c (j:=1) rfl .n)<|e_p (zmb rfl)<|e_p (zo rfl rfl)<|zS rfl rfl (zT rfl) (fun h3=> ?_) (fun h3=> ?_)
   ·
    refine e_no<|e_no<|e_no<|e_no<|e_p (zo rfl rfl)<|zh ?_
    exact zY () (show True from by first|trivial|omega|simp_all) ((.e rfl (congrArg Value.bool (by simp_all)) (.c rfl (.c rfl .n))):SubM _ _) (ho:=((.c (i:=0) rfl .n):PickO _ _ _)) ((.of [0,1] rfl):SelR _ _ _)
   ·
    refine e_p (zg yg rfl sz41 rfl rfl)<|e_ru (zc 0 ty41 rfl rfl (.s2 (.t2 .nil)))<|zO rfl rfl (.c rfl .n) ce105 (zNd (s:=t) (p:=p2) (n:=n2) (cap:=c2) (l:=l2) (hn:=ass) (hln:=by first|rfl|assumption|omega|(rw [yn];omega)|(decide +kernel))) (.c (j:=1) rfl .n)<|e_p (zVa rfl rfl)<|e_p (zo rfl rfl)<|zh ?_
    exact zY () (show True from by first|trivial|omega|simp_all) ((.e rfl (congrArg Value.bool (by exact decide_eq_decide.2 (Big.sgn_le (Decidable.not_not.1 ‹_›) (Decidable.not_not.1 ‹_›)))) (.c rfl (.c rfl .n))):SubM _ _) (ho:=((.c (i:=0) rfl .n):PickO _ _ _)) ((.of [0,1] rfl):SelR _ _ _)
 ·
  rintro ⟨⟩ -
  try dsimp only
  refine zB rfl (fun hc=> ?_) (fun hc=> ?_)
  ·
   refine ze<|za<|e_p (zb rfl)<|zh<|zd<|zJ<|zi ?_
   exact zx Tryz.results88 () trivial (zn rfl) (congrArg Value.bool (decide_eq_false (fun h=>hc ⟨h.1,h.2.1,h.2.2.1⟩))) (ho:=(.n:PickO _ _ _)) (.n:SelR _ _ _)
  ·
   have hcc:=Decidable.not_not.1 hc
   have hgl:=Big.zHd (n:=yl s l1) (d:=yl t l2) om
   refine zt<|zd<|ze<|za<|e_p (zg yg rfl sz41 rfl rfl)<|e_ru (zc 0 ty41 rfl rfl (.t2 .nil))<|e_p (zg yg rfl sz41 rfl rfl)<|e_ru (zc 0 ty41 rfl rfl (.s2 (.t2 .nil)))<|zL rfl rfl (.c rfl (.c rfl .n)) ce109 (zCe (s:=s) (p1:=p1) (n1:=n1) (c1:=c1) (l1:=l1) (t:=t) (p2:=p2) (n2:=n2) (c2:=c2) (l2:=l2) (hn1:=ass) (hn2:=ass) (hm1:=by first|rfl|assumption|omega|(rw [yn];omega)|(decide +kernel)) (hm2:=by first|rfl|assumption|omega|(rw [yn];omega)|(decide +kernel))) (.c (j:=0) rfl (.c (j:=1) rfl .n)) ?_
   rintro ⟨p34,c35⟩ -
   dsimp only [aq,nq,cq]
   refine zL rfl rfl (.c rfl .n) ce74 (zmd (z:=1) (hz:=by first|rfl|assumption|omega|(rw [yn];omega)|(decide +kernel))) (.n) ?_
   rintro ⟨p26,c27⟩ -
   dsimp only [aq,nq,cq]
   refine zO rfl rfl (.c rfl (.c rfl .n)) ce123 (zud (x1:=((Nat.gcd (yl s l1).natAbs (yl t l2).natAbs:Nat):Int)) (x2:=1) (p1:=p34) (c1:=c35) (p2:=p26) (c2:=c27) (hb1:=by first|rfl|assumption|omega|(rw [yn];omega)|(decide +kernel)) (hb2:=by first|rfl|assumption|omega|(rw [yn];omega)|(decide +kernel))) (.c (j:=1) rfl (.c (j:=0) rfl .n))<|e_p (zsa rfl rfl)<|e_p (zb rfl)<|zh<|zd<|zJ ?_
   exact zx Tryz.results88 () trivial (zn rfl) (congrArg Value.bool (decide_eq_decide.2 (Big.qok_sub (x:=((s,l1),(t,l2))) (Decidable.not_not.1 hc)).symm)) (ho:=(.n:PickO _ _ _)) (.n:SelR _ _ _)
theorem zFc {u1:Wd} {v1:Wd} {q1:Rat}:Con yj 88 [.agg #[u1.b,u1.l,v1.b,v1.l]] [] [qF true u1 v1 (q1)] (Y:=Unit) (fun y=>True) (fun y=> .bool true) (fun y=>[]) (fun y=>[]):=by
  exact zjg (fun x hx hk h1 h2=>by have h:= @zad x.1.1 u1.p _ u1.c x.1.2 x.2.1 v1.p _ v1.c x.2.2 rfl rfl h1 h2;rw [decide_eq_true (hk rfl)] at h;exact h)
theorem zne {s:Bool} {p1:Option Addr} {n1:Nat} {c1:Nat} {l1:List Int} {t:Bool} {p2:Option Addr} {n2:Nat} {c2:Nat} {l2:List Int} (hn1:l1.length=n1) (hn2:l2.length=n2) (hm1:n1≤1048576) (hm2:n2≤1048576):Con yj 68 [.agg #[.bool s,.slice p1 n1 c1,.bool t,.slice p2 n2 c2]] [] [slF (rI .u32) p1 c1 l1,slF (rI .u32) p2 c2 l2] (Y:=Wd×Wd) (fun y=>True) (fun y=> .agg #[y.1.b,y.1.l,y.2.b,y.2.l]) (fun y=>[]) (fun y=>[qF true y.1 y.2 (Big.qv ((s,l1),(t,l2)))]):=by
 refine zp Tryz.func68 rfl rfl rfl (fun c=> ?_)
 show RunC _ _ _ _ _ [(0,.agg #[.bool s,.slice p1 n1 c1,.bool t,.slice p2 n2 c2])] [] [slF (rI .u32) p1 c1 l1,slF (rI .u32) p2 c2 l2]
 refine zfa 0 rfl (fun hL0=> ?_)
 refine zWa 0 rfl (fun hE0=> ?_)
 refine zfa 1 rfl (fun hL1=> ?_)
 refine zWa 1 rfl (fun hE1=> ?_)
 have hnn1:Big.nn l1:=fun g hg=>(zH.1 (hE0 g hg)).1
 have hnn2:Big.nn l2:=fun g hg=>(zH.1 (hE1 g hg)).1
 have hb1:yk (yl s l1)≤n1:=by have:=yH (s:=s) hnn1;omega
 have hb2:yk (yl t l2)≤n2:=by have:=yH (s:=t) hnn2;omega
 refine ze<|za<|zP rfl rfl (zV rfl rfl) (fun b1=> ?_)
 refine zP rfl rfl (zu zr43 rfl) (fun b2=> ?_)
 refine zh<|zd<|ze<|ze<|za<|e_ru (zc 1 ty43 rfl rfl (.t4 .nil))<|zO rfl rfl (.c rfl .n) ce88 (zad (s:=s) (p1:=p1) (n1:=n1) (c1:=c1) (l1:=l1) (t:=t) (p2:=p2) (n2:=n2) (c2:=c2) (l2:=l2) (hn1:=ass) (hn2:=ass) (hm1:=ass) (hm2:=ass)) (.c (j:=0) rfl (.c (j:=1) rfl .n))<|zh<|zd<|zB rfl (fun hq=> ?_) (fun hq=> ?_)
 ·
  have hrp:=Big.raw_parts (x:=((s,l1),(t,l2))) hnn1 hnn2 hq
  have hqp:=Big.qv_parts (x:=((s,l1),(t,l2))) hq
  have hl:yB (Big.qv ((s,l1),(t,l2)))≤1048576:=by unfold yB;rw [hqp.1,hqp.2];dsimp only;omega
  refine ze<|za<|e_ru (zc 1 ty43 rfl rfl (.t4 .nil))<|zq 0 rfl rfl rfl rfl rfl sz43 rfl (.t4 .nil) .z<|zh<|zd<|zJ<|zi<|zNb (qF true ⟨s,p1,n1,c1⟩ ⟨t,p2,n2,c2⟩ (Big.qv ((s,l1),(t,l2)))) (fun g r=>qF_rawI 0 1 rfl rfl hn1 hn2 hm1 hm2 hq g r) ?_
  exact zx Tryz.results68 (⟨s,p1,n1,c1⟩,⟨t,p2,n2,c2⟩) trivial (zC 0 ty43 rfl rfl (.t4 .nil)) rfl (ho:=(.n:PickO _ _ _)) ((.c (j:=0) rfl .n):SelR _ _ _)
 ·
  have hz:=Big.qv_not (x:=((s,l1),(t,l2))) hq
  refine zt<|zd<|ze<|za<|zL rfl rfl (.c rfl .n) ce26 (znd (z:=0) (hz:=by first|rfl|assumption|omega|(rw [yn];omega)|(decide +kernel))) (.n) ?_
  rintro ⟨w33,w44⟩ -
  dsimp only [aq,nq,cq]
  refine zq 0 rfl rfl rfl rfl rfl sz43 rfl (.t4 .nil) .z<|zh<|zd<|zJ ?_
  exact zx Tryz.results68 (w33,w44) trivial (zC 0 ty43 rfl rfl (.t4 .nil)) rfl (ho:=(.n:PickO _ _ _)) ((.e (j:=0) rfl (by rw [hz];rfl) .n):SelR _ _ _)
theorem zdb {k1:Bool} {u1:Wd} {v1:Wd} {q1:Rat}:Con yj 68 [.agg #[u1.b,u1.l,v1.b,v1.l]] [] [qF k1 u1 v1 (q1)] (Y:=(Wd)×(Wd)) (fun y=>True) (fun y=> .agg #[y.1.b,y.1.l,y.2.b,y.2.l]) (fun y=>[]) (fun y=>[qF true y.1 y.2 (q1)]):=by
  exact zof (fun x hx hk h1 h2 hl=>by subst hx;exact zne rfl rfl h1 h2)
theorem zSb {w1:Wd} {w2:Wd} {x1:Int} {x2:Int} (hl1:yk x1≤1048576) (hl2:yk x2≤1048576) (hd:x2≠0):Con yj 72 [.agg #[w1.b,w1.l],.agg #[w2.b,w2.l]] [] [zF w1 x1,zF w2 x2] (Y:=Wd×Wd) (fun y=>True) (fun y=> .agg #[y.1.b,y.1.l,y.2.b,y.2.l]) (fun y=>[]) (fun y=>[qF true y.1 y.2 (Rat.divInt x1 x2)]):=by
 refine zp Tryz.func72 rfl rfl rfl (fun c=> ?_)
 show RunC _ _ _ _ _ [(0,.agg #[w1.b,w1.l]),(1,.agg #[w2.b,w2.l])] [] [zF w1 x1,zF w2 x2]
 refine ze<|za<|zP rfl rfl (zV rfl rfl) (fun b1=> ?_)
 refine zP rfl rfl (zV rfl rfl) (fun b2=> ?_)
 refine zP rfl rfl (zu zr43 rfl) (fun b3=> ?_)
 refine zh<|zd<|ze<|za<|e_ru (zc 2 ty41 rfl rfl (.t2 .nil))<|e_ru (zc 1 ty41 rfl rfl (.t2 .nil))<|zL rfl rfl (.c rfl (.c rfl .n)) ce109 (zGf (w1:=w1) (w2:=w2) (x1:=x1) (x2:=x2) (hb1:=by first|rfl|assumption|omega|(rw [yn];omega)|(decide +kernel)) (hb2:=by first|rfl|assumption|omega|(rw [yn];omega)|(decide +kernel))) (.c (j:=0) rfl (.c (j:=1) rfl .n)) ?_
 rintro w34 -
 dsimp only [aq,nq,cq]
 refine zP rfl rfl (zu zr41 rfl) (fun b5=> ?_)
 refine zq 0 rfl rfl rfl rfl rfl sz41 rfl (.t2 .nil) .z<|zh<|zd<|ze<|ze<|za<|e_ru (zc 2 ty41 rfl rfl (.t2 .nil))<|zO rfl rfl (.c rfl .n) ce105 (zzc (w1:=w2) (x1:=x2) (hln:=by first|rfl|assumption|omega|(rw [yn];omega)|(decide +kernel))) (.c (j:=2) rfl .n)<|e_p (zR rfl rfl)<|zh<|zd<|zB rfl (fun hneg=> ?_) (fun hneg=> ?_)
 ·
  have hs:x2<0:=by rcases Big.sign_le (x:=x2) with h|h|h <;> omega
  have hgp:=Big.gcd_pos_right (n:=x1) (d:=x2) om
  have hgl:=Big.zHd (n:=x1) (d:=x2) om
  obtain ⟨hr1,hr2⟩:=Big.red_neg (n:=x1) hs
  refine za<|e_ru (zc 0 ty41 rfl rfl (.t2 .nil))<|zL rfl rfl (.c rfl .n) ce106 (zMd (w1:=w34) (x1:=((Nat.gcd x1.natAbs x2.natAbs:Nat):Int)) (hln:=by first|rfl|assumption|omega|(rw [yn];omega)|(decide +kernel))) (.c (j:=0) rfl .n) ?_
  rintro w36 -
  dsimp only [aq,nq,cq]
  refine zq 0 rfl rfl rfl rfl rfl sz41 rfl (.t2 .nil) .z<|zh<|zd<|ze<|za<|e_ru (zc 3 ty41 rfl rfl (.t2 .nil))<|e_ru (zc 0 ty41 rfl rfl (.t2 .nil))<|zL rfl rfl (.c rfl (.c rfl .n)) ce110 (zrb (w1:=w1) (w2:=w36) (x1:=x1) (x2:= - ((Nat.gcd x1.natAbs x2.natAbs:Nat):Int)) (hb1:=by first|rfl|assumption|omega|(rw [yn];omega)|(decide +kernel)) (hb2:=by first|rfl|assumption|omega|(rw [yn];omega)|(decide +kernel)) (hy:=by first|rfl|assumption|omega|(rw [yn];omega)|(decide +kernel))) (.c (j:=2) rfl (.c (j:=0) rfl .n)) ?_
  rintro ⟨w37,w48⟩ -
  dsimp only [aq,nq,cq]
  refine e_mv rfl<|e_p (zD rfl rfl)<|e_p (zD rfl rfl)<|e_p (zD rfl rfl)<|zP rfl rfl (zu zr41 rfl) (fun b9=> ?_)
  refine zP rfl rfl (zu zr41 rfl) (fun b10=> ?_)
  refine zq 1 rfl rfl rfl rfl rfl sz41 rfl (.t2 .nil) (.s .z)<|zq 0 rfl rfl rfl rfl rfl sz41 rfl (.t2 .nil) .z<|e_p (zb rfl)<|zh<|zd<|ze<|za<|e_ru (zc 4 ty41 rfl rfl (.t2 .nil))<|e_ru (zc 2 ty41 rfl rfl (.t2 .nil))<|zL rfl rfl (.c rfl (.c rfl .n)) ce110 (zrb (w1:=w2) (w2:=w36) (x1:=x2) (x2:= - ((Nat.gcd x1.natAbs x2.natAbs:Nat):Int)) (hb1:=by first|rfl|assumption|omega|(rw [yn];omega)|(decide +kernel)) (hb2:=by first|rfl|assumption|omega|(rw [yn];omega)|(decide +kernel)) (hy:=by first|rfl|assumption|omega|(rw [yn];omega)|(decide +kernel))) (.c (j:=5) rfl (.c (j:=2) rfl .n)) ?_
  rintro ⟨w311,w412⟩ -
  dsimp only [aq,nq,cq]
  refine e_mv rfl<|e_p (zD rfl rfl)<|e_p (zD rfl rfl)<|e_p (zD rfl rfl)<|zP rfl rfl (zu zr41 rfl) (fun b13=> ?_)
  refine zP rfl rfl (zu zr41 rfl) (fun b14=> ?_)
  refine zq 1 rfl rfl rfl rfl rfl sz41 rfl (.t2 .nil) (.s .z)<|zq 0 rfl rfl rfl rfl rfl sz41 rfl (.t2 .nil) .z<|e_p (zb rfl)<|zh<|zd<|ze<|za<|e_ru (zc 3 ty41 rfl rfl (.t2 .nil))<|e_ru (zc 1 ty41 rfl rfl (.t2 .nil))<|e_p (zN zr43 rfl yg (.c sz41 (.c sz41 .n)) (.c rfl (.c rfl .n)) (.c rfl rfl rfl (.t2 .nil) (.c rfl rfl rfl (.s2 (.t2 .nil)) .n)))<|zq 5 rfl rfl rfl rfl rfl sz43 rfl (.t4 .nil) (.s (.s (.s (.s (.s .z)))))<|zh<|zd<|zJ<|zNb (qF true w37 w311 (Rat.divInt x1 x2)) (qF_close 2 0 rfl rfl (by exact ⟨hr1,hr2,Nat.le_trans (Big.hq_divInt hd) om⟩)) ?_
  exact zx Tryz.results72 (w37,w311) trivial (zC 5 ty43 rfl rfl (.t4 .nil)) rfl (ho:=(.n:PickO _ _ _)) ((.c (j:=0) rfl .n):SelR _ _ _)
 ·
  have hs:0<x2:=by rcases Big.sign_le (x:=x2) with h|h|h <;> omega
  have hgp:=Big.gcd_pos_right (n:=x1) (d:=x2) om
  have hgl:=Big.zHd (n:=x1) (d:=x2) om
  obtain ⟨hr1,hr2⟩:=Big.red_pos (n:=x1) hs
  refine zt<|zd<|ze<|za<|e_ru (zc 3 ty41 rfl rfl (.t2 .nil))<|e_ru (zc 0 ty41 rfl rfl (.t2 .nil))<|zL rfl rfl (.c rfl (.c rfl .n)) ce110 (zrb (w1:=w1) (w2:=w34) (x1:=x1) (x2:=((Nat.gcd x1.natAbs x2.natAbs:Nat):Int)) (hb1:=by first|rfl|assumption|omega|(rw [yn];omega)|(decide +kernel)) (hb2:=by first|rfl|assumption|omega|(rw [yn];omega)|(decide +kernel)) (hy:=by first|rfl|assumption|omega|(rw [yn];omega)|(decide +kernel))) (.c (j:=1) rfl (.c (j:=0) rfl .n)) ?_
  rintro ⟨w315,w416⟩ -
  dsimp only [aq,nq,cq]
  refine e_mv rfl<|e_p (zD rfl rfl)<|e_p (zD rfl rfl)<|e_p (zD rfl rfl)<|zP rfl rfl (zu zr41 rfl) (fun b17=> ?_)
  refine zP rfl rfl (zu zr41 rfl) (fun b18=> ?_)
  refine zq 1 rfl rfl rfl rfl rfl sz41 rfl (.t2 .nil) (.s .z)<|zq 0 rfl rfl rfl rfl rfl sz41 rfl (.t2 .nil) .z<|e_p (zb rfl)<|zh<|zd<|ze<|za<|e_ru (zc 4 ty41 rfl rfl (.t2 .nil))<|e_ru (zc 2 ty41 rfl rfl (.t2 .nil))<|zL rfl rfl (.c rfl (.c rfl .n)) ce110 (zrb (w1:=w2) (w2:=w34) (x1:=x2) (x2:=((Nat.gcd x1.natAbs x2.natAbs:Nat):Int)) (hb1:=by first|rfl|assumption|omega|(rw [yn];omega)|(decide +kernel)) (hb2:=by first|rfl|assumption|omega|(rw [yn];omega)|(decide +kernel)) (hy:=by first|rfl|assumption|omega|(rw [yn];omega)|(decide +kernel))) (.c (j:=4) rfl (.c (j:=2) rfl .n)) ?_
  rintro ⟨w319,w420⟩ -
  dsimp only [aq,nq,cq]
  refine e_mv rfl<|e_p (zD rfl rfl)<|e_p (zD rfl rfl)<|e_p (zD rfl rfl)<|zP rfl rfl (zu zr41 rfl) (fun b21=> ?_)
  refine zP rfl rfl (zu zr41 rfl) (fun b22=> ?_)
  refine zq 1 rfl rfl rfl rfl rfl sz41 rfl (.t2 .nil) (.s .z)<|zq 0 rfl rfl rfl rfl rfl sz41 rfl (.t2 .nil) .z<|e_p (zb rfl)<|zh<|zd<|ze<|za<|e_ru (zc 3 ty41 rfl rfl (.t2 .nil))<|e_ru (zc 1 ty41 rfl rfl (.t2 .nil))<|e_p (zN zr43 rfl yg (.c sz41 (.c sz41 .n)) (.c rfl (.c rfl .n)) (.c rfl rfl rfl (.t2 .nil) (.c rfl rfl rfl (.s2 (.t2 .nil)) .n)))<|zq 5 rfl rfl rfl rfl rfl sz43 rfl (.t4 .nil) (.s (.s (.s (.s (.s .z)))))<|zh<|zd<|zJ<|zNb (qF true w315 w319 (Rat.divInt x1 x2)) (qF_close 2 0 rfl rfl (by exact ⟨hr1,hr2,Nat.le_trans (Big.hq_divInt hd) om⟩)) ?_
  exact zx Tryz.results72 (w315,w319) trivial (zC 5 ty43 rfl rfl (.t4 .nil)) rfl (ho:=(.n:PickO _ _ _)) ((.c (j:=0) rfl .n):SelR _ _ _)
theorem zfg {w1:Wd} {w2:Wd} {x1:Int} {x2:Int} (hl1:yk x1≤1048576) (hl2:yk x2≤1048576):Con yj 127 [.agg #[w1.b,w1.l],.agg #[w2.b,w2.l]] [] [zF w1 x1,zF w2 x2] (Y:=Wd×Wd) (fun y=>True) (fun y=> .tuple #[.agg #[y.1.b,y.1.l,y.2.b,y.2.l],ya yb (if x2=0 then 14 else 0)]) (fun y=>[]) (fun y=>[qF (decide (x2≠0)) y.1 y.2 (Rat.divInt x1 x2)]):=by
 refine zp Tryz.func127 rfl rfl rfl (fun c=> ?_)
 show RunC _ _ _ _ _ [(0,.agg #[w1.b,w1.l]),(1,.agg #[w2.b,w2.l])] [] [zF w1 x1,zF w2 x2]
 refine ze<|za<|zP rfl rfl (zV rfl rfl) (fun b1=> ?_)
 refine zP rfl rfl (zV rfl rfl) (fun b2=> ?_)
 refine zP rfl rfl (zu zr43 rfl) (fun b3=> ?_)
 refine e_p (zb rfl)<|zh<|zd<|ze<|ze<|za<|e_ru (zc 1 ty41 rfl rfl (.t2 .nil))<|zO rfl rfl (.c rfl .n) ce105 (zzc (w1:=w2) (x1:=x2) (hln:=by first|rfl|assumption|omega|(rw [yn];omega)|(decide +kernel))) (.c (j:=1) rfl .n)<|e_p (zsa rfl rfl)<|zh<|zd<|zB rfl (fun hz0=> ?_) (fun hz0=> ?_)
 ·
  have hx0:x2=0:=Big.sign_zero.1 hz0
  refine ze<|za<|e_p (zN zr43 rfl yg (.c sz41 (.c sz41 .n)) .n .n)<|zq 0 rfl rfl rfl rfl rfl sz43 rfl (.t4 .nil) .z<|e_p (zb rfl)<|zh<|zd<|zJ<|zi<|zNb (qF false wz wz 0) (fun g _=>qF_none g) ?_
  exact zEa Tryz.results127 (wz,wz) trivial (zC 0 ty43 rfl rfl (.t4 .nil)) (zn rfl) (by rw [if_pos hx0];rfl) (ho:=(.n:PickO _ _ _)) ((.e (j:=0) rfl (by rw [Big.divInt_nil hx0,decide_eq_false (not_not_intro hx0)]) .n):SelR _ _ _)
 ·
  have hx0:x2≠0:=fun e=>hz0 (Big.sign_zero.2 e)
  refine zt<|zd<|ze<|za<|e_ru (zc 2 ty41 rfl rfl (.t2 .nil))<|e_ru (zc 1 ty41 rfl rfl (.t2 .nil))<|zL rfl rfl (.c rfl (.c rfl .n)) ce72 (zSb (w1:=w1) (w2:=w2) (x1:=x1) (x2:=x2) (hl1:=ass) (hl2:=ass) (hd:=by first|rfl|assumption|omega|(rw [yn];omega)|(decide +kernel))) (.c (j:=0) rfl (.c (j:=1) rfl .n)) ?_
  rintro ⟨w34,w45⟩ -
  dsimp only [aq,nq,cq]
  refine zq 0 rfl rfl rfl rfl rfl sz43 rfl (.t4 .nil) .z<|e_p (zb rfl)<|zh<|zd<|zJ ?_
  exact zEa Tryz.results127 (w34,w45) trivial (zC 0 ty43 rfl rfl (.t4 .nil)) (zn rfl) (by rw [if_neg hx0]) (ho:=(.n:PickO _ _ _)) ((.e (j:=0) rfl (by rw [decide_eq_true hx0]) .n):SelR _ _ _)
theorem zgg {z1:Int} {z2:Int} (hz1: -9223372036854775808≤z1∧z1≤9223372036854775807) (hz2: -9223372036854775808≤z2∧z2≤9223372036854775807):Con yj 107 [ya yb z1,ya yb z2] [] [] (Y:=Wd×Wd) (fun y=>True) (fun y=> .tuple #[.agg #[y.1.b,y.1.l,y.2.b,y.2.l],ya yb (if z2=0 then 14 else 0)]) (fun y=>[]) (fun y=>[qF (decide (z2≠0)) y.1 y.2 (Rat.divInt z1 z2)]):=by
 refine zp Tryz.func107 rfl rfl rfl (fun c=> ?_)
 show RunC _ _ _ _ _ [(0,ya yb z1),(1,ya yb z2)] [] []
 have g1:=Big.zrg hz1.1 hz1.2
 have g2:=Big.zrg hz2.1 hz2.2
 refine ze<|za<|zP rfl rfl (zu zr43 rfl) (fun b1=> ?_)
 refine e_p (zb rfl)<|zh<|zd<|ze<|za<|e_mv rfl<|zL rfl rfl (.c rfl .n) ce74 (zFb (z:=z1) (hz:=ass)) (.n) ?_
 rintro w32 -
 dsimp only [aq,nq,cq]
 refine e_mv rfl<|zL rfl rfl (.c rfl .n) ce74 (zFb (z:=z2) (hz:=ass)) (.n) ?_
 rintro w33 -
 dsimp only [aq,nq,cq]
 refine zL rfl rfl (.c rfl (.c rfl .n)) ce127 (zfg (w1:=w32) (w2:=w33) (x1:=z1) (x2:=z2) (hl1:=by first|rfl|assumption|omega|(rw [yn];omega)|(decide +kernel)) (hl2:=by first|rfl|assumption|omega|(rw [yn];omega)|(decide +kernel))) (.c (j:=1) rfl (.c (j:=0) rfl .n)) ?_
 rintro ⟨w34,w45⟩ -
 dsimp only [aq,nq,cq]
 refine e_p (zD rfl rfl)<|e_p (zD rfl rfl)<|zq 0 rfl rfl rfl rfl rfl sz43 rfl (.t4 .nil) .z<|e_p (zb rfl)<|zh<|zd<|zJ ?_
 exact zEa Tryz.results107 (w34,w45) trivial (zC 0 ty43 rfl rfl (.t4 .nil)) (zn rfl) rfl (ho:=(.n:PickO _ _ _)) ((.c (j:=0) rfl .n):SelR _ _ _)
theorem zSe {z1:Int} {z2:Int} (hz1: -9223372036854775808≤z1∧z1≤9223372036854775807) (hz2: -9223372036854775808≤z2∧z2≤9223372036854775807) (hy:z2≠0):Con yj 107 [ya yb (z1),ya yb (z2)] [] [] (Y:=(Wd)×(Wd)) (fun y=>True) (fun y=> .tuple #[.agg #[y.1.b,y.1.l,y.2.b,y.2.l],ya yb (0)]) (fun y=>[]) (fun y=>[qF true y.1 y.2 (Rat.divInt z1 z2)]):=by
  have h:=zgg hz1 hz2
  rw [if_neg hy,decide_eq_true hy] at h
  exact h
theorem zTe {k1:Bool} {u1:Wd} {v1:Wd} {q1:Rat} (hl:yB q1≤1048576):Con yj 66 [.agg #[u1.b,u1.l,v1.b,v1.l]] [] [qF k1 u1 v1 q1] (Y:=Unit) (fun y=>True) (fun y=> ya yb (Big.sgq q1)) (fun y=>[]) (fun y=>[]):=by
 refine zp Tryz.func66 rfl rfl rfl (fun c=> ?_)
 show RunC _ _ _ _ _ [(0,.agg #[u1.b,u1.l,v1.b,v1.l])] [] [qF k1 u1 v1 q1]
 have a1:=yw q1
 have a2:=yx q1
 refine ze<|za<|zP rfl rfl (zV rfl rfl) (fun b1=> ?_)
 refine e_p (zb rfl)<|zh<|zd<|ze<|za<|e_ru (zc 0 ty43 rfl rfl (.t4 .nil))<|zL rfl rfl (.c rfl .n) ce68 (zdb (k1:=k1) (u1:=u1) (v1:=v1) (q1:=q1)) (.c (j:=0) rfl .n) ?_
 rintro ⟨w32,w43⟩ -
 dsimp only [aq,nq,cq]
 refine e_p (zBc yg rfl ty41 rfl (.t2 .nil))<|zAc (qF_open 0 rfl) (fun _ _=> ?_)
 refine zO rfl rfl (.c rfl .n) ce105 (zzc (w1:=w32) (x1:=(q1).num) (hln:=by first|rfl|assumption|omega|(rw [yn];omega)|(decide +kernel))) (.c (j:=0) rfl .n)<|e_p (zb rfl)<|zh<|zd<|zJ ?_
 exact zx Tryz.results66 () trivial (zn rfl) rfl (ho:=(.n:PickO _ _ _)) (.n:SelR _ _ _)
theorem zHf {k1:Bool} {u1:Wd} {v1:Wd} {q1:Rat} (hl:yB q1≤1048576):Con yj 67 [.agg #[u1.b,u1.l,v1.b,v1.l]] [] [qF k1 u1 v1 q1] (Y:=Wd×Wd) (fun y=>True) (fun y=> .agg #[y.1.b,y.1.l,y.2.b,y.2.l]) (fun y=>[]) (fun y=>[qF true y.1 y.2 (- q1)]):=by
 refine zp Tryz.func67 rfl rfl rfl (fun c=> ?_)
 show RunC _ _ _ _ _ [(0,.agg #[u1.b,u1.l,v1.b,v1.l])] [] [qF k1 u1 v1 q1]
 have a1:=yw q1
 have a2:=yx q1
 refine ze<|za<|zP rfl rfl (zV rfl rfl) (fun b1=> ?_)
 refine zP rfl rfl (zu zr43 rfl) (fun b2=> ?_)
 refine zh<|zd<|ze<|za<|e_ru (zc 1 ty43 rfl rfl (.t4 .nil))<|zL rfl rfl (.c rfl .n) ce68 (zdb (k1:=k1) (u1:=u1) (v1:=v1) (q1:=q1)) (.c (j:=0) rfl .n) ?_
 rintro ⟨w33,w44⟩ -
 dsimp only [aq,nq,cq]
 refine zP rfl rfl (zu zr43 rfl) (fun b5=> ?_)
 refine zq 0 rfl rfl rfl rfl rfl sz43 rfl (.t4 .nil) .z<|zh<|zd<|ze<|zwa (.c (i:=1) rfl (.c (i:=0) rfl (.c (i:=0) rfl .n)))<|zZ (OW:=[boxA b2 43 (cw [wz,wz])]) (O:=[boxA b5 43 (cw [w33,w44]),boxA b1 43 (cw [u1,v1])]) 6 mixed (.then .ret) kr<|e_pv 0 rfl rfl (zg yg rfl sz41 rfl rfl)<|e_uw 1 rfl rfl (zc 1 ty41 rfl rfl (.t2 .nil))<|e_pv 3 rfl rfl (zg yg rfl sz41 rfl rfl)<|e_uw 4 rfl rfl (zc 1 ty41 rfl rfl (.s2 (.t2 .nil)))<|zIb (qF_open 0 rfl) (fun _ _=> ?_)
 refine e_one 2 (zE rfl rfl rfl rfl (.c rfl .n) ce106 (zMd (w1:=w33) (x1:=(q1).num) (hln:=by first|rfl|assumption|omega|(rw [yn];omega)|(decide +kernel))) (.c (j:=0) rfl .n) ?_)
 rintro w36 -
 dsimp only [aq,nq,cq]
 refine e_pv 5 rfl rfl (zN zr43 rfl yg (.c sz41 (.c sz41 .n)) (.c rfl (.c rfl .n)) (.c rfl rfl rfl (.t2 .nil) (.c rfl rfl rfl (.s2 (.t2 .nil)) .n)))<|e_one 6 (zA kr rfl rfl rfl rfl rfl sz43 rfl (.t4 .nil) ?_)
 refine zX kr<|zd<|zJ<|zNb (qF true w36 w44 (- q1)) (qF_close 0 2 rfl rfl (by exact ⟨(Rat.neg_num q1).symm,by rw [Rat.neg_den],by rw [Big.hq_neg];exact hl⟩)) ?_
 exact zx Tryz.results67 (w36,w44) trivial (zC 0 ty43 rfl rfl (.t4 .nil)) rfl (ho:=(.n:PickO _ _ _)) ((.c (j:=0) rfl .n):SelR _ _ _)
theorem zSd {k1:Bool} {u1:Wd} {v1:Wd} {q1:Rat} {k2:Bool} {u2:Wd} {v2:Wd} {q2:Rat} (hl:yB q1+yB q2+1≤1048576):Con yj 70 [.agg #[u1.b,u1.l,v1.b,v1.l],.agg #[u2.b,u2.l,v2.b,v2.l]] [] [qF k1 u1 v1 q1,qF k2 u2 v2 q2] (Y:=Wd×Wd) (fun y=>True) (fun y=> .agg #[y.1.b,y.1.l,y.2.b,y.2.l]) (fun y=>[]) (fun y=>[qF true y.1 y.2 (q1+q2)]):=by
 refine zp Tryz.func70 rfl rfl rfl (fun c=> ?_)
 show RunC _ _ _ _ _ [(0,.agg #[u1.b,u1.l,v1.b,v1.l]),(1,.agg #[u2.b,u2.l,v2.b,v2.l])] [] [qF k1 u1 v1 q1,qF k2 u2 v2 q2]
 have a1:=yw q1
 have a2:=yx q1
 have a3:=yw q2
 have a4:=yx q2
 have b1:=yG q1.num q2.den
 have b2:=yG q2.num q1.den
 have b3:=Big.zPc (q1.num*q2.den) (q2.num*q1.den)
 have b4:=yG (q1.den:Int) q2.den
 have b5:=yG q1.num q2.num
 refine ze<|za<|zP rfl rfl (zV rfl rfl) (fun b1=> ?_)
 refine zP rfl rfl (zV rfl rfl) (fun b2=> ?_)
 refine zP rfl rfl (zu zr43 rfl) (fun b3=> ?_)
 refine zh<|zd<|ze<|za<|e_ru (zc 2 ty43 rfl rfl (.t4 .nil))<|zL rfl rfl (.c rfl .n) ce68 (zdb (k1:=k1) (u1:=u1) (v1:=v1) (q1:=q1)) (.c (j:=0) rfl .n) ?_
 rintro ⟨w34,w45⟩ -
 dsimp only [aq,nq,cq]
 refine zP rfl rfl (zu zr43 rfl) (fun b6=> ?_)
 refine zq 0 rfl rfl rfl rfl rfl sz43 rfl (.t4 .nil) .z<|zh<|zd<|ze<|za<|e_ru (zc 2 ty43 rfl rfl (.t4 .nil))<|zL rfl rfl (.c rfl .n) ce68 (zdb (k1:=k2) (u1:=u2) (v1:=v2) (q1:=q2)) (.c (j:=2) rfl .n) ?_
 rintro ⟨w37,w48⟩ -
 dsimp only [aq,nq,cq]
 refine zP rfl rfl (zu zr43 rfl) (fun b9=> ?_)
 refine zq 0 rfl rfl rfl rfl rfl sz43 rfl (.t4 .nil) .z<|zh<|zd<|ze<|zwa (.c (i:=2) rfl (.c (i:=0) rfl (.c (i:=0) rfl (.c (i:=0) rfl (.c (i:=0) rfl .n)))))<|zZ (OW:=[boxA b3 43 (cw [wz,wz])]) (O:=[boxA b9 43 (cw [w37,w48]),boxA b6 43 (cw [w34,w45]),boxA b2 43 (cw [u2,v2]),boxA b1 43 (cw [u1,v1])]) 17 mixed (.then .ret) kr<|e_pv 0 rfl rfl (zg yg rfl sz41 rfl rfl)<|e_uw 1 rfl rfl (zc 2 ty41 rfl rfl (.t2 .nil))<|e_pv 2 rfl rfl (zg yg rfl sz41 rfl rfl)<|e_uw 3 rfl rfl (zc 1 ty41 rfl rfl (.s2 (.t2 .nil)))<|e_pv 5 rfl rfl (zg yg rfl sz41 rfl rfl)<|e_uw 6 rfl rfl (zc 1 ty41 rfl rfl (.t2 .nil))<|e_pv 7 rfl rfl (zg yg rfl sz41 rfl rfl)<|e_uw 8 rfl rfl (zc 2 ty41 rfl rfl (.s2 (.t2 .nil)))<|e_pv 11 rfl rfl (zg yg rfl sz41 rfl rfl)<|e_uw 12 rfl rfl (zc 2 ty41 rfl rfl (.s2 (.t2 .nil)))<|e_pv 13 rfl rfl (zg yg rfl sz41 rfl rfl)<|e_uw 14 rfl rfl (zc 1 ty41 rfl rfl (.s2 (.t2 .nil)))<|zIb (qF_open 1 rfl) (fun _ _=> ?_)
 refine zIb (qF_open 2 rfl) (fun _ _=> ?_)
 refine e_one 4 (zE rfl rfl rfl rfl (.c rfl (.c rfl .n)) ce73 (zRb (w1:=w34) (w2:=w48) (x1:=(q1).num) (x2:=(((q2).den:Nat):Int)) (hb1:=by first|rfl|assumption|omega|(rw [yn];omega)|(decide +kernel)) (hb2:=by first|rfl|assumption|omega|(rw [yn];omega)|(decide +kernel))) (.c (j:=2) rfl (.c (j:=1) rfl .n)) ?_)
 rintro w310 -
 dsimp only [aq,nq,cq]
 refine e_one 9 (zE rfl rfl rfl rfl (.c rfl (.c rfl .n)) ce73 (zRb (w1:=w37) (w2:=w45) (x1:=(q2).num) (x2:=(((q1).den:Nat):Int)) (hb1:=by first|rfl|assumption|omega|(rw [yn];omega)|(decide +kernel)) (hb2:=by first|rfl|assumption|omega|(rw [yn];omega)|(decide +kernel))) (.c (j:=1) rfl (.c (j:=4) rfl .n)) ?_)
 rintro w311 -
 dsimp only [aq,nq,cq]
 refine e_one 10 (zE rfl rfl rfl rfl (.c rfl (.c rfl .n)) ce108 (zEf (w1:=w310) (w2:=w311) (x1:=((q1).num)*(((q2).den:Nat):Int)) (x2:=((q2).num)*(((q1).den:Nat):Int)) (hb1:=by first|rfl|assumption|omega|(rw [yn];omega)|(decide +kernel)) (hb2:=by first|rfl|assumption|omega|(rw [yn];omega)|(decide +kernel))) (.c (j:=1) rfl (.c (j:=0) rfl .n)) ?_)
 rintro w312 -
 dsimp only [aq,nq,cq]
 refine e_one 15 (zE rfl rfl rfl rfl (.c rfl (.c rfl .n)) ce73 (zRb (w1:=w45) (w2:=w48) (x1:=(((q1).den:Nat):Int)) (x2:=(((q2).den:Nat):Int)) (hb1:=by first|rfl|assumption|omega|(rw [yn];omega)|(decide +kernel)) (hb2:=by first|rfl|assumption|omega|(rw [yn];omega)|(decide +kernel))) (.c (j:=6) rfl (.c (j:=4) rfl .n)) ?_)
 rintro w313 -
 dsimp only [aq,nq,cq]
 refine e_one 16 (zE rfl rfl rfl rfl (.c rfl (.c rfl .n)) ce72 (zSb (w1:=w312) (w2:=w313) (x1:=(((q1).num)*(((q2).den:Nat):Int))+(((q2).num)*(((q1).den:Nat):Int))) (x2:=(((q1).den:Nat):Int)*(((q2).den:Nat):Int)) (hl1:=by first|rfl|assumption|omega|(rw [yn];omega)|(decide +kernel)) (hl2:=by first|rfl|assumption|omega|(rw [yn];omega)|(decide +kernel)) (hd:=by exact Int.mul_ne_zero (Big.den_ne q1) (Big.den_ne q2))) (.c (j:=1) rfl (.c (j:=0) rfl .n)) ?_)
 rintro ⟨w314,w415⟩ -
 dsimp only [aq,nq,cq]
 refine e_one 17 (zA kr rfl rfl rfl rfl rfl sz43 rfl (.t4 .nil) ?_)
 refine zX kr<|zd<|zJ ?_
 exact zx Tryz.results70 (w314,w415) trivial (zC 0 ty43 rfl rfl (.t4 .nil)) rfl (ho:=(.n:PickO _ _ _)) ((.e (j:=0) rfl (by rw [Big.add_parts]) .n):SelR _ _ _)
theorem zTd {k1:Bool} {u1:Wd} {v1:Wd} {q1:Rat} {k2:Bool} {u2:Wd} {v2:Wd} {q2:Rat} (hl:yB q1+yB q2+1≤1048576):Con yj 25 [.agg #[u1.b,u1.l,v1.b,v1.l],.agg #[u2.b,u2.l,v2.b,v2.l]] [] [qF k1 u1 v1 q1,qF k2 u2 v2 q2] (Y:=Wd×Wd) (fun y=>True) (fun y=> .agg #[y.1.b,y.1.l,y.2.b,y.2.l]) (fun y=>[]) (fun y=>[qF true y.1 y.2 (q1*q2)]):=by
 refine zp Tryz.func25 rfl rfl rfl (fun c=> ?_)
 show RunC _ _ _ _ _ [(0,.agg #[u1.b,u1.l,v1.b,v1.l]),(1,.agg #[u2.b,u2.l,v2.b,v2.l])] [] [qF k1 u1 v1 q1,qF k2 u2 v2 q2]
 have a1:=yw q1
 have a2:=yx q1
 have a3:=yw q2
 have a4:=yx q2
 have b1:=yG q1.num q2.den
 have b2:=yG q2.num q1.den
 have b3:=Big.zPc (q1.num*q2.den) (q2.num*q1.den)
 have b4:=yG (q1.den:Int) q2.den
 have b5:=yG q1.num q2.num
 refine ze<|za<|zP rfl rfl (zV rfl rfl) (fun b1=> ?_)
 refine zP rfl rfl (zV rfl rfl) (fun b2=> ?_)
 refine zP rfl rfl (zu zr43 rfl) (fun b3=> ?_)
 refine zh<|zd<|ze<|za<|e_ru (zc 2 ty43 rfl rfl (.t4 .nil))<|zL rfl rfl (.c rfl .n) ce68 (zdb (k1:=k1) (u1:=u1) (v1:=v1) (q1:=q1)) (.c (j:=0) rfl .n) ?_
 rintro ⟨w34,w45⟩ -
 dsimp only [aq,nq,cq]
 refine zP rfl rfl (zu zr43 rfl) (fun b6=> ?_)
 refine zq 0 rfl rfl rfl rfl rfl sz43 rfl (.t4 .nil) .z<|zh<|zd<|ze<|za<|e_ru (zc 2 ty43 rfl rfl (.t4 .nil))<|zL rfl rfl (.c rfl .n) ce68 (zdb (k1:=k2) (u1:=u2) (v1:=v2) (q1:=q2)) (.c (j:=2) rfl .n) ?_
 rintro ⟨w37,w48⟩ -
 dsimp only [aq,nq,cq]
 refine zP rfl rfl (zu zr43 rfl) (fun b9=> ?_)
 refine zq 0 rfl rfl rfl rfl rfl sz43 rfl (.t4 .nil) .z<|zh<|zd<|ze<|zwa (.c (i:=2) rfl (.c (i:=0) rfl (.c (i:=0) rfl (.c (i:=0) rfl (.c (i:=0) rfl .n)))))<|zZ (OW:=[boxA b3 43 (cw [wz,wz])]) (O:=[boxA b9 43 (cw [w37,w48]),boxA b6 43 (cw [w34,w45]),boxA b2 43 (cw [u2,v2]),boxA b1 43 (cw [u1,v1])]) 11 mixed (.then .ret) kr<|e_pv 0 rfl rfl (zg yg rfl sz41 rfl rfl)<|e_uw 1 rfl rfl (zc 2 ty41 rfl rfl (.t2 .nil))<|e_pv 2 rfl rfl (zg yg rfl sz41 rfl rfl)<|e_uw 3 rfl rfl (zc 1 ty41 rfl rfl (.t2 .nil))<|e_pv 5 rfl rfl (zg yg rfl sz41 rfl rfl)<|e_uw 6 rfl rfl (zc 2 ty41 rfl rfl (.s2 (.t2 .nil)))<|e_pv 7 rfl rfl (zg yg rfl sz41 rfl rfl)<|e_uw 8 rfl rfl (zc 1 ty41 rfl rfl (.s2 (.t2 .nil)))<|zIb (qF_open 1 rfl) (fun _ _=> ?_)
 refine zIb (qF_open 2 rfl) (fun _ _=> ?_)
 refine e_one 4 (zE rfl rfl rfl rfl (.c rfl (.c rfl .n)) ce73 (zRb (w1:=w34) (w2:=w37) (x1:=(q1).num) (x2:=(q2).num) (hb1:=by first|rfl|assumption|omega|(rw [yn];omega)|(decide +kernel)) (hb2:=by first|rfl|assumption|omega|(rw [yn];omega)|(decide +kernel))) (.c (j:=2) rfl (.c (j:=0) rfl .n)) ?_)
 rintro w310 -
 dsimp only [aq,nq,cq]
 refine e_one 9 (zE rfl rfl rfl rfl (.c rfl (.c rfl .n)) ce73 (zRb (w1:=w45) (w2:=w48) (x1:=(((q1).den:Nat):Int)) (x2:=(((q2).den:Nat):Int)) (hb1:=by first|rfl|assumption|omega|(rw [yn];omega)|(decide +kernel)) (hb2:=by first|rfl|assumption|omega|(rw [yn];omega)|(decide +kernel))) (.c (j:=4) rfl (.c (j:=2) rfl .n)) ?_)
 rintro w311 -
 dsimp only [aq,nq,cq]
 refine e_one 10 (zE rfl rfl rfl rfl (.c rfl (.c rfl .n)) ce72 (zSb (w1:=w310) (w2:=w311) (x1:=((q1).num)*((q2).num)) (x2:=(((q1).den:Nat):Int)*(((q2).den:Nat):Int)) (hl1:=by first|rfl|assumption|omega|(rw [yn];omega)|(decide +kernel)) (hl2:=by first|rfl|assumption|omega|(rw [yn];omega)|(decide +kernel)) (hd:=by exact Int.mul_ne_zero (Big.den_ne q1) (Big.den_ne q2))) (.c (j:=1) rfl (.c (j:=0) rfl .n)) ?_)
 rintro ⟨w312,w413⟩ -
 dsimp only [aq,nq,cq]
 refine e_one 11 (zA kr rfl rfl rfl rfl rfl sz43 rfl (.t4 .nil) ?_)
 refine zX kr<|zd<|zJ ?_
 exact zx Tryz.results25 (w312,w413) trivial (zC 0 ty43 rfl rfl (.t4 .nil)) rfl (ho:=(.n:PickO _ _ _)) ((.e (j:=0) rfl (by rw [Big.mul_parts]) .n):SelR _ _ _)
theorem zUd {k1:Bool} {u1:Wd} {v1:Wd} {q1:Rat} {k2:Bool} {u2:Wd} {v2:Wd} {q2:Rat} (hl:yB q1+yB q2+1≤1048576):Con yj 71 [.agg #[u1.b,u1.l,v1.b,v1.l],.agg #[u2.b,u2.l,v2.b,v2.l]] [] [qF k1 u1 v1 q1,qF k2 u2 v2 q2] (Y:=Wd×Wd) (fun y=>True) (fun y=> .agg #[y.1.b,y.1.l,y.2.b,y.2.l]) (fun y=>[]) (fun y=>[qF true y.1 y.2 (q1 - q2)]):=by
 refine zp Tryz.func71 rfl rfl rfl (fun c=> ?_)
 show RunC _ _ _ _ _ [(0,.agg #[u1.b,u1.l,v1.b,v1.l]),(1,.agg #[u2.b,u2.l,v2.b,v2.l])] [] [qF k1 u1 v1 q1,qF k2 u2 v2 q2]
 have a1:=yw q1
 have a2:=yx q1
 have a3:=yw q2
 have a4:=yx q2
 refine ze<|za<|zP rfl rfl (zV rfl rfl) (fun b1=> ?_)
 refine zP rfl rfl (zV rfl rfl) (fun b2=> ?_)
 refine zP rfl rfl (zu zr43 rfl) (fun b3=> ?_)
 refine zh<|zd<|ze<|zZ (OW:=[boxA b3 43 (cw [wz,wz])]) (O:=[boxA b2 43 (cw [u2,v2]),boxA b1 43 (cw [u1,v1])]) 4 mixed (.then .ret) kr<|e_uw 0 rfl rfl (zc 2 ty43 rfl rfl (.t4 .nil))<|e_uw 1 rfl rfl (zc 1 ty43 rfl rfl (.t4 .nil))<|e_one 2 (zE rfl rfl rfl rfl (.c rfl .n) ce67 (zHf (k1:=k2) (u1:=u2) (v1:=v2) (q1:=q2) (hl:=by first|rfl|assumption|omega|(rw [yn];omega)|(decide +kernel)|(rw [Big.hq_neg];omega))) (.c (j:=1) rfl .n) ?_)
 rintro ⟨w34,w45⟩ -
 dsimp only [aq,nq,cq]
 refine e_one 3 (zE rfl rfl rfl rfl (.c rfl (.c rfl .n)) ce70 (zSd (k1:=k1) (u1:=u1) (v1:=v1) (q1:=q1) (k2:=true) (u2:=w34) (v2:=w45) (q2:= - q2) (hl:=by first|rfl|assumption|omega|(rw [yn];omega)|(decide +kernel)|(rw [Big.hq_neg];omega))) (.c (j:=1) rfl (.c (j:=0) rfl .n)) ?_)
 rintro ⟨w36,w47⟩ -
 dsimp only [aq,nq,cq]
 refine e_one 4 (zA kr rfl rfl rfl rfl rfl sz43 rfl (.t4 .nil) ?_)
 refine zX kr<|zd<|zJ ?_
 exact zx Tryz.results71 (w36,w47) trivial (zC 0 ty43 rfl rfl (.t4 .nil)) rfl (ho:=(.n:PickO _ _ _)) ((.e (j:=0) rfl (by rw [Rat.sub_eq_add_neg]) .n):SelR _ _ _)
theorem zvd {k1:Bool} {u1:Wd} {v1:Wd} {q1:Rat} {k2:Bool} {u2:Wd} {v2:Wd} {q2:Rat} (hl:yB q1+yB q2+1≤1048576):Con yj 27 [.agg #[u1.b,u1.l,v1.b,v1.l],.agg #[u2.b,u2.l,v2.b,v2.l]] [] [qF k1 u1 v1 q1,qF k2 u2 v2 q2] (Y:=Unit) (fun y=>True) (fun y=> ya yb (Big.sgq (q1 - q2))) (fun y=>[]) (fun y=>[]):=by
 refine zp Tryz.func27 rfl rfl rfl (fun c=> ?_)
 show RunC _ _ _ _ _ [(0,.agg #[u1.b,u1.l,v1.b,v1.l]),(1,.agg #[u2.b,u2.l,v2.b,v2.l])] [] [qF k1 u1 v1 q1,qF k2 u2 v2 q2]
 have hsb:=Big.hq_sub q1 q2
 refine ze<|za<|zP rfl rfl (zV rfl rfl) (fun b1=> ?_)
 refine zP rfl rfl (zV rfl rfl) (fun b2=> ?_)
 refine e_p (zb rfl)<|zh<|zd<|ze<|za<|e_ru (zc 1 ty43 rfl rfl (.t4 .nil))<|e_ru (zc 0 ty43 rfl rfl (.t4 .nil))<|zL rfl rfl (.c rfl (.c rfl .n)) ce71 (zUd (k1:=k1) (u1:=u1) (v1:=v1) (q1:=q1) (k2:=k2) (u2:=u2) (v2:=v2) (q2:=q2) (hl:=ass)) (.c (j:=0) rfl (.c (j:=1) rfl .n)) ?_
 rintro ⟨w33,w44⟩ -
 dsimp only [aq,nq,cq]
 refine zO rfl rfl (.c rfl .n) ce66 (zTe (k1:=true) (u1:=w33) (v1:=w44) (q1:=q1 - q2) (hl:=by first|rfl|assumption|omega|(rw [yn];omega)|(decide +kernel))) (.c (j:=0) rfl .n)<|e_p (zb rfl)<|zh<|zd<|zJ ?_
 exact zx Tryz.results27 () trivial (zn rfl) rfl (ho:=(.n:PickO _ _ _)) (.n:SelR _ _ _)
theorem zUe {u1:Wd} {v1:Wd} {q1:Rat} {u2:Wd} {v2:Wd} {q2:Rat} (hl:yB q1+yB q2+1≤1048576):Con yj 44 [.agg #[u1.b,u1.l,v1.b,v1.l],.agg #[u2.b,u2.l,v2.b,v2.l]] [] [qF true u1 v1 q1,qF true u2 v2 q2] (Y:=Unit) (fun y=>True) (fun y=> .bool (decide (q1=q2))) (fun y=>[]) (fun y=>[]):=by
 refine zp Tryz.func44 rfl rfl rfl (fun c=> ?_)
 show RunC _ _ _ _ _ [(0,.agg #[u1.b,u1.l,v1.b,v1.l]),(1,.agg #[u2.b,u2.l,v2.b,v2.l])] [] [qF true u1 v1 q1,qF true u2 v2 q2]
 refine ze<|za<|zP rfl rfl (zV rfl rfl) (fun b1=> ?_)
 refine zP rfl rfl (zV rfl rfl) (fun b2=> ?_)
 refine e_p (zb rfl)<|zh<|zd<|zAa (X:=Unit) (fun x=>True) (fun x=>[(4,.bool (decide (Big.sgq (q1 - q2)=0)))]) (fun x=>[boxA b2 43 (cw [u2,v2]),boxA b1 43 (cw [u1,v1])]) (fun x=>[qF true u1 v1 q1,qF true u2 v2 q2]) ?_ ?_
 ·
  refine za<|e_ru (zc 1 ty43 rfl rfl (.t4 .nil))<|zO rfl rfl (.c rfl .n) ce88 (zFc (u1:=u1) (v1:=v1) (q1:=q1)) (.c (j:=0) rfl .n)<|e_mv rfl<|e_ru (zc 0 ty43 rfl rfl (.t4 .nil))<|zO rfl rfl (.c rfl .n) ce88 (zFc (u1:=u2) (v1:=v2) (q1:=q2)) (.c (j:=1) rfl .n)<|e_p (zo rfl rfl)<|e_mv rfl<|e_ru (zc 1 ty43 rfl rfl (.t4 .nil))<|e_ru (zc 0 ty43 rfl rfl (.t4 .nil))<|zO rfl rfl (.c rfl (.c rfl .n)) ce27 (zvd (k1:=true) (u1:=u1) (v1:=v1) (q1:=q1) (k2:=true) (u2:=u2) (v2:=v2) (q2:=q2) (hl:=ass)) (.c (j:=0) rfl (.c (j:=1) rfl .n))<|e_p (zsa rfl rfl)<|e_p (zo rfl rfl)<|e_p (zb rfl)<|zh ?_
  exact zY () (show True from by first|trivial|omega|simp_all) ((.c rfl .n):SubM _ _) (ho:=((.of [0,0] rfl):PickO _ _ _)) ((.of [0,1] rfl):SelR _ _ _)
 ·
  rintro ⟨⟩ -
  try dsimp only [cw]
  refine zJ ?_
  exact zx Tryz.results44 () trivial (zn rfl) (congrArg Value.bool (decide_eq_decide.2 Big.sgq_sub_zero.symm)) (ho:=(.n:PickO _ _ _)) (.n:SelR _ _ _)
end Go.Proofs.YtjcpbhlijoigfaaGreat.Sp
namespace Go.Proofs.YtjcpbhlijoigfaaGreat.Sp
open Go
set_option linter.unusedVariables false
set_option maxRecDepth 100000
set_option maxHeartbeats 8000000
theorem zAg {z1:Int} {z2:Int} (hz1: -9223372036854775808≤z1∧z1≤9223372036854775807) (hz2: -9223372036854775808≤z2∧z2≤9223372036854775807) (hy:z2≠0):Con yj 69 [.int .i64 z1,.int .i64 z2] [] [] (Y:=Wd×Wd) (fun y=>True) (fun y=> .agg #[y.1.b,y.1.l,y.2.b,y.2.l]) (fun y=>[]) (fun y=>[qF true y.1 y.2 (Rat.divInt z1 z2)]):=by
 refine zp Tryz.func69 rfl rfl rfl (fun c=> ?_)
 show RunC _ _ _ _ _ [(0,.int .i64 z1),(1,.int .i64 z2)] [] []
 refine ze<|za<|zP rfl rfl (zu zr43 rfl) (fun b1=> ?_)
 refine zh<|zd<|ze<|za<|e_mv rfl<|e_mv rfl<|zL rfl rfl (.c rfl (.c rfl .n)) ce107 (zSe (z1:=z1) (z2:=z2) (hz1:=ass) (hz2:=ass) (hy:=ass)) (.n) ?_
 rintro ⟨w32,w43⟩ -
 dsimp only [aq,nq,cq]
 refine e_mv rfl<|e_p (zD rfl rfl)<|e_p (zD rfl rfl)<|zP rfl rfl (zu zr43 rfl) (fun b4=> ?_)
 refine zq 0 rfl rfl rfl rfl rfl sz43 rfl (.t4 .nil) .z<|e_p (zb rfl)<|zh<|zd<|ze<|za<|e_ru (zc 0 ty43 rfl rfl (.t4 .nil))<|zq 1 rfl rfl rfl rfl rfl sz43 rfl (.t4 .nil) (.s .z)<|zh<|zd<|zJ ?_
 exact zx Tryz.results69 (w32,w43) trivial (zC 1 ty43 rfl rfl (.t4 .nil)) rfl (ho:=(.n:PickO _ _ _)) ((.c (j:=0) rfl .n):SelR _ _ _)
theorem zIf {p:Option Addr} {n:Nat} {cap:Nat} {l:List Pg.Q2} {K:Nat} (hn:l.length=n) (hbq:Pg.bq K l) (hK:4*K+1≤500000) (hz:∀i,i≤n→yB (Pg.szN n l i)≤500000):Con yj 24 [.slice p n cap] [] [slF rR p cap l] (Y:=Wd×Wd) (fun y=>True) (fun y=> .agg #[y.1.b,y.1.l,y.2.b,y.2.l]) (fun y=>[]) (fun y=>[qF true y.1 y.2 (Pg.sz l)]):=by
 refine zp Tryz.func24 rfl rfl rfl (fun c=> ?_)
 show RunC _ _ _ _ _ [(0,.slice p n cap)] [] [slF rR p cap l]
 refine zfa 0 rfl (fun hL0=> ?_)
 refine ze<|za<|zP rfl rfl (zu zr43 rfl) (fun b1=> ?_)
 refine zh<|zd<|ze<|za<|zL rfl rfl (.c rfl (.c rfl .n)) ce69 (zAg (z1:=0) (z2:=1) (hz1:=by first|rfl|assumption|omega|decide) (hz2:=by first|rfl|assumption|omega|decide) (hy:=by first|rfl|assumption|omega|decide)) (.n) ?_
 rintro ⟨w32,w43⟩ -
 dsimp only [aq,nq,cq]
 refine zP rfl rfl (zu zr43 rfl) (fun b4=> ?_)
 refine zq 0 rfl rfl rfl rfl rfl sz43 rfl (.t4 .nil) .z<|zh<|zd<|ze<|ze ?_
 have e5:Rat.divInt 0 1=(Pg.szN n l 0):=by exact Pg.d01
 rw [e5]
 refine za<|e_p (zb rfl)<|zh<|zd<|zv<|zma (X:=Nat×Wd×Wd) (fun x:Nat×Wd×Wd=>x.1≤n) (fun x=>[(4,.int .i64 ((x.1:Nat):Int)),(3,.pointer (some ⟨b4,0,none⟩)),(2,.pointer (some ⟨b1,0,none⟩)),(0,.slice p n cap)]) (fun x=>[boxA b4 43 (cw [x.2.1,x.2.2]),boxA b1 43 (cw [wz,wz])]) (fun x=>[qF true x.2.1 x.2.2 (Pg.szN n l x.1),qF true w32 w43 (Pg.szN n l 0),slF rR p cap l]) (fun x:Nat×Wd×Wd=>n - x.1) (0,w32,w43) (show 0≤n from by exact Nat.zero_le _) ((.e rfl (by first|rfl|(congr 1;omega)|simp_all) (.of rfl)):SubM _ _) (ho:=((.of [0,0] rfl):PickO _ _ _)) ((.of [0,0,1] rfl):SelR _ _ _) ?_
 rintro ⟨k,wk1,wk2⟩ hI
 replace hI:k≤n:=hI
 try dsimp only [cw]
 refine ze<|ze<|za<|e_mv rfl<|e_mv rfl<|e_p (zQ yu rfl)<|e_p (zR rfl rfl)<|zh<|zd<|zB rfl (fun h6=> ?_) (fun h6=> ?_)
 ·
  have hm1:(k+1)%n<n:=Nat.mod_lt _ om
  have hpi:Pg.hp K (l.getD k ((0:Rat),(0:Rat))):=Pg.bq_at hbq om
  have hpj:Pg.hp K (l.getD ((k+1)%n) ((0:Rat),(0:Rat))):=Pg.bq_at hbq om
  obtain ⟨hb1,hb2,hb3⟩:=Pg.pb hpi hpj
  obtain ⟨hpi1,hpi2⟩:=id hpi
  obtain ⟨hpj1,hpj2⟩:=id hpj
  have hzk:=hz k om
  have hb4:yB ((l.getD k ((0:Rat),(0:Rat))).1*(l.getD ((k+1)%n) ((0:Rat),(0:Rat))).2 - (l.getD ((k+1)%n) ((0:Rat),(0:Rat))).1*(l.getD k ((0:Rat),(0:Rat))).2)≤2*(K+K)+1:=hb3
  refine zt<|zd<|ze<|zv<|ze<|za<|e_mv rfl<|e_mv rfl<|e_p (zw (z:=(((k+1):Nat):Int)) rfl rfl (w64 om))<|e_mv rfl<|e_p (zQ yu rfl)<|e_p (zoa (z:=((((k+1)%n):Nat):Int)) rfl rfl om (remN om om))<|r_vl rfl rfl (zyb (x0:=(l.getD ((k+1)%n) ((0:Rat),(0:Rat)))) 2 ((k+1)%n) rfl yu sz69 rfl cbs rfl rfl (gD (d:=((0:Rat),(0:Rat))) om)) ?_
  rintro ⟨b7,o8,w9,w10,w11,w12⟩ -
  dsimp only [aq,nq,cq]
  refine zmf open_rR<|e_ru (zG (j:=0) 0 ty69 rfl rfl rfl (.t8 .nil))<|zP rfl rfl (zu zr69 rfl) (fun b13=> ?_)
  refine zq 0 rfl rfl rfl rfl rfl sz69 rfl (.t8 .nil) .z<|zh<|zd<|zwa (.c (i:=1) rfl (.c (i:=0) rfl (.c (i:=0) rfl .n)))<|zZ (OW:=[boxA b4 43 (cw [wk1,wk2])]) (O:=[boxA b13 69 (cw [w9,w10,w11,w12]),boxA b1 43 (cw [wz,wz])]) 19 mixed (.block (.then (.then (.block (.then .ret))))) kr<|e_uw 0 rfl rfl (zc 0 ty43 rfl rfl (.t4 .nil))<|e_dm 1 rfl rfl rfl<|e_dm 2 rfl rfl rfl<|d_vl 3 rfl rfl kr kr rfl rfl (zyb (x0:=(l.getD k ((0:Rat),(0:Rat)))) 5 k rfl yu sz69 rfl cbs rfl rfl (gD (d:=((0:Rat),(0:Rat))) om)) ?_
  rintro ⟨b14,o15,w16,w17,w18,w19⟩ -
  dsimp only [aq,nq,cq]
  refine zig open_rR<|e_pv 4 rfl rfl (zg yy rfl sz43 rfl rfl)<|e_u 5 rfl rfl (zG (j:=0) 0 ty43 rfl rfl rfl (.t4 .nil))<|e_pv 6 rfl rfl (zg yy rfl sz43 rfl rfl)<|e_uw 7 rfl rfl (zc 1 ty43 rfl rfl (.s4 (.t4 .nil)))<|e_pv 9 rfl rfl (zg yy rfl sz43 rfl rfl)<|e_uw 10 rfl rfl (zc 1 ty43 rfl rfl (.t4 .nil))<|e_dm 11 rfl rfl rfl<|e_dm 12 rfl rfl rfl<|d_vl 13 rfl rfl kr kr rfl rfl (zyb (x0:=(l.getD k ((0:Rat),(0:Rat)))) 8 k rfl yu sz69 rfl cbs rfl rfl (gD (d:=((0:Rat),(0:Rat))) om)) ?_
  rintro ⟨b20,o21,w22,w23,w24,w25⟩ -
  dsimp only [aq,nq,cq]
  refine zig open_rR<|e_pv 14 rfl rfl (zg yy rfl sz43 rfl rfl)<|e_u 15 rfl rfl (zG (j:=4) 0 ty43 rfl rfl rfl (.s4 (.t4 .nil)))<|e_one 8 (zE rfl rfl rfl rfl (.c rfl (.c rfl .n)) ce25 (zTd (k1:=true) (u1:=w16) (v1:=w17) (q1:=(l.getD k ((0:Rat),(0:Rat))).1) (k2:=true) (u2:=w11) (v2:=w12) (q2:=(l.getD ((k+1)%n) ((0:Rat),(0:Rat))).2) (hl:=by first|rfl|assumption|omega|decide)) (.c (j:=4) rfl (.c (j:=8) rfl .n)) ?_)
  rintro ⟨w326,w427⟩ -
  dsimp only [aq,nq,cq]
  refine e_one 16 (zE rfl rfl rfl rfl (.c rfl (.c rfl .n)) ce25 (zTd (k1:=true) (u1:=w9) (v1:=w10) (q1:=(l.getD ((k+1)%n) ((0:Rat),(0:Rat))).1) (k2:=true) (u2:=w24) (v2:=w25) (q2:=(l.getD k ((0:Rat),(0:Rat))).2) (hl:=by first|rfl|assumption|omega|decide)) (.c (j:=8) rfl (.c (j:=3) rfl .n)) ?_)
  rintro ⟨w328,w429⟩ -
  dsimp only [aq,nq,cq]
  refine e_one 17 (zE rfl rfl rfl rfl (.c rfl (.c rfl .n)) ce71 (zUd (k1:=true) (u1:=w326) (v1:=w427) (q1:=((l.getD k ((0:Rat),(0:Rat))).1)*((l.getD ((k+1)%n) ((0:Rat),(0:Rat))).2)) (k2:=true) (u2:=w328) (v2:=w429) (q2:=((l.getD ((k+1)%n) ((0:Rat),(0:Rat))).1)*((l.getD k ((0:Rat),(0:Rat))).2)) (hl:=by first|rfl|assumption|omega|decide)) (.c (j:=1) rfl (.c (j:=0) rfl .n)) ?_)
  rintro ⟨w330,w431⟩ -
  dsimp only [aq,nq,cq]
  refine e_one 18 (zE rfl rfl rfl rfl (.c rfl (.c rfl .n)) ce70 (zSd (k1:=true) (u1:=wk1) (v1:=wk2) (q1:=(Pg.szN n l k)) (k2:=true) (u2:=w330) (v2:=w431) (q2:=(((l.getD k ((0:Rat),(0:Rat))).1)*((l.getD ((k+1)%n) ((0:Rat),(0:Rat))).2)) - (((l.getD ((k+1)%n) ((0:Rat),(0:Rat))).1)*((l.getD k ((0:Rat),(0:Rat))).2))) (hl:=by first|rfl|assumption|omega|decide)) (.c (j:=12) rfl (.c (j:=0) rfl .n)) ?_)
  rintro ⟨w332,w433⟩ -
  dsimp only [aq,nq,cq]
  refine e_one 19 (zA kr rfl rfl rfl rfl rfl sz43 rfl (.t4 .nil) ?_)
  refine zX kr<|zK<|zd<|za<|e_mv rfl<|e_p (zw (z:=(((k+1):Nat):Int)) rfl rfl (w64 om))<|e_p (zb rfl)<|zh<|zda ((k+1),w332,w433) (show (k+1)≤n from by show k+1≤n;omega) (by show n - (k+1)<n - k;omega) ((.of rfl):SubM _ _) (ho:=((.of [0,1] rfl):PickO _ _ _)) ((.e (j:=0) rfl (by first|rfl|simp_all) (.of [14,15] rfl)):SelR _ _ _)
 ·
  refine zga<|zj<|zj<|zr<|zd<|ze<|za<|e_ru (zc 0 ty43 rfl rfl (.t4 .nil))<|zq 1 rfl rfl rfl rfl rfl sz43 rfl (.t4 .nil) (.s .z)<|zh<|zd<|zJ ?_
  exact zx Tryz.results24 (wk1,wk2) trivial (zC 1 ty43 rfl rfl (.t4 .nil)) rfl (ho:=(.n:PickO _ _ _)) ((.e (j:=0) rfl (by rw [show k=n by omega,Pg.sz,hn]) .n):SelR _ _ _)
theorem zVe {p1:Option Addr} {n1:Nat} {c1:Nat} {l1:List (Int×Int×Int)} {p2:Option Addr} {n2:Nat} {c2:Nat} {l2:List (Int×Int×Int)} (hn1:l1.length=n1) (hn2:l2.length=n2):Con yj 32 [.slice p1 n1 c1,.slice p2 n2 c2] [] [slF (rI3 .i64) p1 c1 l1,slF (rI3 .i64) p2 c2 l2] (Y:=Unit) (fun y=>True) (fun y=> .bool (decide (l1=l2))) (fun y=>[]) (fun y=>[]):=by
 refine zp Tryz.func32 rfl rfl rfl (fun c=> ?_)
 show RunC _ _ _ _ _ [(0,.slice p1 n1 c1),(1,.slice p2 n2 c2)] [] [slF (rI3 .i64) p1 c1 l1,slF (rI3 .i64) p2 c2 l2]
 refine zfa 0 rfl (fun hL0=> ?_)
 refine zfa 1 rfl (fun hL1=> ?_)
 refine ze<|za<|e_p (zb rfl)<|zh<|zd<|ze<|ze<|za<|e_mv rfl<|e_p (zQ yd rfl)<|e_mv rfl<|e_p (zQ yd rfl)<|e_p (zLa rfl rfl)<|zh<|zd<|zB rfl (fun hlen=> ?_) (fun hlen=> ?_)
 ·
  refine ze<|za<|e_p (zb rfl)<|zh<|zd<|zJ<|zi ?_
  exact zx Tryz.results32 () trivial (zn rfl) (congrArg Value.bool (decide_eq_false (fun h=>hlen (by rw [← hn1,←hn2,h])))) (ho:=(.n:PickO _ _ _)) (.n:SelR _ _ _)
 ·
  refine zt<|zd<|ze<|ze<|za<|e_mv rfl<|e_p (zQ yd rfl)<|e_mv rfl<|zh<|zd<|zv<|zma (X:=Nat) (fun x:Nat=>x≤n1∧∀j,j<x→l1.getD j (0,0,0)=l2.getD j (0,0,0)) (fun x=>[(13,.int .i64 ((x:Nat):Int)),(12,.int .i64 ((n1:Nat):Int)),(0,.slice p1 n1 c1),(1,.slice p2 n2 c2)]) (fun x=>[]) (fun x=>[slF (rI3 .i64) p1 c1 l1,slF (rI3 .i64) p2 c2 l2]) (fun x:Nat=>n1 - x) 0 (show 0≤n1∧∀j,j<0→l1.getD j (0,0,0)=l2.getD j (0,0,0) from by exact ⟨by omega,fun j h=>by omega⟩) ((.e rfl (by first|rfl|(congr 1;omega)|simp_all) (.of rfl)):SubM _ _) (ho:=(.n:PickO _ _ _)) ((.of [0,1] rfl):SelR _ _ _) ?_
  rintro i hI
  replace hI:i≤n1∧∀j,j<i→l1.getD j (0,0,0)=l2.getD j (0,0,0):=hI
  try dsimp only
  obtain ⟨hi,hall⟩:=hI
  refine ze<|za<|e_p (zR rfl rfl)<|zh<|zd<|ze<|zB rfl (fun h1=> ?_) (fun h1=> ?_)
  ·
   refine zt<|zd<|ze<|zv<|ze<|za<|e_mv rfl<|e_p (zb rfl)<|zh<|zd<|ze<|zZ (OW:=[]) (O:=[]) 100000 mixed (.then (.block (.then (.then (.block (.then .ret)))))) kr<|e_dm 0 rfl rfl rfl<|e_dm 1 rfl rfl rfl<|zca (x0:=(l1.getD i (0,0,0))) 2 rfl rfl kr kr 0 i rfl yd sz50 rfl rfl rfl cbs rfl rfl (gD (d:=(0,0,0)) om) (fun b2 o3 hok4=> ?_)
   obtain ⟨hok4x,hok4y,hok4z⟩:=hok4
   replace hok4x:=zm.1 hok4x
   replace hok4y:=zm.1 hok4y
   replace hok4z:=zm.1 hok4z
   refine e_u 3 rfl rfl (zG (j:=0) 0 ty50 rfl rfl rfl (.t2 (.take .nil)))<|e_dm 4 rfl rfl rfl<|e_dm 5 rfl rfl rfl<|zca (x0:=(l2.getD i (0,0,0))) 6 rfl rfl kr kr 2 i rfl yd sz50 rfl rfl rfl cbs rfl rfl (gD (d:=(0,0,0)) om) (fun b5 o6 hok7=> ?_)
   obtain ⟨hok7x,hok7y,hok7z⟩:=hok7
   replace hok7x:=zm.1 hok7x
   replace hok7y:=zm.1 hok7y
   replace hok7z:=zm.1 hok7z
   refine e_u 7 rfl rfl (zG (j:=0) 0 ty50 rfl rfl rfl (.t2 (.take .nil)))<|e_pv 8 rfl rfl (zIe (p:=(l1.getD i (0,0,0)).1=(l2.getD i (0,0,0)).1∧(l1.getD i (0,0,0)).2.1=(l2.getD i (0,0,0)).2.1∧(l1.getD i (0,0,0)).2.2=(l2.getD i (0,0,0)).2.2) kr rfl rfl (zef ye sz3 (zae ty3 rfl rfl (zNc yF) (zae ty3 rfl rfl (zNc yF) (zae ty3 rfl rfl (zNc yF) zog)))) (by simp [Bool.decide_and]))<|zX kr<|zd<|zB rfl (fun hd=> ?_) (fun hd=> ?_)
   ·
    refine ze<|za<|e_p (zb rfl)<|zh<|zd<|zJ<|zk<|zi<|zi<|zk<|zi ?_
    exact zx Tryz.results32 () trivial (zn rfl) (congrArg Value.bool (decide_eq_false (fun h=>hd (by simp [h])))) (ho:=(.n:PickO _ _ _)) (.n:SelR _ _ _)
   ·
    refine zt<|zK<|zd<|za<|e_p (zw (z:=(((i+1):Nat):Int)) rfl rfl (w64 om))<|e_mv rfl<|zh<|zda (i+1) (show (i+1)≤n1∧∀j,j<(i+1)→l1.getD j (0,0,0)=l2.getD j (0,0,0) from by exact ⟨by omega,Ms.all_lt_succ hall (by have h9:=Decidable.not_not.1 hd;first|exact h9|(apply Prod.ext;exact h9.1;apply Prod.ext;exact h9.2.1;exact h9.2.2))⟩) (by show n1 - (i+1)<n1 - i;omega) ((.of rfl):SubM _ _) (ho:=(.n:PickO _ _ _)) ((.of [2,3] rfl):SelR _ _ _)
  ·
   refine zga<|zj<|zj<|zr<|zd<|ze<|za<|e_p (zb rfl)<|zh<|zd<|zJ ?_
   exact zx Tryz.results32 () trivial (zn rfl) (congrArg Value.bool (decide_eq_true (Ms.ext_getD (0,0,0) om (fun j hj=>hall j om)))) (ho:=(.n:PickO _ _ _)) (.n:SelR _ _ _)
end Go.Proofs.YtjcpbhlijoigfaaGreat.Sp
namespace Go.Proofs.YtjcpbhlijoigfaaGreat.Sp
open Go
set_option linter.unusedVariables false
set_option maxRecDepth 100000
set_option maxHeartbeats 8000000
theorem zJf:Con yj 11 [] [] [] (Y:=Unit) (fun y=>True) (fun y=> .bool true) (fun y=>[]) (fun y=>[]):=by
 refine zp Tryz.func11 rfl rfl rfl (fun c=> ?_)
 show RunC _ _ _ _ _ [] [] []
 refine ze<|za<|e_p (zb rfl)<|zh<|zd<|ze<|za<|e_p (zN zr30 rfl yi (.c sz3 (.c sz3 .n)) (.c rfl (.c rfl .n)) (.c rfl rfl rfl (.take .nil) (.c rfl rfl rfl (.skip (.take .nil)) .n)))<|e_p (zN zr30 rfl yi (.c sz3 (.c sz3 .n)) (.c rfl (.c rfl .n)) (.c rfl rfl rfl (.take .nil) (.c rfl rfl rfl (.skip (.take .nil)) .n)))<|e_p (zN zr30 rfl yi (.c sz3 (.c sz3 .n)) (.c rfl (.c rfl .n)) (.c rfl rfl rfl (.take .nil) (.c rfl rfl rfl (.skip (.take .nil)) .n)))<|e_p (zN zr30 rfl yi (.c sz3 (.c sz3 .n)) (.c rfl (.c rfl .n)) (.c rfl rfl rfl (.take .nil) (.c rfl rfl rfl (.skip (.take .nil)) .n)))<|e_p (zN zr30 rfl yi (.c sz3 (.c sz3 .n)) (.c rfl (.c rfl .n)) (.c rfl rfl rfl (.take .nil) (.c rfl rfl rfl (.skip (.take .nil)) .n)))<|zNa rfl rfl (zba (enc:=fun z:Int×Int=>[.int .i64 z.1,.int .i64 z.2]) (ok:=fun z=>InK .i64 z.1∧InK .i64 z.2) (h1:=fun _=>rfl) (h2:=fun _=>rfl) (k:=5) yf inf30 rfl dd dd dd (.c (x:=(0,0)) rfl rfl (fun _ _=>by exact ⟨zm.2 (by first|omega|decide|(dsimp only;omega)),zm.2 (by first|omega|decide|(dsimp only;omega))⟩) (.c (x:=(4,0)) rfl rfl (fun _ _=>by exact ⟨zm.2 (by first|omega|decide|(dsimp only;omega)),zm.2 (by first|omega|decide|(dsimp only;omega))⟩) (.c (x:=(4,4)) rfl rfl (fun _ _=>by exact ⟨zm.2 (by first|omega|decide|(dsimp only;omega)),zm.2 (by first|omega|decide|(dsimp only;omega))⟩) (.c (x:=(2,1)) rfl rfl (fun _ _=>by exact ⟨zm.2 (by first|omega|decide|(dsimp only;omega)),zm.2 (by first|omega|decide|(dsimp only;omega))⟩) (.c (x:=(0,4)) rfl rfl (fun _ _=>by exact ⟨zm.2 (by first|omega|decide|(dsimp only;omega)),zm.2 (by first|omega|decide|(dsimp only;omega))⟩) .n)))))) (fun b1 _=> ?_)
 refine e_p (zb rfl)<|zh<|zd<|ze<|za<|e_mv rfl<|zna 0 rfl .z<|zO rfl rfl (.c rfl .n) ce13 (zUf (p:=some ⟨b1,0,none⟩) (n:=5) (cap:=5) (l:=[(0,0),(4,0),(4,4),(2,1),(0,4)]) (hn:=by first|rfl|assumption|decide|omega|(decide +kernel))) (.c (j:=0) rfl .n) ?_
 have e2:Pg.arV ([(0,0),(4,0),(4,4),(2,1),(0,4)])=20:=by exact Pg.ex1.1
 rw [e2]
 have e3:Pg.arC ([(0,0),(4,0),(4,4),(2,1),(0,4)])=0:=by exact Pg.ex1.2
 rw [e3]
 refine e_mv rfl<|e_p (zD rfl rfl)<|e_p (zD rfl rfl)<|e_p (zb rfl)<|e_p (zb rfl)<|zh<|zd<|ze<|za<|e_mv rfl<|e_p (zN zr30 rfl yi (.c sz3 (.c sz3 .n)) (.c rfl (.c rfl .n)) (.c rfl rfl rfl (.take .nil) (.c rfl rfl rfl (.skip (.take .nil)) .n)))<|zO rfl rfl (.c rfl (.c rfl .n)) ce17 (zid (p:=some ⟨b1,0,none⟩) (n:=5) (cap:=5) (l:=[(0,0),(4,0),(4,4),(2,1),(0,4)]) (hx:=1) (hy:=1) (hn:=by first|rfl|assumption|decide|omega|(decide +kernel)) (hwhx:=by first|rfl|assumption|decide|omega|(decide +kernel)) (hwhy:=by first|rfl|assumption|decide|omega|(decide +kernel))) (.c (j:=0) rfl .n) ?_
 have e4:Pg.isV ([(0,0),(4,0),(4,4),(2,1),(0,4)]) (1,1)=1:=by exact Pg.ex2.1
 rw [e4]
 have e5:Pg.isC ([(0,0),(4,0),(4,4),(2,1),(0,4)]) (1,1)=0:=by exact Pg.ex2.2
 rw [e5]
 refine e_mv rfl<|e_p (zD rfl rfl)<|e_p (zD rfl rfl)<|e_p (zb rfl)<|e_p (zb rfl)<|zh<|zd<|ze<|za<|e_mv rfl<|e_p (zN zr30 rfl yi (.c sz3 (.c sz3 .n)) (.c rfl (.c rfl .n)) (.c rfl rfl rfl (.take .nil) (.c rfl rfl rfl (.skip (.take .nil)) .n)))<|zO rfl rfl (.c rfl (.c rfl .n)) ce17 (zid (p:=some ⟨b1,0,none⟩) (n:=5) (cap:=5) (l:=[(0,0),(4,0),(4,4),(2,1),(0,4)]) (hx:=2) (hy:=2) (hn:=by first|rfl|assumption|decide|omega|(decide +kernel)) (hwhx:=by first|rfl|assumption|decide|omega|(decide +kernel)) (hwhy:=by first|rfl|assumption|decide|omega|(decide +kernel))) (.c (j:=0) rfl .n) ?_
 have e6:Pg.isV ([(0,0),(4,0),(4,4),(2,1),(0,4)]) (2,2)=(-1):=by exact Pg.ex3.1
 rw [e6]
 have e7:Pg.isC ([(0,0),(4,0),(4,4),(2,1),(0,4)]) (2,2)=0:=by exact Pg.ex3.2
 rw [e7]
 refine e_mv rfl<|e_p (zD rfl rfl)<|e_p (zD rfl rfl)<|e_p (zb rfl)<|e_p (zb rfl)<|zh<|zd<|ze<|za<|e_mv rfl<|zL rfl rfl (.c rfl .n) ce30 (zVf (p:=some ⟨b1,0,none⟩) (n:=5) (cap:=5) (l:=[(0,0),(4,0),(4,4),(2,1),(0,4)]) (hn:=by first|rfl|assumption|decide|omega|(decide +kernel))) (.c (j:=0) rfl .n) ?_
 rintro ⟨p28,c29⟩ -
 dsimp only [aq,nq,cq]
 have e10:Pg.erC ([(0,0),(4,0),(4,4),(2,1),(0,4)])=0:=by exact Pg.ex4.2
 rw [e10]
 refine e_mv rfl<|e_p (zD rfl rfl)<|e_p (zD rfl rfl)<|e_p (zb rfl)<|e_p (zb rfl)<|zh<|zd<|ze<|za<|e_p (zN zr30 rfl yi (.c sz3 (.c sz3 .n)) (.c rfl (.c rfl .n)) (.c rfl rfl rfl (.take .nil) (.c rfl rfl rfl (.skip (.take .nil)) .n)))<|e_p (zN zr30 rfl yi (.c sz3 (.c sz3 .n)) (.c rfl (.c rfl .n)) (.c rfl rfl rfl (.take .nil) (.c rfl rfl rfl (.skip (.take .nil)) .n)))<|e_p (zN zr30 rfl yi (.c sz3 (.c sz3 .n)) (.c rfl (.c rfl .n)) (.c rfl rfl rfl (.take .nil) (.c rfl rfl rfl (.skip (.take .nil)) .n)))<|e_p (zN zr30 rfl yi (.c sz3 (.c sz3 .n)) (.c rfl (.c rfl .n)) (.c rfl rfl rfl (.take .nil) (.c rfl rfl rfl (.skip (.take .nil)) .n)))<|zNa rfl rfl (zba (enc:=fun z:Int×Int=>[.int .i64 z.1,.int .i64 z.2]) (ok:=fun z=>InK .i64 z.1∧InK .i64 z.2) (h1:=fun _=>rfl) (h2:=fun _=>rfl) (k:=4) yf inf30 rfl dd dd dd (.c (x:=(0,0)) rfl rfl (fun _ _=>by exact ⟨zm.2 (by first|omega|decide|(dsimp only;omega)),zm.2 (by first|omega|decide|(dsimp only;omega))⟩) (.c (x:=(4,0)) rfl rfl (fun _ _=>by exact ⟨zm.2 (by first|omega|decide|(dsimp only;omega)),zm.2 (by first|omega|decide|(dsimp only;omega))⟩) (.c (x:=(4,4)) rfl rfl (fun _ _=>by exact ⟨zm.2 (by first|omega|decide|(dsimp only;omega)),zm.2 (by first|omega|decide|(dsimp only;omega))⟩) (.c (x:=(0,4)) rfl rfl (fun _ _=>by exact ⟨zm.2 (by first|omega|decide|(dsimp only;omega)),zm.2 (by first|omega|decide|(dsimp only;omega))⟩) .n))))) (fun b11 _=> ?_)
 refine e_p (zN zr30 rfl yi (.c sz3 (.c sz3 .n)) (.c rfl (.c rfl .n)) (.c rfl rfl rfl (.take .nil) (.c rfl rfl rfl (.skip (.take .nil)) .n)))<|e_p (zN zr30 rfl yi (.c sz3 (.c sz3 .n)) (.c rfl (.c rfl .n)) (.c rfl rfl rfl (.take .nil) (.c rfl rfl rfl (.skip (.take .nil)) .n)))<|zna 0 rfl .z<|zL rfl rfl (.c rfl (.c rfl (.c rfl .n))) ce19 (zRe (p:=some ⟨b11,0,none⟩) (n:=4) (cap:=4) (l:=[(0,0),(4,0),(4,4),(0,4)]) (ex:=2) (ey:=(-1)) (fx:=9) (fy:=2) (hn:=by first|rfl|assumption|decide|omega|(decide +kernel)) (hwex:=by first|rfl|assumption|decide|omega|(decide +kernel)) (hwey:=by first|rfl|assumption|decide|omega|(decide +kernel)) (hwfx:=by first|rfl|assumption|decide|omega|(decide +kernel)) (hwfy:=by first|rfl|assumption|decide|omega|(decide +kernel))) (.c (j:=0) rfl .n) ?_
 rintro ⟨p212,c213⟩ -
 dsimp only [aq,nq,cq]
 have e14:Pg.wnC ([(0,0),(4,0),(4,4),(0,4)]) (2,(-1)) (9,2)=0:=by exact Pg.ex5
 rw [e14]
 refine e_mv rfl<|e_p (zD rfl rfl)<|e_p (zD rfl rfl)<|e_p (zb rfl)<|e_p (zb rfl)<|zh<|zd<|ze<|za<|e_mv rfl<|e_mv rfl<|e_p (zw (z:=0) rfl rfl (w64 dd))<|e_mv rfl<|e_p (zw (z:=0) rfl rfl (w64 dd))<|e_mv rfl<|e_p (zw (z:=0) rfl rfl (w64 dd))<|e_mv rfl<|e_p (zw (z:=0) rfl rfl (w64 dd))<|e_p (zsa rfl rfl) ?_
 rw [show true=true from by decide]
 refine e_mv rfl<|e_mv rfl<|e_p (zsa rfl rfl) ?_
 rw [show true=true from by decide]
 refine e_p (zo rfl rfl)<|e_mv rfl<|e_mv rfl<|e_p (zsa rfl rfl) ?_
 rw [show true=true from by decide]
 refine e_p (zo rfl rfl)<|e_mv rfl<|e_mv rfl<|e_p (zsa rfl rfl) ?_
 rw [show true=true from by decide]
 refine e_p (zo rfl rfl)<|e_mv rfl<|e_mv rfl<|e_p (zya zr50 rfl ye sz3 (.c rfl (.c rfl (.c rfl .n))) (.c rfl rfl rfl (.take .nil) (.c rfl rfl rfl (.skip (.take .nil)) (.c rfl rfl rfl (.s2 (.take .nil)) .n))))<|e_p (zya zr50 rfl ye sz3 (.c rfl (.c rfl (.c rfl .n))) (.c rfl rfl rfl (.take .nil) (.c rfl rfl rfl (.skip (.take .nil)) (.c rfl rfl rfl (.s2 (.take .nil)) .n))))<|e_p (zya zr50 rfl ye sz3 (.c rfl (.c rfl (.c rfl .n))) (.c rfl rfl rfl (.take .nil) (.c rfl rfl rfl (.skip (.take .nil)) (.c rfl rfl rfl (.s2 (.take .nil)) .n))))<|zNa rfl rfl (zba (enc:=fun z:Int×Int×Int=>[.int .i64 z.1,.int .i64 z.2.1,.int .i64 z.2.2]) (ok:=fun z=>InK .i64 z.1∧InK .i64 z.2.1∧InK .i64 z.2.2) (h1:=fun _=>rfl) (h2:=fun _=>rfl) (k:=3) yd inf50 rfl dd dd dd (.c (x:=(1,2,3)) rfl rfl (fun _ _=>by exact ⟨zm.2 (by first|omega|decide|(dsimp only;omega)),zm.2 (by first|omega|decide|(dsimp only;omega)),zm.2 (by first|omega|decide|(dsimp only;omega))⟩) (.c (x:=(0,1,3)) rfl rfl (fun _ _=>by exact ⟨zm.2 (by first|omega|decide|(dsimp only;omega)),zm.2 (by first|omega|decide|(dsimp only;omega)),zm.2 (by first|omega|decide|(dsimp only;omega))⟩) (.c (x:=(0,3,4)) rfl rfl (fun _ _=>by exact ⟨zm.2 (by first|omega|decide|(dsimp only;omega)),zm.2 (by first|omega|decide|(dsimp only;omega)),zm.2 (by first|omega|decide|(dsimp only;omega))⟩) .n)))) (fun b15 _=> ?_)
 refine zna 3 rfl (.s (.s (.s .z)))<|zna 0 rfl .z<|zO rfl rfl (.c rfl (.c rfl .n)) ce32 (zVe (p1:=p28) (n1:=(Pg.erV ([(0,0),(4,0),(4,4),(2,1),(0,4)])).length) (c1:=c29) (l1:=(Pg.erV ([(0,0),(4,0),(4,4),(2,1),(0,4)]))) (p2:=some ⟨b15,0,none⟩) (n2:=3) (c2:=3) (l2:=[(1,2,3),(0,1,3),(0,3,4)]) (hn1:=by first|rfl|assumption|decide|omega|(decide +kernel)) (hn2:=by first|rfl|assumption|decide|omega|(decide +kernel))) (.c (j:=1) rfl (.c (j:=0) rfl .n)) ?_
 rw [show (decide ((Pg.erV ([(0,0),(4,0),(4,4),(2,1),(0,4)]))=([(1,2,3),(0,1,3),(0,3,4)])))=true from by exact decide_eq_true Pg.ex4.1]
 refine e_p (zo rfl rfl)<|e_mv rfl<|e_mv rfl<|zna 1 rfl (.s .z)<|zL rfl rfl (.c rfl .n) ce24 (zIf (p:=p212) (n:=(Pg.wnV ([(0,0),(4,0),(4,4),(0,4)]) (2,(-1)) (9,2)).length) (cap:=c213) (l:=(Pg.wnV ([(0,0),(4,0),(4,4),(0,4)]) (2,(-1)) (9,2))) (K:=100) (hn:=by rfl) (hbq:=by exact Pg.ex6) (hK:=dd) (hz:=by exact Pg.ex7)) (.c (j:=0) rfl .n) ?_
 rintro ⟨w316,w417⟩ -
 dsimp only [aq,nq,cq]
 refine zL rfl rfl (.c rfl .n) ce26 (znd (z:=8) (hz:=by first|rfl|assumption|decide|omega|(decide +kernel))) (.n) ?_
 rintro ⟨w318,w419⟩ -
 dsimp only [aq,nq,cq]
 refine zO rfl rfl (.c rfl (.c rfl .n)) ce44 (zUe (u1:=w316) (v1:=w417) (q1:=(Pg.sz (Pg.wnV ([(0,0),(4,0),(4,4),(0,4)]) (2,(-1)) (9,2)))) (u2:=w318) (v2:=w419) (q2:=((8:Int):Rat)) (hl:=by decide +kernel)) (.c (j:=1) rfl (.c (j:=0) rfl .n)) ?_
 rw [show (decide ((Pg.sz (Pg.wnV ([(0,0),(4,0),(4,4),(0,4)]) (2,(-1)) (9,2)))=((8:Int):Rat)))=true from by exact decide_eq_true Pg.ex8]
 refine e_p (zo rfl rfl)<|e_p (zb rfl)<|zh<|zd<|zJ ?_
 exact zx Tryz.results11 () trivial (zn rfl) rfl (ho:=(.n:PickO _ _ _)) (.n:SelR _ _ _)
end Go.Proofs.YtjcpbhlijoigfaaGreat.Sp
namespace Go.Proofs.YtjcpbhlijoigfaaGreat.Sp
open Go
set_option linter.unusedVariables false
set_option maxRecDepth 100000
set_option maxHeartbeats 8000000
theorem zoe {p:Option Addr} {n:Nat} {cap:Nat} {l:List Pg.P2} (hn:l.length=n) (h64:n≤64) (hrng:∀x∈l,Pg.inR x):Con yj 53 [.slice p n cap] [] [slF (rI2 .i64) p cap l] (Y:=Unit) (fun y=>True) (fun y=> .bool (decide (Pg.smpR l))) (fun y=>[]) (fun y=>[]):=by
 refine zp Tryz.func53 rfl rfl rfl (fun c=> ?_)
 show RunC _ _ _ _ _ [(0,.slice p n cap)] [] [slF (rI2 .i64) p cap l]
 refine zfa 0 rfl (fun hL0=> ?_)
 refine ze<|za<|e_p (zb rfl)<|zh<|zd<|ze<|za<|e_mv rfl<|e_p (zQ yf rfl)<|e_p (zb rfl)<|zh<|zd<|ze<|ze<|za<|e_p (zb rfl)<|zh<|zd<|zv<|zma (X:=Nat) (fun x:Nat=>x≤n∧∀w,w<x→∀j,j<n→w<j→¬Pg.bad n l w j) (fun x=>[(4,.int .i64 ((x:Nat):Int)),(3,.int .i64 ((n:Nat):Int)),(0,.slice p n cap)]) (fun x=>[]) (fun x=>[slF (rI2 .i64) p cap l]) (fun x:Nat=>n - x) 0 (show 0≤n∧∀w,w<0→∀j,j<n→w<j→¬Pg.bad n l w j from by exact ⟨Nat.zero_le _,fun w h=>by omega⟩) ((.e rfl (by first|rfl|(congr 1;omega)|simp_all) (.c rfl (.c rfl .n))):SubM _ _) (ho:=(.n:PickO _ _ _)) ((.c (j:=0) rfl .n):SelR _ _ _) ?_
 rintro k hI
 replace hI:k≤n∧∀w,w<k→∀j,j<n→w<j→¬Pg.bad n l w j:=hI
 try dsimp only
 obtain ⟨hk,hall⟩:=hI
 refine ze<|ze<|za<|e_mv rfl<|e_mv rfl<|e_p (zR rfl rfl)<|zh<|zd<|zB rfl (fun h1=> ?_) (fun h1=> ?_)
 ·
  refine zt<|zd<|ze<|zv<|ze<|za<|e_mv rfl<|e_p (zw (z:=(((k+1):Nat):Int)) rfl rfl (w64 om))<|e_p (zb rfl)<|zh<|zd<|zv<|zma (X:=Nat) (fun x:Nat=>k+1≤x∧∀w,w<x→k<w→¬Pg.bad n l k w) (fun x=>[(5,.int .i64 ((x:Nat):Int)),(4,.int .i64 ((k:Nat):Int)),(3,.int .i64 ((n:Nat):Int)),(0,.slice p n cap)]) (fun x=>[]) (fun x=>[slF (rI2 .i64) p cap l]) (fun x:Nat=>n - x) (k+1) (show k+1≤(k+1)∧∀w,w<(k+1)→k<w→¬Pg.bad n l k w from by exact ⟨Nat.le_refl _,fun w h h2=>by omega⟩) ((.of rfl):SubM _ _) (ho:=(.n:PickO _ _ _)) ((.c (j:=0) rfl .n):SelR _ _ _) ?_
  rintro j hJ
  replace hJ:k+1≤j∧∀w,w<j→k<w→¬Pg.bad n l k w:=hJ
  try dsimp only
  obtain ⟨hj2,hB2⟩:=hJ
  refine ze<|ze<|za<|e_mv rfl<|e_mv rfl<|e_p (zR rfl rfl)<|zh<|zd<|zB rfl (fun h2=> ?_) (fun h2=> ?_)
  ·
   have hm1:(k+1)%n<n:=Nat.mod_lt _ om
   have hm3:(j+1)%n<n:=Nat.mod_lt _ om
   have hg0:Pg.inR (l.getD k (0,0)):=Pg.Ok.gt hrng om
   have hg1:Pg.inR (l.getD ((k+1)%n) (0,0)):=Pg.Ok.gt hrng om
   have hg2:Pg.inR (l.getD j (0,0)):=Pg.Ok.gt hrng om
   have hg3:Pg.inR (l.getD ((j+1)%n) (0,0)):=Pg.Ok.gt hrng om
   refine zt<|zd<|ze<|zv<|ze<|za<|e_mv rfl<|e_mv rfl<|zI (x0:=(l.getD k (0,0))) 0 k rfl yf sz30 rfl rfl rfl cbs rfl rfl (gD (d:=(0,0)) om) (fun b3 o4 hok5=> ?_)
   obtain ⟨hok5x,hok5y⟩:=hok5
   replace hok5x:=zm.1 hok5x
   replace hok5y:=zm.1 hok5y
   refine e_ru (zG (j:=0) 0 ty30 rfl rfl rfl (.t2 .nil))<|zP rfl rfl (zu zr30 rfl) (fun b6=> ?_)
   refine zq 0 rfl rfl rfl rfl rfl sz30 rfl (.t2 .nil) .z<|zh<|zd<|ze<|za<|e_mv rfl<|e_mv rfl<|e_p (zw (z:=(((k+1):Nat):Int)) rfl rfl (w64 om))<|e_mv rfl<|e_p (zoa (z:=((((k+1)%n):Nat):Int)) rfl rfl om (remN om om))<|zI (x0:=(l.getD ((k+1)%n) (0,0))) 1 ((k+1)%n) rfl yf sz30 rfl rfl rfl cbs rfl rfl (gD (d:=(0,0)) om) (fun b7 o8 hok9=> ?_)
   obtain ⟨hok9x,hok9y⟩:=hok9
   replace hok9x:=zm.1 hok9x
   replace hok9y:=zm.1 hok9y
   refine e_ru (zG (j:=0) 0 ty30 rfl rfl rfl (.t2 .nil))<|zP rfl rfl (zu zr30 rfl) (fun b10=> ?_)
   refine zq 0 rfl rfl rfl rfl rfl sz30 rfl (.t2 .nil) .z<|zh<|zd<|ze<|za<|e_mv rfl<|e_mv rfl<|zI (x0:=(l.getD j (0,0))) 2 j rfl yf sz30 rfl rfl rfl cbs rfl rfl (gD (d:=(0,0)) om) (fun b11 o12 hok13=> ?_)
   obtain ⟨hok13x,hok13y⟩:=hok13
   replace hok13x:=zm.1 hok13x
   replace hok13y:=zm.1 hok13y
   refine e_ru (zG (j:=0) 0 ty30 rfl rfl rfl (.t2 .nil))<|zP rfl rfl (zu zr30 rfl) (fun b14=> ?_)
   refine zq 0 rfl rfl rfl rfl rfl sz30 rfl (.t2 .nil) .z<|zh<|zd<|ze<|za<|e_mv rfl<|e_mv rfl<|e_p (zw (z:=(((j+1):Nat):Int)) rfl rfl (w64 om))<|e_mv rfl<|e_p (zoa (z:=((((j+1)%n):Nat):Int)) rfl rfl om (remN om om))<|zI (x0:=(l.getD ((j+1)%n) (0,0))) 3 ((j+1)%n) rfl yf sz30 rfl rfl rfl cbs rfl rfl (gD (d:=(0,0)) om) (fun b15 o16 hok17=> ?_)
   obtain ⟨hok17x,hok17y⟩:=hok17
   replace hok17x:=zm.1 hok17x
   replace hok17y:=zm.1 hok17y
   refine e_ru (zG (j:=0) 0 ty30 rfl rfl rfl (.t2 .nil))<|zP rfl rfl (zu zr30 rfl) (fun b18=> ?_)
   refine zq 0 rfl rfl rfl rfl rfl sz30 rfl (.t2 .nil) .z<|zh<|zd<|ze<|za<|e_mv rfl<|e_mv rfl<|e_p (zw (z:=(((k+1):Nat):Int)) rfl rfl (w64 om))<|e_p (zsa rfl rfl)<|zh<|zd<|zB rfl (fun he=> ?_) (fun he=> ?_)
   ·
    refine zAa (X:=Unit) (fun x=>True) (fun x=>[(59,.bool (decide ((Pg.onS (((l.getD k (0,0)).1),((l.getD k (0,0)).2)) (((l.getD ((k+1)%n) (0,0)).1),((l.getD ((k+1)%n) (0,0)).2)) (((l.getD ((j+1)%n) (0,0)).1),((l.getD ((j+1)%n) (0,0)).2)))∨(Pg.onS (((l.getD j (0,0)).1),((l.getD j (0,0)).2)) (((l.getD ((j+1)%n) (0,0)).1),((l.getD ((j+1)%n) (0,0)).2)) (((l.getD k (0,0)).1),((l.getD k (0,0)).2)))))),(5,.int .i64 ((j:Nat):Int)),(4,.int .i64 ((k:Nat):Int)),(3,.int .i64 ((n:Nat):Int)),(0,.slice p n cap)]) (fun x=>[boxA b18 30 [.int .i64 ((l.getD ((j+1)%n) (0,0)).1),.int .i64 ((l.getD ((j+1)%n) (0,0)).2)],boxA b14 30 [.int .i64 ((l.getD j (0,0)).1),.int .i64 ((l.getD j (0,0)).2)],boxA b10 30 [.int .i64 ((l.getD ((k+1)%n) (0,0)).1),.int .i64 ((l.getD ((k+1)%n) (0,0)).2)],boxA b6 30 [.int .i64 ((l.getD k (0,0)).1),.int .i64 ((l.getD k (0,0)).2)]]) (fun x=>[atF b15 o16 [.int .i64 ((l.getD ((j+1)%n) (0,0)).1),.int .i64 ((l.getD ((j+1)%n) (0,0)).2)],atF b11 o12 [.int .i64 ((l.getD j (0,0)).1),.int .i64 ((l.getD j (0,0)).2)],atF b7 o8 [.int .i64 ((l.getD ((k+1)%n) (0,0)).1),.int .i64 ((l.getD ((k+1)%n) (0,0)).2)],atF b3 o4 [.int .i64 ((l.getD k (0,0)).1),.int .i64 ((l.getD k (0,0)).2)],slF (rI2 .i64) p cap l]) ?_ ?_
    ·
     refine za<|e_ru (zc 3 ty30 rfl rfl (.t2 .nil))<|e_ru (zc 2 ty30 rfl rfl (.t2 .nil))<|e_ru (zc 0 ty30 rfl rfl (.t2 .nil))<|zO rfl rfl (.c rfl (.c rfl (.c rfl .n))) ce35 (zOb (ex:=(l.getD k (0,0)).1) (ey:=(l.getD k (0,0)).2) (fx:=(l.getD ((k+1)%n) (0,0)).1) (fy:=(l.getD ((k+1)%n) (0,0)).2) (gx:=(l.getD ((j+1)%n) (0,0)).1) (gy:=(l.getD ((j+1)%n) (0,0)).2) (hre:=cbo) (hrf:=cbo) (hrg:=cbo)) (.n)<|zS rfl rfl (zT rfl) (fun h19=> ?_) (fun h19=> ?_)
     ·
      refine e_no<|e_no<|e_no<|e_no<|e_p (zo rfl rfl)<|zh ?_
      exact zY () (show True from by first|trivial|omega|simp_all) ((.e rfl (congrArg Value.bool cbu) (.of rfl)):SubM _ _) (ho:=((.of [0,0,0,0] rfl):PickO _ _ _)) ((.of [0,1,2,3,4] rfl):SelR _ _ _)
     ·
      refine e_ru (zc 1 ty30 rfl rfl (.t2 .nil))<|e_ru (zc 0 ty30 rfl rfl (.t2 .nil))<|e_ru (zc 3 ty30 rfl rfl (.t2 .nil))<|zO rfl rfl (.c rfl (.c rfl (.c rfl .n))) ce35 (zOb (ex:=(l.getD j (0,0)).1) (ey:=(l.getD j (0,0)).2) (fx:=(l.getD ((j+1)%n) (0,0)).1) (fy:=(l.getD ((j+1)%n) (0,0)).2) (gx:=(l.getD k (0,0)).1) (gy:=(l.getD k (0,0)).2) (hre:=cbo) (hrf:=cbo) (hrg:=cbo)) (.n)<|e_p (zo rfl rfl)<|zh ?_
      exact zY () (show True from by first|trivial|omega|simp_all) ((.e rfl (congrArg Value.bool cbu) (.of rfl)):SubM _ _) (ho:=((.of [0,0,0,0] rfl):PickO _ _ _)) ((.of [0,1,2,3,4] rfl):SelR _ _ _)
    ·
     rintro ⟨⟩ -
     try dsimp only
     refine zB rfl (fun hb1=> ?_) (fun hb1=> ?_)
     ·
      refine ze<|za<|e_p (zb rfl)<|zh<|zd<|zJ<|zk<|zi<|zi<|zk<|zk<|zi<|zi<|zk<|zi ?_
      exact zx yC () trivial (zn rfl) (congrArg Value.bool (decide_eq_false (fun h=>(Pg.smpR_n hn).1 h k om j om om ((Pg.bad_1 om).2 hb1)))) (ho:=(.n:PickO _ _ _)) (.n:SelR _ _ _)
     ·
      refine zt<|zK<|zd<|za<|e_mv rfl<|e_p (zw (z:=(((j+1):Nat):Int)) rfl rfl (w64 om))<|e_p (zb rfl)<|zh<|zda (j+1) (show k+1≤(j+1)∧∀w,w<(j+1)→k<w→¬Pg.bad n l k w from by exact ⟨by omega,Ms.all_lt_succ hB2 (fun _ hb=>hb1 ((Pg.bad_1 om).1 hb))⟩) (by show n - (j+1)<n - j;omega) ((.of rfl):SubM _ _) (ho:=(.n:PickO _ _ _)) ((.c (j:=4) rfl .n):SelR _ _ _)
   ·
    refine ze<|za<|e_mv rfl<|e_p (zw (z:=(((j+1):Nat):Int)) rfl rfl (w64 om))<|e_mv rfl<|e_p (zoa (z:=((((j+1)%n):Nat):Int)) rfl rfl om (remN om om))<|e_mv rfl<|e_p (zsa rfl rfl)<|zh<|zd<|zB rfl (fun he2=> ?_) (fun he2=> ?_)
    ·
     refine zAa (X:=Unit) (fun x=>True) (fun x=>[(75,.bool (decide ((Pg.onS (((l.getD k (0,0)).1),((l.getD k (0,0)).2)) (((l.getD ((k+1)%n) (0,0)).1),((l.getD ((k+1)%n) (0,0)).2)) (((l.getD j (0,0)).1),((l.getD j (0,0)).2)))∨(Pg.onS (((l.getD j (0,0)).1),((l.getD j (0,0)).2)) (((l.getD ((j+1)%n) (0,0)).1),((l.getD ((j+1)%n) (0,0)).2)) (((l.getD ((k+1)%n) (0,0)).1),((l.getD ((k+1)%n) (0,0)).2)))))),(5,.int .i64 ((j:Nat):Int)),(4,.int .i64 ((k:Nat):Int)),(3,.int .i64 ((n:Nat):Int)),(0,.slice p n cap)]) (fun x=>[boxA b18 30 [.int .i64 ((l.getD ((j+1)%n) (0,0)).1),.int .i64 ((l.getD ((j+1)%n) (0,0)).2)],boxA b14 30 [.int .i64 ((l.getD j (0,0)).1),.int .i64 ((l.getD j (0,0)).2)],boxA b10 30 [.int .i64 ((l.getD ((k+1)%n) (0,0)).1),.int .i64 ((l.getD ((k+1)%n) (0,0)).2)],boxA b6 30 [.int .i64 ((l.getD k (0,0)).1),.int .i64 ((l.getD k (0,0)).2)]]) (fun x=>[atF b15 o16 [.int .i64 ((l.getD ((j+1)%n) (0,0)).1),.int .i64 ((l.getD ((j+1)%n) (0,0)).2)],atF b11 o12 [.int .i64 ((l.getD j (0,0)).1),.int .i64 ((l.getD j (0,0)).2)],atF b7 o8 [.int .i64 ((l.getD ((k+1)%n) (0,0)).1),.int .i64 ((l.getD ((k+1)%n) (0,0)).2)],atF b3 o4 [.int .i64 ((l.getD k (0,0)).1),.int .i64 ((l.getD k (0,0)).2)],slF (rI2 .i64) p cap l]) ?_ ?_
     ·
      refine za<|e_ru (zc 3 ty30 rfl rfl (.t2 .nil))<|e_ru (zc 2 ty30 rfl rfl (.t2 .nil))<|e_ru (zc 1 ty30 rfl rfl (.t2 .nil))<|zO rfl rfl (.c rfl (.c rfl (.c rfl .n))) ce35 (zOb (ex:=(l.getD k (0,0)).1) (ey:=(l.getD k (0,0)).2) (fx:=(l.getD ((k+1)%n) (0,0)).1) (fy:=(l.getD ((k+1)%n) (0,0)).2) (gx:=(l.getD j (0,0)).1) (gy:=(l.getD j (0,0)).2) (hre:=cbo) (hrf:=cbo) (hrg:=cbo)) (.n)<|zS rfl rfl (zT rfl) (fun h20=> ?_) (fun h20=> ?_)
      ·
       refine e_no<|e_no<|e_no<|e_no<|e_p (zo rfl rfl)<|zh ?_
       exact zY () (show True from by first|trivial|omega|simp_all) ((.e rfl (congrArg Value.bool cbu) (.of rfl)):SubM _ _) (ho:=((.of [0,0,0,0] rfl):PickO _ _ _)) ((.of [0,1,2,3,4] rfl):SelR _ _ _)
      ·
       refine e_ru (zc 1 ty30 rfl rfl (.t2 .nil))<|e_ru (zc 0 ty30 rfl rfl (.t2 .nil))<|e_ru (zc 2 ty30 rfl rfl (.t2 .nil))<|zO rfl rfl (.c rfl (.c rfl (.c rfl .n))) ce35 (zOb (ex:=(l.getD j (0,0)).1) (ey:=(l.getD j (0,0)).2) (fx:=(l.getD ((j+1)%n) (0,0)).1) (fy:=(l.getD ((j+1)%n) (0,0)).2) (gx:=(l.getD ((k+1)%n) (0,0)).1) (gy:=(l.getD ((k+1)%n) (0,0)).2) (hre:=cbo) (hrf:=cbo) (hrg:=cbo)) (.n)<|e_p (zo rfl rfl)<|zh ?_
       exact zY () (show True from by first|trivial|omega|simp_all) ((.e rfl (congrArg Value.bool cbu) (.of rfl)):SubM _ _) (ho:=((.of [0,0,0,0] rfl):PickO _ _ _)) ((.of [0,1,2,3,4] rfl):SelR _ _ _)
     ·
      rintro ⟨⟩ -
      try dsimp only
      refine zB rfl (fun hb2=> ?_) (fun hb2=> ?_)
      ·
       refine ze<|za<|e_p (zb rfl)<|zh<|zd<|zJ<|zk<|zi<|zi<|zk<|zk<|zi<|zi<|zk<|zi ?_
       exact zx yC () trivial (zn rfl) (congrArg Value.bool (decide_eq_false (fun h=>(Pg.smpR_n hn).1 h k om j om om ((Pg.bad_2 om om).2 hb2)))) (ho:=(.n:PickO _ _ _)) (.n:SelR _ _ _)
      ·
       refine zt<|zK<|zd<|za<|e_mv rfl<|e_p (zw (z:=(((j+1):Nat):Int)) rfl rfl (w64 om))<|e_p (zb rfl)<|zh<|zda (j+1) (show k+1≤(j+1)∧∀w,w<(j+1)→k<w→¬Pg.bad n l k w from by exact ⟨by omega,Ms.all_lt_succ hB2 (fun _ hb=>hb2 ((Pg.bad_2 om om).1 hb))⟩) (by show n - (j+1)<n - j;omega) ((.of rfl):SubM _ _) (ho:=(.n:PickO _ _ _)) ((.c (j:=4) rfl .n):SelR _ _ _)
    ·
     refine ze<|za<|e_ru (zc 3 ty30 rfl rfl (.t2 .nil))<|e_ru (zc 2 ty30 rfl rfl (.t2 .nil))<|e_ru (zc 1 ty30 rfl rfl (.t2 .nil))<|e_ru (zc 0 ty30 rfl rfl (.t2 .nil))<|zO rfl rfl (.c rfl (.c rfl (.c rfl (.c rfl .n)))) ce92 (ztf (ex:=(l.getD k (0,0)).1) (ey:=(l.getD k (0,0)).2) (fx:=(l.getD ((k+1)%n) (0,0)).1) (fy:=(l.getD ((k+1)%n) (0,0)).2) (gx:=(l.getD j (0,0)).1) (gy:=(l.getD j (0,0)).2) (hx:=(l.getD ((j+1)%n) (0,0)).1) (hy:=(l.getD ((j+1)%n) (0,0)).2) (hre:=cbo) (hrf:=cbo) (hrg:=cbo) (hrh:=cbo)) (.n)<|zh<|zd<|zB rfl (fun hb3=> ?_) (fun hb3=> ?_)
     ·
      refine ze<|za<|e_p (zb rfl)<|zh<|zd<|zJ<|zk<|zi<|zi<|zk<|zk<|zi<|zi<|zk<|zi ?_
      exact zx yC () trivial (zn rfl) (congrArg Value.bool (decide_eq_false (fun h=>(Pg.smpR_n hn).1 h k om j om om ((Pg.bad_3 om om).2 hb3)))) (ho:=(.n:PickO _ _ _)) (.n:SelR _ _ _)
     ·
      refine zt<|zK<|zd<|za<|e_mv rfl<|e_p (zw (z:=(((j+1):Nat):Int)) rfl rfl (w64 om))<|e_p (zb rfl)<|zh<|zda (j+1) (show k+1≤(j+1)∧∀w,w<(j+1)→k<w→¬Pg.bad n l k w from by exact ⟨by omega,Ms.all_lt_succ hB2 (fun _ hb=>hb3 ((Pg.bad_3 om om).1 hb))⟩) (by show n - (j+1)<n - j;omega) ((.of rfl):SubM _ _) (ho:=(.n:PickO _ _ _)) ((.c (j:=4) rfl .n):SelR _ _ _)
  ·
   refine zga<|zj<|zj<|zr<|zK<|zd<|za<|e_mv rfl<|e_p (zw (z:=(((k+1):Nat):Int)) rfl rfl (w64 om))<|e_p (zb rfl)<|zh<|zda (k+1) (show (k+1)≤n∧∀w,w<(k+1)→∀j,j<n→w<j→¬Pg.bad n l w j from by exact ⟨by omega,Ms.all_lt_succ hall (fun w hw hw2=>hB2 w om hw2)⟩) (by show n - (k+1)<n - k;omega) ((.of rfl):SubM _ _) (ho:=(.n:PickO _ _ _)) ((.c (j:=0) rfl .n):SelR _ _ _)
 ·
  refine zga<|zj<|zj<|zr<|zd<|ze<|za<|e_p (zb rfl)<|zh<|zd<|zJ ?_
  exact zx yC () trivial (zn rfl) (congrArg Value.bool (decide_eq_true ((Pg.smpR_n hn).2 (fun w hw=>hall w om)))) (ho:=(.n:PickO _ _ _)) (.n:SelR _ _ _)
theorem zWe {p:Option Addr} {n:Nat} {cap:Nat} {l:List Pg.P2} (hn:l.length=n):Con yj 16 [.slice p n cap] [] [slF (rI2 .i64) p cap l] (Y:=Unit) (fun y=>True) (fun y=> .int .i64 (Pg.ck l)) (fun y=>[]) (fun y=>[]):=by
 refine zp Tryz.func16 rfl rfl rfl (fun c=> ?_)
 show RunC _ _ _ _ _ [(0,.slice p n cap)] [] [slF (rI2 .i64) p cap l]
 refine zfa 0 rfl (fun hL0=> ?_)
 refine ze<|za<|e_p (zb rfl)<|zh<|zd<|ze<|zAa (X:=Unit) (fun x=>True) (fun x=>[(12,.bool (decide ((((n:Nat):Int)<3)∨(64<((n:Nat):Int))))),(2,.int .i64 0),(0,.slice p n cap)]) (fun x=>[]) (fun x=>[slF (rI2 .i64) p cap l]) ?_ ?_
 ·
  refine za<|e_mv rfl<|e_p (zQ yf rfl)<|e_p (zR rfl rfl)<|zS rfl rfl (zT rfl) (fun h1=> ?_) (fun h1=> ?_)
  ·
   refine e_no<|e_no<|e_no<|e_p (zo rfl rfl)<|zh ?_
   exact zY () (show True from by first|trivial|omega|simp_all) ((.e rfl (congrArg Value.bool cbu) (.c rfl (.c rfl .n))):SubM _ _) (ho:=(.n:PickO _ _ _)) ((.c (j:=0) rfl .n):SelR _ _ _)
  ·
   refine e_mv rfl<|e_p (zQ yf rfl)<|e_p (zFa rfl rfl)<|e_p (zo rfl rfl)<|zh ?_
   exact zY () (show True from by first|trivial|omega|simp_all) ((.e rfl (congrArg Value.bool cbu) (.c rfl (.c rfl .n))):SubM _ _) (ho:=(.n:PickO _ _ _)) ((.c (j:=0) rfl .n):SelR _ _ _)
 ·
  rintro ⟨⟩ -
  try dsimp only
  refine zB rfl (fun hlim=> ?_) (fun hlim=> ?_)
  ·
   refine ze<|za<|e_p (zb rfl)<|zh<|zd<|zJ<|zi ?_
   exact zx yz () trivial (zn rfl) (by rw [Pg.ck_lim om]) (ho:=(.n:PickO _ _ _)) (.n:SelR _ _ _)
  ·
   have hlm:¬(l.length<3∨64<l.length):=by omega
   refine zt<|zd<|ze<|ze<|za<|e_p (zb rfl)<|zh<|zd<|zv<|zma (X:=Nat) (fun x:Nat=>x≤n∧Pg.ck1 (l.take x) (l.drop x)=Pg.ck1 [] l) (fun x=>[(3,.int .i64 ((x:Nat):Int)),(0,.slice p n cap)]) (fun x=>[]) (fun x=>[slF (rI2 .i64) p cap l]) (fun x:Nat=>n - x) 0 (show 0≤n∧Pg.ck1 (l.take 0) (l.drop 0)=Pg.ck1 [] l from by exact ⟨Nat.zero_le _,rfl⟩) ((.e rfl (by first|rfl|(congr 1;omega)|simp_all) (.c rfl .n)):SubM _ _) (ho:=(.n:PickO _ _ _)) ((.c (j:=0) rfl .n):SelR _ _ _) ?_
   rintro i hI
   replace hI:i≤n∧Pg.ck1 (l.take i) (l.drop i)=Pg.ck1 [] l:=hI
   try dsimp only
   obtain ⟨hi,hck⟩:=hI
   refine ze<|ze<|za<|e_mv rfl<|e_mv rfl<|e_p (zQ yf rfl)<|e_p (zR rfl rfl)<|zh<|zd<|zB rfl (fun h2=> ?_) (fun h2=> ?_)
   ·
    refine zt<|zd<|ze<|zv<|ze<|ze<|za<|e_mv rfl<|e_mv rfl<|zI (x0:=(l.getD i (0,0))) 0 i rfl yf sz30 rfl rfl rfl cbs rfl rfl (gD (d:=(0,0)) om) (fun b3 o4 hok5=> ?_)
    obtain ⟨hok5x,hok5y⟩:=hok5
    replace hok5x:=zm.1 hok5x
    replace hok5y:=zm.1 hok5y
    refine e_ru (zG (j:=0) 0 ty30 rfl rfl rfl (.t2 .nil))<|zO rfl rfl (.c rfl .n) ce48 (zue (ex:=(l.getD i (0,0)).1) (ey:=(l.getD i (0,0)).2) (hwex:=cbo) (hwey:=cbo)) (.n)<|e_p (zmb rfl)<|zh<|zd<|zB rfl (fun hfar=> ?_) (fun hfar=> ?_)
    ·
     refine ze<|za<|e_p (zb rfl)<|zh<|zd<|zJ<|zi<|zk<|zi<|zi<|zk<|zi ?_
     have hv1:=Pg.ck1_far (l:=l) (i:=i) om (by simpa [Pg.far] using hfar)
     exact zx yz () trivial (zn rfl) (by rw [Pg.ck_one hlm (by rw [← hck,hv1];decide),←hck,hv1]) (ho:=(.n:PickO _ _ _)) (.n:SelR _ _ _)
    ·
     refine zt<|zd<|ze<|za<|e_p (zb rfl)<|zh<|zd<|zv<|zma (X:=Nat) (fun x:Nat=>x≤i∧∀w,w<x→¬(l.getD i (0,0))=(l.getD w (0,0))) (fun x=>[(4,.int .i64 ((x:Nat):Int)),(3,.int .i64 ((i:Nat):Int)),(0,.slice p n cap)]) (fun x=>[]) (fun x=>[atF b3 o4 [.int .i64 ((l.getD i (0,0)).1),.int .i64 ((l.getD i (0,0)).2)],slF (rI2 .i64) p cap l]) (fun x:Nat=>i - x) 0 (show 0≤i∧∀w,w<0→¬(l.getD i (0,0))=(l.getD w (0,0)) from by exact ⟨Nat.zero_le _,fun w h=>by omega⟩) ((.e rfl (by first|rfl|(congr 1;omega)|simp_all) (.c rfl (.c rfl .n))):SubM _ _) (ho:=(.n:PickO _ _ _)) ((.of [0,1] rfl):SelR _ _ _) ?_
     rintro j hJ
     replace hJ:j≤i∧∀w,w<j→¬(l.getD i (0,0))=(l.getD w (0,0)):=hJ
     try dsimp only
     obtain ⟨hj2,hB2⟩:=hJ
     refine ze<|ze<|za<|e_mv rfl<|e_mv rfl<|e_p (zR rfl rfl)<|zh<|zd<|zB rfl (fun h6=> ?_) (fun h6=> ?_)
     ·
      refine zt<|zd<|ze<|zv<|ze<|zZ (OW:=[]) (O:=[]) 100000 mixed (.then (.block (.then (.then (.block (.block (.then (.then (.block (.then .ret)))))))))) kr<|e_dm 0 rfl rfl rfl<|e_dm 1 rfl rfl rfl<|zca (x0:=(l.getD i (0,0))) 2 rfl rfl kr kr 1 i rfl yf sz30 rfl rfl rfl cbs rfl rfl (gD (d:=(0,0)) om) (fun b7 o8 hok9=> ?_)
      obtain ⟨hok9x,hok9y⟩:=hok9
      replace hok9x:=zm.1 hok9x
      replace hok9y:=zm.1 hok9y
      refine e_u 3 rfl rfl (zG (j:=0) 0 ty30 rfl rfl rfl (.t2 .nil))<|e_dm 4 rfl rfl rfl<|e_dm 5 rfl rfl rfl<|zca (x0:=(l.getD j (0,0))) 6 rfl rfl kr kr 2 j rfl yf sz30 rfl rfl rfl cbs rfl rfl (gD (d:=(0,0)) om) (fun b10 o11 hok12=> ?_)
      obtain ⟨hok12x,hok12y⟩:=hok12
      replace hok12x:=zm.1 hok12x
      replace hok12y:=zm.1 hok12y
      refine e_u 7 rfl rfl (zG (j:=0) 0 ty30 rfl rfl rfl (.t2 .nil))<|e_one 8 (zua rfl rfl rfl rfl (.c rfl (.c rfl .n)) ce52 (zrf (ex:=(l.getD i (0,0)).1) (ey:=(l.getD i (0,0)).2) (fx:=(l.getD j (0,0)).1) (fy:=(l.getD j (0,0)).2)) (.n) ?_)
      refine zX kr<|zd<|zB rfl (fun hdup=> ?_) (fun hdup=> ?_)
      ·
       refine ze<|za<|e_p (zb rfl)<|zh<|zd<|zJ<|zk<|zi<|zi<|zk<|zk<|zi<|zi<|zk<|zi ?_
       have hv1:=Pg.ck1_dup (l:=l) (i:=i) om (by simpa [Pg.far] using hfar) (Pg.in_take (j:=j) om om hdup)
       exact zx yz () trivial (zn rfl) (by rw [Pg.ck_one hlm (by rw [← hck,hv1];decide),←hck,hv1]) (ho:=(.n:PickO _ _ _)) (.n:SelR _ _ _)
      ·
       refine zt<|zK<|zd<|za<|e_mv rfl<|e_p (zw (z:=(((j+1):Nat):Int)) rfl rfl (w64 om))<|e_p (zb rfl)<|zh<|zda (j+1) (show (j+1)≤i∧∀w,w<(j+1)→¬(l.getD i (0,0))=(l.getD w (0,0)) from by exact ⟨by omega,Ms.all_lt_succ hB2 hdup⟩) (by show i - (j+1)<i - j;omega) ((.of rfl):SubM _ _) (ho:=(.n:PickO _ _ _)) ((.of [2,3] rfl):SelR _ _ _)
     ·
      refine zga<|zj<|zj<|zr<|zK<|zd<|za<|e_mv rfl<|e_p (zw (z:=(((i+1):Nat):Int)) rfl rfl (w64 om))<|e_p (zb rfl)<|zh<|zda (i+1) (show (i+1)≤n∧Pg.ck1 (l.take (i+1)) (l.drop (i+1))=Pg.ck1 [] l from by exact ⟨by omega,(Pg.ck1_go om (by simpa [Pg.far] using hfar) (Pg.not_take om (fun w hw=>hB2 w om))).trans hck⟩) (by show n - (i+1)<n - i;omega) ((.c rfl (.c rfl .n)):SubM _ _) (ho:=(.n:PickO _ _ _)) ((.c (j:=1) rfl .n):SelR _ _ _)
   ·
    have hz1:Pg.ck1 [] l=0:=by rw [← hck];exact Pg.ck1_end om
    have hrng:=Pg.ck1_zero hz1
    refine zga<|zj<|zj<|zr<|zd<|ze<|ze<|za<|e_mv rfl<|zO rfl rfl (.c rfl .n) ce53 (zoe (p:=p) (n:=n) (cap:=cap) (l:=l) (hn:=ass) (h64:=cbo) (hrng:=cbo)) (.c (j:=0) rfl .n)<|e_p (zmb rfl)<|zh<|zd<|zB rfl (fun hsm=> ?_) (fun hsm=> ?_)
    ·
     refine ze<|za<|e_p (zb rfl)<|zh<|zd<|zJ<|zi ?_
     exact zx yz () trivial (zn rfl) (by rw [Pg.ck_two hlm hz1 (fun h=>absurd ((Pg.smp_iff om).1 h) (by simpa using hsm))]) (ho:=(.n:PickO _ _ _)) (.n:SelR _ _ _)
    ·
     refine zt<|zd<|ze<|za<|e_p (zb rfl)<|zh<|zd<|zJ ?_
     exact zx yz () trivial (zn rfl) (by rw [Pg.ck_ok hlm hz1 ((Pg.smp_iff om).2 (by simpa using hsm))]) (ho:=(.n:PickO _ _ _)) (.n:SelR _ _ _)
theorem zKf {p:Option Addr} {n:Nat} {cap:Nat} {l:List Pg.P2} (hn:l.length=n):Con yj 14 [.slice p n cap] [] [slF (rI2 .i64) p cap l] (Y:=Unit) (fun y=>True) (fun y=> .tuple #[.int .i64 (Pg.arV l),.int .i64 (Pg.arC l)]) (fun y=>[]) (fun y=>[]):=by
 refine zp Tryz.func14 rfl rfl rfl (fun c=> ?_)
 show RunC _ _ _ _ _ [(0,.slice p n cap)] [] [slF (rI2 .i64) p cap l]
 refine zfa 0 rfl (fun hL0=> ?_)
 refine ze<|za<|e_p (zb rfl)<|e_p (zb rfl)<|zh<|zd<|ze<|ze<|za<|e_mv rfl<|e_p (zQ yf rfl)<|e_p (zFa rfl rfl)<|zh<|zd<|zB rfl (fun hlim=> ?_) (fun hlim=> ?_)
 ·
  refine ze<|za<|e_p (zb rfl)<|e_p (zb rfl)<|zh<|zd<|zJ<|zi ?_
  obtain ⟨hv1,hv2⟩:=Pg.ar_lim (l:=l) om
  exact zEa Tryz.results14 () trivial (zn rfl) (zn rfl) (by rw [hv1,hv2]) (ho:=(.n:PickO _ _ _)) (.n:SelR _ _ _)
 ·
  refine zt<|zd<|ze<|za<|e_p (zb rfl)<|zh<|zd<|ze<|ze<|za<|e_p (zb rfl)<|zh<|zd<|zv<|zma (X:=Nat) (fun x:Nat=>x≤n∧∀j,j<x→Pg.far (l.getD j (0,0))=false) (fun x=>[(5,.int .i64 ((x:Nat):Int)),(4,.int .i64 0),(0,.slice p n cap)]) (fun x=>[]) (fun x=>[slF (rI2 .i64) p cap l]) (fun x:Nat=>n - x) 0 (show 0≤n∧∀j,j<0→Pg.far (l.getD j (0,0))=false from by exact ⟨Nat.zero_le _,fun j h=>by omega⟩) ((.e rfl (by first|rfl|(congr 1;omega)|simp_all) (.c rfl (.c rfl .n))):SubM _ _) (ho:=(.n:PickO _ _ _)) ((.c (j:=0) rfl .n):SelR _ _ _) ?_
  rintro i hI
  replace hI:i≤n∧∀j,j<i→Pg.far (l.getD j (0,0))=false:=hI
  try dsimp only
  obtain ⟨hi,hall⟩:=hI
  refine ze<|ze<|za<|e_mv rfl<|e_mv rfl<|e_p (zQ yf rfl)<|e_p (zR rfl rfl)<|zh<|zd<|zB rfl (fun h1=> ?_) (fun h1=> ?_)
  ·
   refine zt<|zd<|ze<|zv<|ze<|za<|e_mv rfl<|e_mv rfl<|zI (x0:=(l.getD i (0,0))) 0 i rfl yf sz30 rfl rfl rfl cbs rfl rfl (gD (d:=(0,0)) om) (fun b2 o3 hok4=> ?_)
   obtain ⟨hok4x,hok4y⟩:=hok4
   replace hok4x:=zm.1 hok4x
   replace hok4y:=zm.1 hok4y
   refine e_ru (zG (j:=0) 0 ty30 rfl rfl rfl (.t2 .nil))<|zO rfl rfl (.c rfl .n) ce48 (zue (ex:=(l.getD i (0,0)).1) (ey:=(l.getD i (0,0)).2) (hwex:=cbo) (hwey:=cbo)) (.n)<|e_p (zmb rfl)<|zh<|zd<|zB rfl (fun hfar=> ?_) (fun hfar=> ?_)
   ·
    refine ze<|za<|e_p (zb rfl)<|e_p (zb rfl)<|zh<|zd<|zJ<|zk<|zi<|zi<|zk<|zi ?_
    obtain ⟨hv1,hv2⟩:=Pg.ar_far (l:=l) om (Ms.any_true (0,0) (i:=i) om (by simpa [Pg.far] using hfar))
    exact zEa Tryz.results14 () trivial (zn rfl) (zn rfl) (by rw [hv1,hv2]) (ho:=(.n:PickO _ _ _)) (.n:SelR _ _ _)
   ·
    refine zt<|zK<|zd<|za<|e_mv rfl<|e_p (zw (z:=(((i+1):Nat):Int)) rfl rfl (w64 om))<|e_p (zb rfl)<|zh<|zda (i+1) (show (i+1)≤n∧∀j,j<(i+1)→Pg.far (l.getD j (0,0))=false from by exact ⟨by omega,Ms.all_lt_succ (P:=fun j=>Pg.far (l.getD j (0,0))=false) hall (by simpa [Pg.far] using hfar)⟩) (by show n - (i+1)<n - i;omega) ((.of rfl):SubM _ _) (ho:=(.n:PickO _ _ _)) ((.c (j:=1) rfl .n):SelR _ _ _)
  ·
   have hnf:¬l.any Pg.far=true:=by rw [Ms.any_false (0,0) (fun j hj=>hall j om)];decide
   have hrng:=Pg.any_far hnf
   refine zga<|zj<|zj<|zr<|zd<|ze<|ze<|za<|e_p (zb rfl)<|zh<|zd<|zv<|zma (X:=Nat) (fun x:Nat=>x≤n) (fun x=>[(4,.int .i64 (Pg.dbN n l x)),(6,.int .i64 ((x:Nat):Int)),(0,.slice p n cap)]) (fun x=>[]) (fun x=>[slF (rI2 .i64) p cap l]) (fun x:Nat=>n - x) 0 (show 0≤n from by exact Nat.zero_le _) ((.e rfl (by first|rfl|(congr 1;omega)|simp_all) (.e rfl (by first|rfl|(congr 1;omega)|simp_all) (.c rfl .n))):SubM _ _) (ho:=(.n:PickO _ _ _)) ((.c (j:=0) rfl .n):SelR _ _ _) ?_
   rintro k hJ
   replace hJ:k≤n:=hJ
   try dsimp only
   refine ze<|ze<|za<|e_mv rfl<|e_mv rfl<|e_p (zQ yf rfl)<|e_p (zR rfl rfl)<|zh<|zd<|zB rfl (fun h5=> ?_) (fun h5=> ?_)
   ·
    have hm1:(k+1)%n<n:=Nat.mod_lt _ om
    have hg0:Pg.inR (l.getD k (0,0)):=Pg.Ok.gt hrng om
    have hg1:Pg.inR (l.getD ((k+1)%n) (0,0)):=Pg.Ok.gt hrng om
    obtain ⟨hp1,hp2⟩:=Pg.ab hg0 hg1
    have hb1:=Pg.dbN_b hn hrng (i:=k) om
    refine zt<|zd<|ze<|zv<|ze<|za<|e_mv rfl<|e_mv rfl<|e_p (zw (z:=(((k+1):Nat):Int)) rfl rfl (w64 om))<|e_mv rfl<|e_p (zQ yf rfl)<|e_p (zoa (z:=((((k+1)%n):Nat):Int)) rfl rfl om (remN om om))<|zI (x0:=(l.getD ((k+1)%n) (0,0))) 0 ((k+1)%n) rfl yf sz30 rfl rfl rfl cbs rfl rfl (gD (d:=(0,0)) om) (fun b6 o7 hok8=> ?_)
    obtain ⟨hok8x,hok8y⟩:=hok8
    replace hok8x:=zm.1 hok8x
    replace hok8y:=zm.1 hok8y
    refine e_ru (zG (j:=0) 0 ty30 rfl rfl rfl (.t2 .nil))<|zP rfl rfl (zu zr30 rfl) (fun b9=> ?_)
    refine zq 0 rfl rfl rfl rfl rfl sz30 rfl (.t2 .nil) .z<|zh<|zd<|zZ (OW:=[]) (O:=[boxA b9 30 [.int .i64 ((l.getD ((k+1)%n) (0,0)).1),.int .i64 ((l.getD ((k+1)%n) (0,0)).2)]]) 100000 mixed (.block (.then (.then (.block (.then .ret))))) kr<|e_dm 0 rfl rfl rfl<|e_dm 1 rfl rfl rfl<|e_dm 2 rfl rfl rfl<|zca (x0:=(l.getD k (0,0))) 3 rfl rfl kr kr 1 k rfl yf sz30 rfl rfl rfl cbs rfl rfl (gD (d:=(0,0)) om) (fun b10 o11 hok12=> ?_)
    obtain ⟨hok12x,hok12y⟩:=hok12
    replace hok12x:=zm.1 hok12x
    replace hok12y:=zm.1 hok12y
    refine e_pv 4 rfl rfl (zg yi rfl sz3 rfl rfl)<|e_u 5 rfl rfl (zl (j:=0) 0 ty3 rfl rfl rfl rfl)<|e_pv 6 rfl rfl (zg yi rfl sz3 rfl rfl)<|e_u 7 rfl rfl (zf 0 ty3 rfl rfl rfl)<|e_pv 8 rfl rfl (zGa (z:=((l.getD k (0,0)).1*(l.getD ((k+1)%n) (0,0)).2)) rfl rfl (w64 om))<|e_pv 9 rfl rfl (zw (z:=((Pg.dbN n l k)+((l.getD k (0,0)).1*(l.getD ((k+1)%n) (0,0)).2))) rfl rfl (w64 om))<|e_pv 10 rfl rfl (zg yi rfl sz3 rfl rfl)<|e_u 11 rfl rfl (zf 0 ty3 rfl rfl rfl)<|e_dm 12 rfl rfl rfl<|e_dm 13 rfl rfl rfl<|zca (x0:=(l.getD k (0,0))) 14 rfl rfl kr kr 2 k rfl yf sz30 rfl rfl rfl cbs rfl rfl (gD (d:=(0,0)) om) (fun b13 o14 hok15=> ?_)
    obtain ⟨hok15x,hok15y⟩:=hok15
    replace hok15x:=zm.1 hok15x
    replace hok15y:=zm.1 hok15y
    refine e_pv 15 rfl rfl (zg yi rfl sz3 rfl rfl)<|e_u 16 rfl rfl (zl (j:=1) 0 ty3 rfl rfl rfl rfl)<|e_pv 17 rfl rfl (zGa (z:=((l.getD ((k+1)%n) (0,0)).1*(l.getD k (0,0)).2)) rfl rfl (w64 om))<|e_pv 18 rfl rfl (zja (z:=(((Pg.dbN n l k)+((l.getD k (0,0)).1*(l.getD ((k+1)%n) (0,0)).2)) - ((l.getD ((k+1)%n) (0,0)).1*(l.getD k (0,0)).2))) rfl rfl (w64 om))<|e_pv 19 rfl rfl (zb rfl)<|zX kr<|zK<|zd<|za<|e_mv rfl<|e_p (zw (z:=(((k+1):Nat):Int)) rfl rfl (w64 om))<|e_p (zb rfl)<|zh<|zda (k+1) (show (k+1)≤n from by show k+1≤n;omega) (by show n - (k+1)<n - k;omega) ((.e rfl (by refine congrArg (Value.int .i64) ?_;show _=Pg.dbN n l k+Pg.tm n l k;unfold Pg.tm Pg.gt;omega) (.c rfl (.c rfl .n))):SubM _ _) (ho:=(.n:PickO _ _ _)) ((.c (j:=3) rfl .n):SelR _ _ _)
   ·
    refine zga<|zj<|zj<|zr<|zd<|ze<|za<|e_mv rfl<|e_p (zb rfl)<|e_p (zb rfl)<|zh<|zd<|zJ ?_
    obtain ⟨hv1,hv2⟩:=Pg.ar_ok (l:=l) om hnf
    exact zEa Tryz.results14 () trivial (zn rfl) (zn rfl) (by rw [hv1,hv2,show k=n by omega,Pg.db,hn]) (ho:=(.n:PickO _ _ _)) (.n:SelR _ _ _)
end Go.Proofs.YtjcpbhlijoigfaaGreat.Sp
namespace Go.Proofs.YtjcpbhlijoigfaaGreat.Sp
open Go
set_option linter.unusedVariables false
set_option maxRecDepth 100000
set_option maxHeartbeats 8000000
theorem zBg {p:Option Addr} {n:Nat} {cap:Nat} {l:List Pg.P2} (hn:l.length=n):Con yj 12 [.slice p n cap] [] [slF (rI2 .i64) p cap l] (Y:=Unit) (fun y=>True) (fun y=> .bool (decide (((n:Nat):Int)≤70∧(((n:Nat):Int)≤12∨64<((n:Nat):Int))))) (fun y=>[]) (fun y=>[]):=by
 refine zp Tryz.func12 rfl rfl rfl (fun c=> ?_)
 show RunC _ _ _ _ _ [(0,.slice p n cap)] [] [slF (rI2 .i64) p cap l]
 refine zfa 0 rfl (fun hL0=> ?_)
 refine ze<|za<|e_p (zb rfl)<|zh<|zd<|zAa (X:=Unit) (fun x=>True) (fun x=>[(2,.bool (decide ((((n:Nat):Int)≤70)∧((((n:Nat):Int)≤12)∨(64<((n:Nat):Int))))))]) (fun x=>[]) (fun x=>[slF (rI2 .i64) p cap l]) ?_ ?_
 ·
  refine za<|e_mv rfl<|e_p (zQ yf rfl)<|e_p (zVa rfl rfl)<|zS rfl rfl (zT rfl) (fun h1=> ?_) (fun h1=> ?_)
  ·
   refine e_mv rfl<|e_p (zQ yf rfl)<|e_p (zVa rfl rfl)<|zS rfl rfl (zT rfl) (fun h2=> ?_) (fun h2=> ?_)
   ·
    refine e_no<|e_no<|e_no<|e_p (zo rfl rfl)<|e_p (zo rfl rfl)<|e_p (zb rfl)<|zh ?_
    exact zY () (show True from by first|trivial|omega|simp_all) ((.e rfl (congrArg Value.bool cbu) .n):SubM _ _) (ho:=(.n:PickO _ _ _)) ((.c (j:=0) rfl .n):SelR _ _ _)
   ·
    refine e_mv rfl<|e_p (zQ yf rfl)<|e_p (zFa rfl rfl)<|e_p (zo rfl rfl)<|e_p (zo rfl rfl)<|e_p (zb rfl)<|zh ?_
    exact zY () (show True from by first|trivial|omega|simp_all) ((.e rfl (congrArg Value.bool cbu) .n):SubM _ _) (ho:=(.n:PickO _ _ _)) ((.c (j:=0) rfl .n):SelR _ _ _)
  ·
   refine e_no<|e_no<|e_no<|e_no<|e_no<|e_no<|e_no<|e_no<|e_p (zo rfl rfl)<|e_p (zb rfl)<|zh ?_
   exact zY () (show True from by first|trivial|omega|simp_all) ((.e rfl (congrArg Value.bool cbu) .n):SubM _ _) (ho:=(.n:PickO _ _ _)) ((.c (j:=0) rfl .n):SelR _ _ _)
 ·
  rintro ⟨⟩ -
  try dsimp only
  refine zJ ?_
  exact zx Tryz.results12 () trivial (zn rfl) (congrArg Value.bool (by first|rfl|(simp;omega)|simp_all)) (ho:=(.n:PickO _ _ _)) (.n:SelR _ _ _)
end Go.Proofs.YtjcpbhlijoigfaaGreat.Sp
namespace Go.Proofs.YtjcpbhlijoigfaaGreat.Pg
set_option linter.unusedVariables false
theorem betw_sw {a b p:P2}:betw a b p↔betw b a p:=by unfold betw;omega
theorem onS_sw {a b p:P2}:onS a b p↔onS b a p:=by
  unfold onS;rw [crs_sw a b,betw_sw]
  constructor <;> intro h <;> exact ⟨by omega,h.2⟩
theorem mt_comm {a b c d:P2}:mt a b c d↔mt c d a b:=by
  unfold mt mt0 mt1
  constructor
  · rintro (⟨h1, h2⟩ | h | h | h | h)
    · exact .inl ⟨h2,h1⟩
    · exact .inr (.inr (.inr (.inl h)))
    · exact .inr (.inr (.inr (.inr h)))
    · exact .inr (.inl h)
    · exact .inr (.inr (.inl h))
  · rintro (⟨h1, h2⟩ | h | h | h | h)
    · exact .inl ⟨h2,h1⟩
    · exact .inr (.inr (.inr (.inl h)))
    · exact .inr (.inr (.inr (.inr h)))
    · exact .inr (.inl h)
    · exact .inr (.inr (.inl h))
theorem mt_sw1 {a b c d:P2} (h:mt a b c d):mt b a c d:=by
  unfold mt mt0 mt1 at*
  rcases h with ⟨h1,h2⟩|h|h|h|h
  · refine .inl ⟨?_, by rw [Int.mul_comm]; exact h2⟩
    rw [crs_sw a b c,crs_sw a b d,Int.sign_neg,Int.sign_neg,Int.neg_mul_neg];exact h1
  · exact .inr (.inl (onS_sw.1 h))
  · exact .inr (.inr (.inl (onS_sw.1 h)))
  · exact .inr (.inr (.inr (.inr h)))
  · exact .inr (.inr (.inr (.inl h)))
theorem mt_sw {a b c d:P2} (h:mt a b c d):mt b a d c:=mt_sw1 (mt_comm.1 (mt_sw1 (mt_comm.1 h)))
structure Sm (n:Nat) (l:List P2):Prop where
  len:l.length=n
  n3:3≤n
  n64:n≤64
  nd:l.Nodup
  a:∀i,i<n→¬smA n l i
  b:∀i j,i<n→j<n→i≠j→(i+1)%n≠j→(j+1)%n≠i→¬mt (gt l i) (gt l ((i+1)%n)) (gt l j) (gt l ((j+1)%n))
theorem ck1_iff {l:List P2}:∀{s:List P2},ck1 s l=0↔(∀x∈l,inR x)∧l.Nodup∧∀x∈l,x ∉ s:=by
  induction l with
  |nil=>intro s;exact ⟨fun _=>⟨fun x h=>(by cases h),List.nodup_nil,fun x h=>(by cases h)⟩,fun _=>rfl⟩
  |cons a l ih=>
    intro s
    unfold ck1
    by_cases hf:far a=true
    · rw [if_pos hf]
      refine ⟨fun h=>absurd h (by decide),fun h=> ?_⟩
      have:=h.1 a (List.mem_cons_self ..)
      unfold far at hf;simp at hf;exact absurd this hf
    rw [if_neg hf]
    by_cases hd:a∈s
    · rw [if_pos hd]
      exact ⟨fun h=>absurd h (by decide),fun h=>absurd hd (h.2.2 a (List.mem_cons_self ..))⟩
    rw [if_neg hd,ih]
    constructor
    · rintro ⟨h1, h2, h3⟩
      refine ⟨fun x hx=> ?_,List.nodup_cons.2 ⟨fun hm=>h3 a hm (by simp),h2⟩,fun x hx=> ?_⟩
      · rcases List.mem_cons.1 hx with rfl | hx
        · exact far_no hf
        · exact h1 x hx
      · rcases List.mem_cons.1 hx with rfl | hx
        · exact hd
        · exact fun hs=>h3 x hx (by simp [hs])
    · rintro ⟨h1, h2, h3⟩
      obtain ⟨h4,h5⟩:=List.nodup_cons.1 h2
      refine ⟨fun x hx=>h1 x (List.mem_cons_of_mem _ hx),h5,fun x hx hm=> ?_⟩
      rcases List.mem_append.1 hm with hm|hm
      · exact h3 x (List.mem_cons_of_mem _ hx) hm
      · rw [List.mem_singleton] at hm;subst hm;exact h4 hx
theorem Sm.of {l:List P2} (h:ck l=0):Sm l.length l:=by
  have ho:=ok h
  have h1:ck1 [] l=0:=by
    unfold ck at h
    have h3:=ho.n3
    have h64:=ho.n64
    rw [if_neg (by omega)] at h
    by_cases k:ck1 [] l=0
    · exact k
    · rw [if_pos k] at h;exact absurd h k
  refine ⟨rfl,ho.n3,ho.n64,(ck1_iff.1 h1).2.1,fun i hi=>(ho.smp i hi).1,fun i j hi hj hij h4 h5 hm=> ?_⟩
  have h3:=ho.n3
  by_cases k:i<j
  · refine (ho.smp i hi).2 j hj ⟨?_, h5, hm⟩
    rw [Nat.mod_eq_of_lt (by omega)] at h4;omega
  · refine (ho.smp j hj).2 i hi ⟨?_, h4, mt_comm.1 hm⟩
    rw [Nat.mod_eq_of_lt (by omega)] at h5;omega
theorem Sm.ck {n:Nat} {l:List P2} (h:Sm n l) (hr:∀x∈l,inR x):ck l=0:=by
  have hl:=h.len
  have h3:=h.n3
  have h64:=h.n64
  refine ck_ok (by omega) (ck1_iff.2 ⟨hr,h.nd,fun x _ hx=>by cases hx⟩) ((smp_n hl).2 fun i hi=>⟨h.a i hi,fun j hj hb=> ?_⟩)
  refine h.b i j hi hj (by have:=hb.1;omega) ?_ hb.2.1 hb.2.2
  have:=hb.1
  rw [Nat.mod_eq_of_lt (by omega)];omega
structure Turn (n:Nat) (l l':List P2) (t:Nat→Nat) (e:Nat→Nat) (rv:Bool):Prop where
  len:l.length=n
  len':l'.length=n
  pos:0<n
  e_lt:∀i,i<n→e i<n
  e_inj:∀i j,i<n→j<n→e i=e j→i=j
  e_perm:((List.range n).map e).Perm (List.range n)
  nx:∀i j,i<n→j<n→(e i+1)%n=e j→(if rv then (j+1)%n=i else (i+1)%n=j)
  at1:∀i,i<n→(if rv then gt l' i=gt l ((e i+1)%n)∧gt l' ((i+1)%n)=gt l (e i) else gt l' i=gt l (e i)∧gt l' ((i+1)%n)=gt l ((e i+1)%n))
theorem Turn.onE {n:Nat} {l l':List P2} {t e:Nat→Nat} {rv:Bool} (h:Turn n l l' t e rv) {q:P2} {i:Nat} (hi:i<n):onS (gt l' i) (gt l' ((i+1)%n)) q↔onS (gt l (e i)) (gt l ((e i+1)%n)) q:=by
  have h2:=h.at1 i hi
  cases rv
  · simp only [Bool.false_eq_true,if_false] at h2;rw [h2.1,h2.2]
  · simp only [if_true] at h2;rw [h2.1,h2.2];exact onS_sw
theorem Turn.onB {n:Nat} {l l':List P2} {t e:Nat→Nat} {rv:Bool} (h:Turn n l l' t e rv) (q:P2):onB l' q↔onB l q:=by
  have hl:=h.len
  have hl':=h.len'
  unfold Pg.onB
  rw [hl,hl']
  constructor
  · rintro ⟨i, hi, ho⟩
    exact ⟨e i,h.e_lt i hi,(h.onE hi).1 ho⟩
  · rintro ⟨j, hj, ho⟩
    have hm:j∈(List.range n).map e:=h.e_perm.mem_iff.2 (by simpa using hj)
    obtain ⟨i,hi,rfl⟩:=List.mem_map.1 hm
    have hi':i<n:=by simpa using hi
    exact ⟨i,hi',(h.onE hi').2 ho⟩
theorem Turn.mt {n:Nat} {l l':List P2} {t e:Nat→Nat} {rv:Bool} (h:Turn n l l' t e rv) {i j:Nat} (hi:i<n) (hj:j<n) (hm:mt (gt l' i) (gt l' ((i+1)%n)) (gt l' j) (gt l' ((j+1)%n))):Pg.mt (gt l (e i)) (gt l ((e i+1)%n)) (gt l (e j)) (gt l ((e j+1)%n)):=by
  have h2:=h.at1 i hi
  have h3:=h.at1 j hj
  cases rv
  · simp only [Bool.false_eq_true,if_false] at h2 h3;rw [h2.1,h2.2,h3.1,h3.2] at hm;exact hm
  · simp only [if_true] at h2 h3;rw [h2.1,h2.2,h3.1,h3.2] at hm;exact mt_sw hm
theorem Turn.b {n:Nat} {l l':List P2} {t e:Nat→Nat} {rv:Bool} (h:Turn n l l' t e rv) (hs:Sm n l) {i j:Nat} (hi:i<n) (hj:j<n) (hij:i≠j) (h1:(i+1)%n≠j) (h2:(j+1)%n≠i):¬Pg.mt (gt l' i) (gt l' ((i+1)%n)) (gt l' j) (gt l' ((j+1)%n)):=by
  intro hm
  refine hs.b (e i) (e j) (h.e_lt i hi) (h.e_lt j hj) (fun k=>hij (h.e_inj i j hi hj k)) (fun k=> ?_) (fun k=> ?_) (h.mt hi hj hm)
  · have := h.nx i j hi hj k
    cases rv
    · simp only [Bool.false_eq_true,if_false] at this;exact h1 this
    · simp only [if_true] at this;exact h2 this
  · have := h.nx j i hj hi k
    cases rv
    · simp only [Bool.false_eq_true,if_false] at this;exact h2 this
    · simp only [if_true] at this;exact h1 this
theorem gt_rev {l:List P2} {n i:Nat} (hn:l.length=n) (hi:i<n):gt l.reverse i=gt l (n - 1 - i):=by
  unfold gt
  rw [List.getD_eq_getElem?_getD,List.getElem?_reverse (by omega),List.getD_eq_getElem?_getD,hn]
structure Rv (n:Nat) (l X:List P2) (i:Nat):Prop where
  len:X.length=n
  le:2*i≤n+1
  at1:∀m,m<n→gt X m=if m<i∨n≤m+i then gt l (n - 1 - m) else gt l m
theorem Rv.zero {n:Nat} {l:List P2} (hn:l.length=n):Rv n l l 0:=⟨hn,by omega,fun m hm=>by rw [if_neg (by omega)]⟩
theorem gt_set {X:List P2} {i m:Nat} {x:P2} (h:i<X.length):gt (X.set i x) m=if m=i then x else gt X m:=by
  unfold gt
  rw [List.getD_eq_getElem?_getD,List.getElem?_set,List.getD_eq_getElem?_getD]
  by_cases e:i=m
  · subst e;rw [if_pos rfl,if_pos rfl,if_pos h];rfl
  · rw [if_neg e,if_neg (fun k=>e k.symm)]
theorem Rv.step {n i:Nat} {l X:List P2} (h:Rv n l X i) (hi:i<n - 1 - i):Rv n l ((X.set i (gt X (n - 1 - i))).set (n - 1 - i) (gt X i)) (i+1):=by
  have hl:=h.len
  refine ⟨by rw [List.length_set,List.length_set];exact hl,by omega,fun m hm=> ?_⟩
  rw [gt_set (by rw [List.length_set];omega),gt_set (by omega),h.at1 i (by omega),h.at1 (n - 1 - i) (by omega),h.at1 m hm]
  by_cases e1:m=n - 1 - i
  · rw [if_pos e1,if_neg (by omega),if_pos (by omega),show n - 1 - m=i by omega]
  rw [if_neg e1]
  by_cases e2:m=i
  · rw [if_pos e2,if_neg (by omega),if_pos (by omega),e2]
  rw [if_neg e2]
  by_cases e3:m<i∨n≤m+i
  · rw [if_pos e3,if_pos (by omega)]
  · rw [if_neg e3,if_neg (by omega)]
theorem Rv.fin {n i:Nat} {l X:List P2} (h:Rv n l X i) (hn:l.length=n) (hi:n≤2*i+1):X=l.reverse:=by
  have hl:=h.len
  refine Ms.ext_getD (0,0) (by rw [List.length_reverse];omega) fun m hm=> ?_
  have h1:=h.at1 m (by omega)
  have h2:=gt_rev hn (i:=m) (by omega)
  show gt X m=gt l.reverse m
  rw [h1,h2]
  split
  · rfl
  · rw [show n - 1 - m=m by omega]
end Go.Proofs.YtjcpbhlijoigfaaGreat.Pg
namespace Go.Proofs.YtjcpbhlijoigfaaGreat.Pg
set_option linter.unusedVariables false
abbrev E2:=Int×Int
section
variable {α : Type} [DecidableEq α]
theorem nd_len {I:List α}:∀{O:List α},I.Nodup→(∀x∈I,x∈O)→I.length≤O.length:=by
  induction I with
  |nil=>intro O _ _;exact Nat.zero_le _
  |cons a I ih=>
    intro O hn hs
    obtain ⟨h1,h2⟩:=List.nodup_cons.1 hn
    have ha:=hs a (List.mem_cons_self ..)
    have h3:=ih (O:=O.erase a) h2 fun x hx=>(List.mem_erase_of_ne (fun e=>h1 (by subst e;exact hx))).2 (hs x (List.mem_cons_of_mem _ hx))
    rw [List.length_erase_of_mem ha] at h3
    have:=List.length_pos_of_mem ha
    rw [List.length_cons];omega
theorem nd_lt {I O:List α} (hn:I.Nodup) (hs:∀x∈I,x∈O) {a:α} (ha:a∈O) (hi:a ∉ I):I.length<O.length:=by
  have:=nd_len (I:=a :: I) (O:=O) (List.nodup_cons.2 ⟨hi,hn⟩) (fun x hx=>by rcases List.mem_cons.1 hx with rfl|hx;exact ha;exact hs x hx)
  rwa [List.length_cons] at this
end
def edg (x:T3):List E2:=[(x.1,x.2.1),(x.2.1,x.2.2),(x.2.2,x.1)]
def eds (T:List T3):List E2:=T.flatMap edg
def nxi (n:Nat) (a:Int):Int:=(a+1)%(n:Int)
structure Tg (n:Nat) (T:List T3):Prop where
  n3:3≤n
  len:T.length=n - 2
  rng:∀x∈T,(0≤x.1∧x.1<n)∧(0≤x.2.1∧x.2.1<n)∧(0≤x.2.2∧x.2.2<n)
  nd:(eds T).Nodup
  rev:∀e∈eds T,e.2≠nxi n e.1→(e.2,e.1)∈eds T
  bnd:∀a:Int,0≤a→a<n→(a,nxi n a)∈eds T
theorem eds_cons (x:T3) (T:List T3):eds (x :: T)=edg x++eds T:=rfl
theorem nxi_c {n:Nat} {a:Int} (h0:0≤a) (h:a<n):a+1<n∧nxi n a=a+1∨a+1=n∧nxi n a=0:=by
  unfold nxi
  by_cases k:a+1<n
  · exact .inl ⟨k,Int.emod_eq_of_lt (by omega) k⟩
  · refine .inr ⟨by omega, ?_⟩
    rw [show a+1=(n:Int) by omega,Int.emod_self]
theorem Tg.er {n:Nat} {T:List T3} (h:Tg n T) {e:E2} (he:e∈eds T):(0≤e.1∧e.1<n)∧(0≤e.2∧e.2<n):=by
  obtain ⟨x,hx,hm⟩:=List.mem_flatMap.1 he
  obtain ⟨h1,h2,h3⟩:=h.rng x hx
  unfold edg at hm
  rcases List.mem_cons.1 hm with rfl|hm
  · exact ⟨h1,h2⟩
  rcases List.mem_cons.1 hm with rfl|hm
  · exact ⟨h2,h3⟩
  rw [List.mem_singleton] at hm;subst hm
  exact ⟨h3,h1⟩
def outL (T:List T3) (χ:Int→Bool) (v:Int):List Int:=((eds T).filter (fun e=>decide (e.1=v)&&χ e.2)).map (·.2)
def inL (T:List T3) (χ:Int→Bool) (v:Int):List Int:=((eds T).filter (fun e=>decide (e.2=v)&&χ e.1)).map (·.1)
theorem mem_out {T:List T3} {χ:Int→Bool} {v x:Int}:x∈outL T χ v↔(v,x)∈eds T∧χ x=true:=by
  unfold outL
  rw [List.mem_map]
  constructor
  · rintro ⟨e, he, rfl⟩
    obtain ⟨h1,h2⟩:=List.mem_filter.1 he
    simp only [Bool.and_eq_true,decide_eq_true_eq] at h2
    exact ⟨by rw [← h2.1];exact h1,h2.2⟩
  · rintro ⟨h1, h2⟩
    exact ⟨(v,x),List.mem_filter.2 ⟨h1,by simp [h2]⟩,rfl⟩
theorem mem_in {T:List T3} {χ:Int→Bool} {v x:Int}:x∈inL T χ v↔(x,v)∈eds T∧χ x=true:=by
  unfold inL
  rw [List.mem_map]
  constructor
  · rintro ⟨e, he, rfl⟩
    obtain ⟨h1,h2⟩:=List.mem_filter.1 he
    simp only [Bool.and_eq_true,decide_eq_true_eq] at h2
    exact ⟨by rw [← h2.1];exact h1,h2.2⟩
  · rintro ⟨h1, h2⟩
    exact ⟨(x,v),List.mem_filter.2 ⟨h1,by simp [h2]⟩,rfl⟩
theorem nd_map {β γ:Type} {l:List β} {f:β→γ} (hl:l.Nodup) (hf:∀a∈l,∀b∈l,f a=f b→a=b):(l.map f).Nodup:=by
  induction l with
  |nil=>exact List.nodup_nil
  |cons a l ih=>
    obtain ⟨h1,h2⟩:=List.nodup_cons.1 hl
    rw [List.map_cons]
    refine List.nodup_cons.2 ⟨fun hm=> ?_,ih h2 fun x hx y hy=>hf x (List.mem_cons_of_mem _ hx) y (List.mem_cons_of_mem _ hy)⟩
    obtain ⟨b,hb,e⟩:=List.mem_map.1 hm
    exact h1 ((hf b (List.mem_cons_of_mem _ hb) a (List.mem_cons_self ..) e) ▸ hb)
theorem nd_in {T:List T3} {χ:Int→Bool} {v:Int} (h:(eds T).Nodup):(inL T χ v).Nodup:=by
  unfold inL
  refine nd_map (h.filter _) fun a ha b hb e=> ?_
  have h1:=(List.mem_filter.1 ha).2
  have h2:=(List.mem_filter.1 hb).2
  simp only [Bool.and_eq_true,decide_eq_true_eq] at h1 h2
  exact Prod.ext e (h1.1.trans h2.1.symm)
def bal (χ:Int→Bool) (v:Int) (x:T3):Prop:=((edg x).filter (fun e=>decide (e.1=v)&&χ e.2)).length=((edg x).filter (fun e=>decide (e.2=v)&&χ e.1)).length
theorem bal_len {χ:Int→Bool} {v:Int}:∀{T:List T3},(∀x∈T,bal χ v x)→(outL T χ v).length=(inL T χ v).length:=by
  intro T
  unfold outL inL
  rw [List.length_map,List.length_map]
  induction T with
  |nil=>intro _;rfl
  |cons x T ih=>
    intro h
    rw [eds_cons,List.filter_append,List.filter_append,List.length_append,List.length_append,ih fun y hy=>h y (List.mem_cons_of_mem _ hy),h x (List.mem_cons_self ..)]
theorem bal_true {v:Int} (x:T3):bal (fun _=>true) v x:=by
  unfold bal edg
  simp only [Bool.and_true,List.filter_cons,List.filter_nil]
  by_cases a:x.1=v <;> by_cases b:x.2.1=v <;> by_cases c:x.2.2=v <;> simp [a,b,c]
theorem Tg.fan {n:Nat} {T:List T3} (h:Tg n T) {χ:Int→Bool} {u v:Int} (hu:0≤u∧u<n) (e:nxi n u=v) (hb:∀x∈T,bal χ v x) (hc:χ (nxi n v)=true) (hr:(nxi n v,v) ∉ eds T):χ u=true∧(v,u) ∉ eds T:=by
  have hv:0≤v∧v<n:=by have:=nxi_c hu.1 hu.2;omega
  have hl:=bal_len hb
  have ho:nxi n v∈outL T χ v:=mem_out.2 ⟨h.bnd v hv.1 hv.2,hc⟩
  have hi:nxi n v ∉ inL T χ v:=fun k=>hr (mem_in.1 k).1
  refine Decidable.byContradiction fun hk=> ?_
  have hs:∀x∈inL T χ v,x∈outL T χ v:=fun x hx=>by
    obtain ⟨h1,h2⟩:=mem_in.1 hx
    refine mem_out.2 ⟨?_,h2⟩
    by_cases k:v=nxi n x
    · have hx2 := h.er h1
      have hxu:x=u:=by
        have a1:=nxi_c hu.1 hu.2
        have hx3:(0≤x∧x<n):=hx2.1
        have a2:=nxi_c hx3.1 hx3.2
        omega
      subst hxu
      exact Decidable.byContradiction fun hm=>hk ⟨h2,hm⟩
    · exact h.rev _ h1 k
  have:=nd_lt (nd_in h.nd) hs ho hi
  omega
def pe (n:Nat) (e:E2):Bool:=decide (e.2=nxi n e.1)||decide (e.1=nxi n e.2)
theorem pe_two {n:Nat} (h4:4≤n) {x:T3} (hr:(0≤x.1∧x.1<n)∧(0≤x.2.1∧x.2.1<n)∧(0≤x.2.2∧x.2.2<n)):((edg x).filter (pe n)).length≤2:=by
  obtain ⟨h1,h2,h3⟩:=hr
  have a1:=nxi_c h1.1 h1.2
  have a2:=nxi_c h2.1 h2.2
  have a3:=nxi_c h3.1 h3.2
  have hk:¬(pe n (x.1,x.2.1)=true∧pe n (x.2.1,x.2.2)=true∧pe n (x.2.2,x.1)=true):=by
    unfold pe
    simp only [Bool.or_eq_true,decide_eq_true_eq]
    omega
  unfold edg
  simp only [List.filter_cons,List.filter_nil]
  by_cases b1:pe n (x.1,x.2.1)=true <;> by_cases b2:pe n (x.2.1,x.2.2)=true <;> by_cases b3:pe n (x.2.2,x.1)=true <;> simp [b1,b2,b3]
  exact hk ⟨b1,b2,b3⟩
theorem edg_len (x:T3):(edg x).length=3:=rfl
theorem pe_sum {n m:Nat}:∀{T:List T3},(∀x∈T,((edg x).filter (pe n)).length≤m)→((eds T).filter (pe n)).length≤m*T.length:=by
  intro T
  induction T with
  |nil=>intro _;exact Nat.zero_le _
  |cons x T ih=>
    intro h
    have h1:=h x (List.mem_cons_self ..)
    have h2:=ih fun y hy=>h y (List.mem_cons_of_mem _ hy)
    rw [eds_cons,List.filter_append,List.length_append,List.length_cons,Nat.mul_succ];omega
theorem Tg.some_no {n:Nat} {T:List T3} (h:Tg n T):∃v:Int,(0≤v∧v<n)∧(nxi n v,v) ∉ eds T:=by
  refine Classical.byContradiction fun hc=> ?_
  have hall:∀v:Int,0≤v→v<n→(nxi n v,v)∈eds T:=fun v h0 h1=>Decidable.byContradiction fun hm=>hc ⟨v,⟨h0,h1⟩,hm⟩
  have h3:=h.n3
  let F:=(List.range n).map (fun i:Nat=>((i:Int),nxi n (i:Int)))++(List.range n).map (fun i:Nat=>(nxi n (i:Int),(i:Int)))
  have hF:F.length=2*n:=by show (_++_:List E2).length=_;rw [List.length_append,List.length_map,List.length_map,List.length_range];omega
  have hnd:F.Nodup:=by
    refine List.nodup_append.2 ⟨nd_map List.nodup_range fun a _ b _ e=> ?_,nd_map List.nodup_range fun a _ b _ e=> ?_,fun a ha b hb e=> ?_⟩
    · have:=congrArg Prod.fst e;dsimp only at this;omega
    · have:=congrArg Prod.snd e;dsimp only at this;omega
    · obtain ⟨i, hi, e1⟩ := List.mem_map.1 ha
      obtain ⟨j,hj,e2⟩:=List.mem_map.1 hb
      rw [List.mem_range] at hi hj
      have a1:=nxi_c (n:=n) (a:=(i:Int)) (by omega) (by omega)
      have a2:=nxi_c (n:=n) (a:=(j:Int)) (by omega) (by omega)
      rw [← e1,←e2] at e
      have e3:=congrArg Prod.fst e
      have e4:=congrArg Prod.snd e
      dsimp only at e3 e4;omega
  have hsub:∀x∈F,x∈(eds T).filter (pe n):=fun x hx=>by
    rcases List.mem_append.1 hx with hx|hx
    · obtain ⟨i, hi, rfl⟩ := List.mem_map.1 hx
      rw [List.mem_range] at hi
      exact List.mem_filter.2 ⟨h.bnd _ (by omega) (by omega),by unfold pe;simp⟩
    · obtain ⟨i, hi, rfl⟩ := List.mem_map.1 hx
      rw [List.mem_range] at hi
      exact List.mem_filter.2 ⟨hall _ (by omega) (by omega),by unfold pe;simp⟩
  have h1:=nd_len hnd hsub
  rw [hF] at h1
  have hl:=h.len
  by_cases k:4≤n
  · have := pe_sum (n := n) (m := 2) fun x hx => pe_two k (h.rng x hx)
    omega
  · have := pe_sum (n := n) (m := 3) (T := T) fun x hx => Nat.le_trans (List.length_filter_le _ _) (Nat.le_of_eq (edg_len x))
    omega
theorem Tg.down {n:Nat} {T:List T3} (h:Tg n T) {v:Nat} (hv:v<n) (hp:(nxi n (v:Int),(v:Int)) ∉ eds T):∀w:Nat,w≤v→(nxi n (w:Int),(w:Int)) ∉ eds T:=by
  induction v with
  | zero => intro w hw; have e : w = 0 := by omega
            rw [e];exact hp
  |succ v ih=>
    intro w hw
    by_cases e:w=v+1
    · subst e;exact hp
    · refine ih (by omega) ?_ w (by omega)
      have a1:=nxi_c (n:=n) (a:=(v:Int)) (by omega) (by omega)
      have e1:nxi n (v:Int)=((v+1:Nat):Int):=by omega
      have:=(h.fan (χ:=fun _=>true) (u:=(v:Int)) (v:=((v+1:Nat):Int)) (by omega) e1 (fun x _=>bal_true x) rfl hp).2
      rw [e1];exact this
theorem Tg.no {n:Nat} {T:List T3} (h:Tg n T):∀v:Int,0≤v→v<n→(nxi n v,v) ∉ eds T:=by
  have h3:=h.n3
  obtain ⟨v0,⟨a,b⟩,hp⟩:=h.some_no
  obtain ⟨v,rfl⟩:∃v:Nat,v0=(v:Int):=⟨v0.toNat,by omega⟩
  have h0:=h.down (by omega) hp 0 (by omega)
  have a1:=nxi_c (n:=n) (a:=((n - 1:Nat):Int)) (by omega) (by omega)
  have e1:nxi n ((n - 1:Nat):Int)=((0:Nat):Int):=by omega
  have hn:=(h.fan (χ:=fun _=>true) (u:=((n - 1:Nat):Int)) (v:=((0:Nat):Int)) (by omega) e1 (fun x _=>bal_true x) rfl h0).2
  intro w hw hw2
  obtain ⟨k,rfl⟩:∃k:Nat,w=(k:Int):=⟨w.toNat,by omega⟩
  exact h.down (v:=n - 1) (by omega) (by rw [e1];exact hn) k (by omega)
end Go.Proofs.YtjcpbhlijoigfaaGreat.Pg
namespace Go.Proofs.YtjcpbhlijoigfaaGreat.Pg
set_option linter.unusedVariables false
def smE (f:E2→Int):List E2→Int
  |[]=>0
  |e :: L=>f e+smE f L
theorem smE_append (f:E2→Int) (A B:List E2):smE f (A++B)=smE f A+smE f B:=by
  induction A with
  |nil=>simp [smE]
  |cons a A ih=>rw [List.cons_append];simp only [smE];rw [ih];omega
theorem smE_perm {f:E2→Int} {A B:List E2} (h:A.Perm B):smE f A=smE f B:=by
  induction h with
  |nil=>rfl
  |cons a _ ih=>simp only [smE];rw [ih]
  |swap a b l=>simp only [smE];omega
  |trans _ _ h1 h2=>rw [h1,h2]
theorem smE_split (f:E2→Int) (p:E2→Bool) (A:List E2):smE f A=smE f (A.filter p)+smE f (A.filter (fun e=> !p e)):=by
  induction A with
  |nil=>rfl
  |cons a A ih=>
    rw [List.filter_cons,List.filter_cons]
    cases p a
    · simp only [Bool.false_eq_true,if_false,Bool.not_false,if_true,smE];rw [ih];omega
    · simp only [if_true,Bool.not_true,Bool.false_eq_true,if_false,smE];rw [ih];omega
theorem smE_map (f:E2→Int) (g:E2→E2) (A:List E2) (h:∀e∈A,f (g e)= - f e):smE f (A.map g)= - smE f A:=by
  induction A with
  |nil=>rfl
  |cons a A ih=>
    rw [List.map_cons]
    simp only [smE]
    rw [ih fun e he=>h e (List.mem_cons_of_mem _ he),h a (List.mem_cons_self ..)];omega
theorem zLf {A B:List E2} (ha:A.Nodup) (hb:B.Nodup) (h:∀e,e∈A↔e∈B):A.Perm B:=(List.perm_ext_iff_of_nodup ha hb).2 h
def pt (l:List P2) (a:Int):P2:=gt l a.toNat
def fx (l:List P2) (e:E2):Int:=(pt l e.1).1*(pt l e.2).2 - (pt l e.2).1*(pt l e.1).2
def cT (l:List P2) (x:T3):Int:=crs (pt l x.1) (pt l x.2.1) (pt l x.2.2)
theorem cT_edg (l:List P2) (x:T3):smE (fx l) (edg x)=cT l x:=by
  unfold edg cT crs fx
  simp only [smE]
  generalize (pt l x.1)=a
  generalize (pt l x.2.1)=b
  generalize (pt l x.2.2)=c
  grind
def cS (l:List P2):List T3→Int
  |[]=>0
  |x :: T=>cT l x+cS l T
theorem cS_eds (l:List P2):∀T,cS l T=smE (fx l) (eds T)
  |[]=>rfl
  |x :: T=>by rw [eds_cons,smE_append,cT_edg,←cS_eds l T];rfl
theorem db_sum {l:List P2} {n:Nat} (hn:l.length=n):∀i:Nat,i≤n→smE (fx l) ((List.range i).map (fun i:Nat=>((i:Int),nxi n (i:Int))))=dbN n l i
  |0,_=>rfl
  |i+1,hi=>by
    rw [List.range_succ,List.map_append,smE_append,db_sum hn i (by omega)]
    show dbN n l i+(fx l _+0)=dbN n l i+tm n l i
    rw [Int.add_zero]
    have e:(nxi n (i:Int)).toNat=(i+1)%n:=by
      have:=nxi_c (n:=n) (a:=(i:Int)) (by omega) (by omega)
      have:=md_c (x:=i+1) (m:=n) (by omega)
      omega
    unfold fx pt tm
    dsimp only
    rw [e]
    rfl
theorem Tg.area {n:Nat} {T:List T3} {l:List P2} (h:Tg n T) (hn:l.length=n):cS l T=db l:=by
  rw [cS_eds,smE_split _ (fun e=>decide (e.2=nxi n e.1))]
  have h3:=h.n3
  have hR:smE (fx l) ((eds T).filter (fun e=> !decide (e.2=nxi n e.1)))=0:=by
    have hnd:=h.nd.filter (fun e=> !decide (e.2=nxi n e.1))
    have hp:(((eds T).filter (fun e=> !decide (e.2=nxi n e.1))).map (fun e=>(e.2,e.1))).Perm ((eds T).filter (fun e=> !decide (e.2=nxi n e.1))):=by
      have hc:∀e∈(eds T).filter (fun e=> !decide (e.2=nxi n e.1)),(e.2,e.1)∈(eds T).filter (fun e=> !decide (e.2=nxi n e.1)):=fun e he=>by
        obtain ⟨h1,h2⟩:=List.mem_filter.1 he
        have h2':e.2≠nxi n e.1:=by simpa using h2
        have h4:=h.rev e h1 h2'
        have h5:=h.er h1
        refine List.mem_filter.2 ⟨h4,?_⟩
        have:e.1≠nxi n e.2:=fun k=>h.no e.2 h5.2.1 h5.2.2 (by rw [← k];exact h1)
        simpa using this
      refine zLf (nd_map hnd fun a _ b _ e=>Prod.ext (congrArg Prod.snd e) (congrArg Prod.fst e)) hnd fun e=>⟨fun he=> ?_,fun he=> ?_⟩
      · obtain ⟨g, hg, rfl⟩ := List.mem_map.1 he
        exact hc g hg
      · exact List.mem_map.2 ⟨(e.2,e.1),hc e he,rfl⟩
    have h1:=smE_perm (f:=fx l) hp
    have h2:=smE_map (fx l) (fun e:E2=>(e.2,e.1)) ((eds T).filter (fun e=> !decide (e.2=nxi n e.1))) (fun e _=>by unfold fx;dsimp only;omega)
    have key:∀z w:Int,z=w→w= -z→z=0:=fun z w a b=>by omega
    exact key _ _ h1.symm h2
  have hB:smE (fx l) ((eds T).filter (fun e=>decide (e.2=nxi n e.1)))=dbN n l n:=by
    rw [← db_sum hn n (Nat.le_refl _)]
    refine smE_perm (zLf (h.nd.filter _) (nd_map List.nodup_range fun a _ b _ e=>by have:=congrArg Prod.fst e;dsimp only at this;omega) fun e=>⟨fun he=> ?_,fun he=> ?_⟩)
    · obtain ⟨h1, h2⟩ := List.mem_filter.1 he
      have h2':e.2=nxi n e.1:=by simpa using h2
      have h5:=h.er h1
      refine List.mem_map.2 ⟨e.1.toNat,List.mem_range.2 (by omega),?_⟩
      have e1:((e.1.toNat:Nat):Int)=e.1:=by omega
      rw [e1];exact Prod.ext rfl h2'.symm
    · obtain ⟨i, hi, rfl⟩ := List.mem_map.1 he
      rw [List.mem_range] at hi
      exact List.mem_filter.2 ⟨h.bnd _ (by omega) (by omega),by simp⟩
  rw [hR,hB,Int.add_zero,db,hn]
theorem crs_cyc (a b c:P2):crs a b c=crs b c a:=by unfold crs;grind
theorem crs_swap (a b c:P2):crs a b c= - crs a c b:=by unfold crs;grind
theorem line_go {v w b c:P2} (hbc:crs v b c=0) (hb:b≠v) (h:crs v w b=0):crs v w c=0:=by
  unfold crs at*
  generalize hB1:b.1 - v.1=B1 at*
  generalize hB2:b.2 - v.2=B2 at*
  generalize c.1 - v.1=C1 at*
  generalize c.2 - v.2=C2 at*
  generalize w.1 - v.1=W1 at*
  generalize w.2 - v.2=W2 at*
  have e1:B1*(W1*C2 - W2*C1)=0:=by
    have:B1*(W1*C2 - W2*C1)=C1*(W1*B2 - W2*B1)+W1*(B1*C2 - B2*C1):=by grind
    rw [this,h,hbc];simp
  have e2:B2*(W1*C2 - W2*C1)=0:=by
    have:B2*(W1*C2 - W2*C1)=C2*(W1*B2 - W2*B1)+W2*(B1*C2 - B2*C1):=by grind
    rw [this,h,hbc];simp
  rcases Int.mul_eq_zero.1 e1 with k|k
  · rcases Int.mul_eq_zero.1 e2 with k2 | k2
    · exact absurd (Prod.ext (by omega) (by omega)) hb
    · exact k2
  · exact k
theorem line_iff {v w b c:P2} (hbc:crs v b c=0) (hb:b≠v) (hc:c≠v):crs v w b=0↔crs v w c=0:=
  ⟨line_go hbc hb,line_go (by rw [crs_swap];omega) hc⟩
def lnB (l:List P2) (v w:P2) (x:Int):Bool:=decide (crs v w (pt l x)=0)
theorem bal_line {l:List P2} {n:Nat} (hn:l.length=n) (hd:l.Nodup) {v:Int} (hv:0≤v∧v<n) (w:P2) {x:T3} (hr:(0≤x.1∧x.1<n)∧(0≤x.2.1∧x.2.1<n)∧(0≤x.2.2∧x.2.2<n)) (hc:cT l x=0):bal (lnB l (pt l v) w) v x:=by
  obtain ⟨a,b,c⟩:=x
  obtain ⟨h1,h2,h3⟩:=hr
  dsimp only at h1 h2 h3
  have inj:∀y:Int,0≤y∧y<n→y≠v→pt l y≠pt l v:=fun y hy hne he=>by
    unfold pt gt at he
    rw [List.getD_eq_getElem?_getD,List.getD_eq_getElem?_getD,List.getElem?_eq_getElem (by omega),List.getElem?_eq_getElem (by omega)] at he
    have he2:l[y.toNat]'(by omega)=l[v.toNat]'(by omega):=he
    have hp:=List.pairwise_iff_getElem.1 hd
    rcases Nat.lt_trichotomy y.toNat v.toNat with k|k|k
    · exact hp _ _ (by omega) (by omega) k he2
    · omega
    · exact hp _ _ (by omega) (by omega) k he2.symm
  have hc0:crs (pt l a) (pt l b) (pt l c)=0:=hc
  have hc1:crs (pt l b) (pt l c) (pt l a)=0:=by rw [← crs_cyc];exact hc0
  have hc2:crs (pt l c) (pt l a) (pt l b)=0:=by rw [← crs_cyc];exact hc1
  unfold bal edg lnB
  simp only [List.filter_cons,List.filter_nil]
  by_cases ea:a=v <;> by_cases eb:b=v <;> by_cases ec:c=v
  · simp [ea,eb,ec]
  · subst ea;subst eb;simp [ec] <;> (repeat' split) <;> rfl
  · subst ea;subst ec;simp [eb] <;> (repeat' split) <;> rfl
  · subst ea
    have:=line_iff (w:=w) hc0 (inj b h2 eb) (inj c h3 ec)
    simp [eb,ec,this];split <;> rfl
  · subst eb;subst ec;simp [ea] <;> (repeat' split) <;> rfl
  · subst eb
    have:=line_iff (w:=w) hc1 (inj c h3 ec) (inj a h1 ea)
    simp [ea,ec,this];split <;> rfl
  · subst ec
    have:=line_iff (w:=w) hc2 (inj a h1 ea) (inj b h2 eb)
    simp [ea,eb,this];split <;> rfl
  · simp [ea,eb,ec]
theorem Tg.line {n:Nat} {T:List T3} {l:List P2} (h:Tg n T) (hn:l.length=n) (hd:l.Nodup) (hz:∀x∈T,cT l x=0) {u:Int} (hu:0≤u∧u<n):crs (pt l (nxi n u)) (pt l (nxi n (nxi n u))) (pt l u)=0:=by
  have h3:=h.n3
  have hv:0≤nxi n u∧nxi n u<n:=by have:=nxi_c hu.1 hu.2;omega
  have:=(h.fan (χ:=lnB l (pt l (nxi n u)) (pt l (nxi n (nxi n u)))) hu rfl (fun x hx=>bal_line hn hd hv _ (h.rng x hx) (hz x hx)) (by unfold lnB crs;simp;grind) (h.no _ hv.1 hv.2)).1
  unfold lnB at this
  simpa using this
def lx (p q:P2):Prop:=p.1<q.1∨p.1=q.1∧p.2<q.2
theorem lx_tri (p q:P2):lx p q∨p=q∨lx q p:=by
  unfold lx
  by_cases h:p=q
  · exact .inr (.inl h)
  · have : ¬ (p.1 = q.1 ∧ p.2 = q.2) := fun k => h (Prod.ext k.1 k.2)
    omega
theorem lx_trans {p q r:P2} (h:lx p q) (k:lx q r):lx p r:=by unfold lx at *;omega
theorem mid {a b c:P2} (hc:crs a c b=0) (h1:lx a b∨a=b) (h2:lx b c):betw a c b:=by
  have e1:a.1≤b.1:=by rcases h1 with h1|h1;unfold lx at h1;omega;subst h1;omega
  have e2:b.1≤c.1:=by unfold lx at h2;omega
  by_cases k:a.1=c.1
  · have e3 : a.2 ≤ b.2 := by rcases h1 with h1 | h1; unfold lx at h1; omega; subst h1; omega
    have e4:b.2<c.2:=by unfold lx at h2;omega
    unfold betw;omega
  · unfold crs at hc
    have hD:0<c.1 - a.1:=by omega
    have h3:(c.1 - a.1)*(b.2 - a.2)=(c.2 - a.2)*(b.1 - a.1):=by omega
    have ht0:0≤b.1 - a.1:=by omega
    have ht1:b.1 - a.1≤c.1 - a.1:=by omega
    by_cases y:0≤c.2 - a.2
    · have h4 := Int.mul_nonneg y ht0
      have h5:=Int.mul_le_mul_of_nonneg_left ht1 y
      have h6:0≤b.2 - a.2:=Int.le_of_mul_le_mul_left (a:=c.1 - a.1) (by rw [Int.mul_zero,h3];exact h4) hD
      have h7:b.2 - a.2≤c.2 - a.2:=Int.le_of_mul_le_mul_left (a:=c.1 - a.1) (by rw [h3,Int.mul_comm (c.1 - a.1)];exact h5) hD
      unfold betw;omega
    · have y' : 0 ≤ a.2 - c.2 := by omega
      have h4:=Int.mul_nonneg y' ht0
      have h5:=Int.mul_le_mul_of_nonneg_left ht1 y'
      have e5:(a.2 - c.2)*(b.1 - a.1)=(c.1 - a.1)*(a.2 - b.2):=by grind
      have h6:0≤a.2 - b.2:=Int.le_of_mul_le_mul_left (a:=c.1 - a.1) (by rw [Int.mul_zero,←e5];exact h4) hD
      have h7:a.2 - b.2≤a.2 - c.2:=Int.le_of_mul_le_mul_left (a:=c.1 - a.1) (by rw [← e5,Int.mul_comm (c.1 - a.1)];exact h5) hD
      unfold betw;omega
theorem corner {u v w:P2} (hc:crs v w u=0) (h1:lx u v) (h2:lx w v):onS u v w∨onS v w u:=by
  rcases lx_tri u w with k|k|k
  · exact .inl ⟨by rw [crs_cyc];exact hc,mid (by rw [crs_cyc];exact hc) (.inl k) h2⟩
  · exact .inl ⟨by rw [crs_cyc];exact hc,mid (by rw [crs_cyc];exact hc) (.inr k) h2⟩
  · exact .inr ⟨hc,betw_sw.1 (mid (by rw [crs_sw];omega) (.inl k) h1)⟩
theorem greatest {l:List P2} {n:Nat} (h0:0<n):∀i,i<n→∃m,m≤i∧∀j,j≤i→gt l j=gt l m∨lx (gt l j) (gt l m)
  |0,_=>⟨0,Nat.le_refl _,fun j hj=>by rw [show j=0 by omega];exact .inl rfl⟩
  |i+1,hi=>by
    obtain ⟨m,hm,h⟩:=greatest (l:=l) h0 i (by omega)
    rcases lx_tri (gt l (i+1)) (gt l m) with k|k|k
    · refine ⟨m, by omega, fun j hj => ?_⟩
      by_cases e:j=i+1
      · subst e;exact .inr k
      · exact h j (by omega)
    · refine ⟨m, by omega, fun j hj => ?_⟩
      by_cases e:j=i+1
      · subst e;exact .inl k
      · exact h j (by omega)
    · refine ⟨i + 1, by omega, fun j hj => ?_⟩
      by_cases e:j=i+1
      · subst e;exact .inl rfl
      · rcases h j (by omega) with q | q
        · rw [q];exact .inr k
        · exact .inr (lx_trans q k)
theorem Sm.inj {n:Nat} {l:List P2} (h:Sm n l) {i j:Nat} (hi:i<n) (hj:j<n) (e:gt l i=gt l j):i=j:=by
  have hl:=h.len
  unfold gt at e
  rw [List.getD_eq_getElem?_getD,List.getD_eq_getElem?_getD,List.getElem?_eq_getElem (by omega),List.getElem?_eq_getElem (by omega)] at e
  have he2:l[i]'(by omega)=l[j]'(by omega):=e
  have hp:=List.pairwise_iff_getElem.1 h.nd
  rcases Nat.lt_trichotomy i j with k|k|k
  · exact absurd he2 (hp _ _ (by omega) (by omega) k)
  · exact k
  · exact absurd he2.symm (hp _ _ (by omega) (by omega) k)
theorem Sm.bent {n:Nat} {l:List P2} (h:Sm n l) (hz:∀u,u<n→crs (gt l ((u+1)%n)) (gt l ((u+2)%n)) (gt l u)=0):False:=by
  have h3:=h.n3
  obtain ⟨m,hm,hg⟩:=greatest (l:=l) (n:=n) (by omega) (n - 1) (by omega)
  have h1:=md_c (x:=m+n - 1) (m:=n) (by omega)
  have h2:=md_c (x:=(m+n - 1)%n+1) (m:=n) (by omega)
  have h4:=md_c (x:=(m+n - 1)%n+2) (m:=n) (by omega)
  have hu:(m+n - 1)%n<n:=Nat.mod_lt _ (by omega)
  have hw:((m+n - 1)%n+2)%n<n:=Nat.mod_lt _ (by omega)
  have e1:((m+n - 1)%n+1)%n=m:=by omega
  refine h.a _ hu ?_
  unfold smA
  have hc:=hz _ hu
  rw [e1] at hc ⊢
  refine corner hc ?_ ?_
  · rcases hg _ (show (m + n - 1) % n ≤ n - 1 by omega) with k | k
    · have:=h.inj hu (by omega) k;omega
    · exact k
  · rcases hg _ (show ((m + n - 1) % n + 2) % n ≤ n - 1 by omega) with k | k
    · have:=h.inj hw (by omega) k;omega
    · exact k
end Go.Proofs.YtjcpbhlijoigfaaGreat.Pg
namespace Go.Proofs.YtjcpbhlijoigfaaGreat.Pg
set_option linter.unusedVariables false
def inT (n:Nat) (x:T3):Prop:=(0≤x.1∧x.1<n)∧(0≤x.2.1∧x.2.1<n)∧(0≤x.2.2∧x.2.2<n)
instance (n:Nat) (x:T3):Decidable (inT n x):=inferInstanceAs (Decidable (_∧_))
def acP (n:Nat) (l:List P2) (T:List T3):Prop:=(T.length:Int)=n - 2∧(∀x∈T,inT n x∧0<sg l*(cT l x).sign)∧(eds T).Nodup∧(∀e∈eds T,e.2≠nxi n e.1→(e.2,e.1)∈eds T)∧∀i:Nat,i<n→((i:Int),nxi n (i:Int))∈eds T
def tms (T:List T3) (a b:Int):Nat:=(eds T).count (a,b)
def acR (n:Nat) (l:List P2) (T:List T3):Prop:=(T.length:Int)=n - 2∧(∀x∈T,inT n x∧(cT l x).sign=(db l).sign)∧(∀e∈eds T,tms T e.1 e.2=1∧(e.2=nxi n e.1∨tms T e.2 e.1=1))∧∀i:Nat,i<n→tms T (i:Int) (nxi n (i:Int))=1
theorem acP_tg {n:Nat} {l:List P2} {T:List T3} (h3:3≤n) (h:acP n l T):Tg n T:=by
  obtain ⟨h1,h2,h4,h5,h6⟩:=h
  refine ⟨h3,by omega,fun x hx=>(h2 x hx).1,h4,h5,fun a a0 an=> ?_⟩
  have:=h6 a.toNat (by omega)
  rwa [show ((a.toNat:Nat):Int)=a by omega] at this
theorem cnt_mem {T:List T3} {a b:Int} (h:tms T a b=1):(a,b)∈eds T:=by
  unfold tms at h
  exact List.count_pos_iff.1 (by omega)
theorem acR_tg {n:Nat} {l:List P2} {T:List T3} (h3:3≤n) (h:acR n l T):Tg n T:=by
  obtain ⟨h1,h2,h4,h6⟩:=h
  refine ⟨h3,by omega,fun x hx=>(h2 x hx).1,List.nodup_iff_count.2 fun e=> ?_,fun e he hn=> ?_,fun a a0 an=> ?_⟩
  · by_cases k : e ∈ eds T
    · exact Nat.le_of_eq (h4 e k).1
    · rw [List.count_eq_zero_of_not_mem k];omega
  · rcases (h4 e he).2 with k | k
    · exact absurd k hn
    · exact cnt_mem k
  · have := cnt_mem (h6 a.toNat (by omega))
    rwa [show ((a.toNat:Nat):Int)=a by omega] at this
theorem Tg.cnt {n:Nat} {T:List T3} (h:Tg n T) {a b:Int} (hm:(a,b)∈eds T):tms T a b=1:=by
  have h1:=List.nodup_iff_count.1 h.nd (a,b)
  have h2:=List.count_pos_iff.2 hm
  unfold tms;omega
theorem cS_pos {l:List P2}:∀{T:List T3},(∀x∈T,0<cT l x)→0≤cS l T∧(T≠[]→0<cS l T)
  |[],_=>⟨Int.le_refl _,fun h=>absurd rfl h⟩
  |x :: T,h=>by
    have h1:=h x (List.mem_cons_self ..)
    have h2:=(cS_pos (T:=T) fun y hy=>h y (List.mem_cons_of_mem _ hy)).1
    exact ⟨by unfold cS;omega,fun _=>by unfold cS;omega⟩
theorem ac_iff {n:Nat} {l:List P2} {T:List T3} (hk:ck l=0) (hn:l.length=n):acP n l T↔acR n l T:=by
  have hs:=Sm.of hk
  rw [hn] at hs
  have h3:=hs.n3
  constructor
  · intro h
    have ht:=acP_tg h3 h
    obtain ⟨h1,h2,h4,h5,h6⟩:=h
    have hne:T≠[]:=fun e=>by subst e;simp at h1;omega
    have ha:=ht.area hn
    refine ⟨h1,fun x hx=>⟨(h2 x hx).1,?_⟩,fun e he=>⟨ht.cnt he,?_⟩,fun i hi=>ht.cnt (h6 i hi)⟩
    · have hx2 := (h2 x hx).2
      by_cases hd:db l<0
      · rw [sg_neg hd] at hx2
        have:(cT l x).sign<0:=by omega
        rw [Int.sign_eq_neg_one_of_neg hd,Int.sign_eq_neg_one_of_neg (Int.sign_neg_iff.1 this)]
      · rw [sg_pos hd] at hx2
        have hp:∀y∈T,0<cT l y:=fun y hy=>by
          have:=(h2 y hy).2
          rw [sg_pos hd] at this
          exact Int.sign_pos_iff.1 (by omega)
        have:=(cS_pos hp).2 hne
        rw [ha] at this
        rw [Int.sign_eq_one_of_pos this,Int.sign_eq_one_of_pos (hp x hx)]
    · by_cases k : e.2 = nxi n e.1
      · exact .inl k
      · exact .inr (ht.cnt (h5 e he k))
  · intro h
    have ht:=acR_tg h3 h
    obtain ⟨h1,h2,h4,h6⟩:=h
    refine ⟨h1,fun x hx=>⟨(h2 x hx).1,?_⟩,ht.nd,ht.rev,fun i hi=>cnt_mem (h6 i hi)⟩
    have hx2:=(h2 x hx).2
    rcases Int.lt_trichotomy (db l) 0 with hd|hd|hd
    · rw [sg_neg hd,hx2,Int.sign_eq_neg_one_of_neg hd];decide
    · exfalso
      refine hs.bent fun u hu=> ?_
      have hz:∀y∈T,cT l y=0:=fun y hy=>by
        have:=(h2 y hy).2
        rw [hd,Int.sign_zero] at this
        exact Int.sign_eq_zero_iff_zero.1 this
      have hl:=ht.line hn hs.nd hz (u:=(u:Int)) (by omega)
      have a1:=nxi_c (n:=n) (a:=(u:Int)) (by omega) (by omega)
      have a2:=nxi_c (n:=n) (a:=nxi n (u:Int)) (by omega) (by omega)
      have b1:=md_c (x:=u+1) (m:=n) (by omega)
      have b2:=md_c (x:=u+2) (m:=n) (by omega)
      unfold pt at hl
      rw [show (nxi n (u:Int)).toNat=(u+1)%n by omega,show (nxi n (nxi n (u:Int))).toNat=(u+2)%n by omega,show ((u:Int)).toNat=u by omega] at hl
      exact hl
    · rw [sg_pos (by omega),hx2,Int.sign_eq_one_of_pos hd];decide
def t1 (p q a b:Int):Nat:=if p=a∧q=b then 1 else 0
theorem t1_yes {p q a b:Int} (h:p=a∧q=b):t1 p q a b=1:=if_pos h
theorem t1_no {p q a b:Int} (h:¬(p=a∧q=b)):t1 p q a b=0:=if_neg h
theorem tms_step {T:List T3} {i:Nat} {a b:Int} (h:i<T.length):tms (T.take (i+1)) a b=tms (T.take i) a b+t1 (T.getD i (0,0,0)).1 (T.getD i (0,0,0)).2.1 a b+t1 (T.getD i (0,0,0)).2.1 (T.getD i (0,0,0)).2.2 a b+t1 (T.getD i (0,0,0)).2.2 (T.getD i (0,0,0)).1 a b:=by
  rw [Ms.take_snoc (0,0,0) h]
  unfold tms eds
  rw [List.flatMap_append,List.count_append]
  generalize T.getD i (0,0,0)=x
  simp only [List.flatMap_cons,List.flatMap_nil,List.append_nil,edg,List.count_cons,List.count_nil,t1]
  simp only [beq_iff_eq,Prod.mk.injEq]
  omega
theorem tms_le {T:List T3} {a b:Int}:tms T a b≤3*T.length:=by
  unfold tms
  have h1:=List.count_le_length (a:=(a,b)) (l:=eds T)
  have h2:(eds T).length=3*T.length:=by
    induction T with
    |nil=>rfl
    |cons x T ih=>rw [eds_cons,List.length_append,ih (List.count_le_length ..),edg_len,List.length_cons];omega
  omega
instance (n:Nat) (l:List P2) (T:List T3):Decidable (acR n l T):=inferInstanceAs (Decidable (_∧_))
instance (n:Nat) (l:List P2) (T:List T3):Decidable (acP n l T):=inferInstanceAs (Decidable (_∧_))
theorem nxi_nat (n i:Nat):nxi n (i:Int)=(((i+1)%n:Nat):Int):=by unfold nxi;rw [Int.natCast_emod];rfl
def okE (n:Nat) (T:List T3) (e:E2):Prop:=tms T e.1 e.2=1∧(e.2=nxi n e.1∨tms T e.2 e.1=1)
def okX (n:Nat) (l:List P2) (x:T3):Prop:=inT n x∧(cT l x).sign=(db l).sign
theorem acR_n {n m:Nat} {l:List P2} {T:List T3} (hm:T.length=m):acR n l T↔(m:Int)=n - 2∧(∀j,j<m→okX n l (T.getD j (0,0,0)))∧(∀j,j<m→∀e∈edg (T.getD j (0,0,0)),okE n T e)∧∀i:Nat,i<n→tms T (i:Int) (((i+1)%n:Nat):Int)=1:=by
  subst hm
  unfold acR
  constructor
  · rintro ⟨h1, h2, h3, h4⟩
    refine ⟨h1,fun j hj=>h2 _ (Ms.getD_mem (0,0,0) hj),fun j hj e he=>h3 e (List.mem_flatMap.2 ⟨_,Ms.getD_mem (0,0,0) hj,he⟩),fun i hi=>by rw [← nxi_nat];exact h4 i hi⟩
  · rintro ⟨h1, h2, h3, h4⟩
    refine ⟨h1,fun x hx=> ?_,fun e he=> ?_,fun i hi=>by rw [nxi_nat];exact h4 i hi⟩
    · obtain ⟨j, hj, rfl⟩ := Ms.mem_getD (0, 0, 0) hx
      exact h2 j hj
    · obtain ⟨x, hx, hm⟩ := List.mem_flatMap.1 he
      obtain ⟨j,hj,rfl⟩:=Ms.mem_getD (0,0,0) hx
      exact h3 j hj e hm
end Go.Proofs.YtjcpbhlijoigfaaGreat.Pg
namespace Go.Proofs.YtjcpbhlijoigfaaGreat.Sp
open Go
set_option linter.unusedVariables false
set_option maxRecDepth 100000
set_option maxHeartbeats 8000000
theorem zGb {pt:Option Addr} {nt:Nat} {ct:Nat} {T:List Pg.T3} {ea:Int} {eb:Int} (hnt:T.length=nt) (hb:nt≤1000000):Con yj 80 [.slice pt nt ct,.int .i64 ea,.int .i64 eb] [] [slF (rI3 .i64) pt ct T] (Y:=Unit) (fun y=>True) (fun y=> .int .i64 (((Pg.tms T ea eb):Nat):Int)) (fun y=>[]) (fun y=>[]):=by
 refine zp Tryz.func80 rfl rfl rfl (fun c=> ?_)
 show RunC _ _ _ _ _ [(0,.slice pt nt ct),(1,.int .i64 ea),(2,.int .i64 eb)] [] [slF (rI3 .i64) pt ct T]
 refine zfa 0 rfl (fun hL0=> ?_)
 refine ze<|za<|e_p (zb rfl)<|zh<|zd<|ze<|za<|e_p (zb rfl)<|zh<|zd<|ze<|ze<|za<|e_p (zb rfl)<|zh<|zd<|zv<|zma (X:=Nat) (fun x:Nat=>x≤nt) (fun x=>[(7,.int .i64 (((Pg.tms (T.take x) ea eb):Nat):Int)),(8,.int .i64 ((x:Nat):Int)),(6,.int .i64 0),(0,.slice pt nt ct),(1,.int .i64 ea),(2,.int .i64 eb)]) (fun x=>[]) (fun x=>[slF (rI3 .i64) pt ct T]) (fun x:Nat=>nt - x) 0 (show 0≤nt from by exact Nat.zero_le _) ((.e rfl (by first|rfl|(congr 1;omega)|simp_all) (.e rfl (by first|rfl|(congr 1;omega)|simp_all) (.of rfl))):SubM _ _) (ho:=(.n:PickO _ _ _)) ((.c (j:=0) rfl .n):SelR _ _ _) ?_
 rintro i hI
 replace hI:i≤nt:=hI
 try dsimp only
 refine ze<|ze<|za<|e_mv rfl<|e_mv rfl<|e_p (zQ yd rfl)<|e_p (zR rfl rfl)<|zh<|zd<|zB rfl (fun h1=> ?_) (fun h1=> ?_)
 ·
  have htl:=Pg.tms_le (T:=T.take i) (a:=ea) (b:=eb)
  rw [List.length_take] at htl
  refine zt<|zd<|ze<|zv<|ze<|za<|e_p (zb rfl)<|zh<|zd<|zv<|zvc<|zpa<|ze<|ze<|za<|e_mv rfl<|e_p (zR rfl rfl)<|zh<|zd<|zva rfl rfl<|zt<|zd<|ze<|zv<|zAa (X:=Unit) (fun x=>True) (fun x=>[(39,.bool (decide (((T.getD i (0,0,0)).1=ea)∧((T.getD i (0,0,0)).2.1=eb)))),(17,.bool true),(16,.int .i64 0),(9,.int .i64 0),(7,.int .i64 (((Pg.tms (T.take i) ea eb):Nat):Int)),(8,.int .i64 ((i:Nat):Int)),(6,.int .i64 0),(0,.slice pt nt ct),(1,.int .i64 ea),(2,.int .i64 eb)]) (fun x=>[]) (fun x=>[slF (rI3 .i64) pt ct T]) ?_ ?_
  ·
   refine za<|e_mv rfl<|e_mv rfl<|e_mv rfl<|zI (x0:=(T.getD i (0,0,0))) 0 i rfl yd sz50 rfl rfl rfl cbs rfl rfl (gD (d:=(0,0,0)) om) (fun b2 o3 hok4=> ?_)
   obtain ⟨hok4x,hok4y,hok4z⟩:=hok4
   replace hok4x:=zm.1 hok4x
   replace hok4y:=zm.1 hok4y
   replace hok4z:=zm.1 hok4z
   refine e_p (zy (i:=0) ye sz3 rfl rfl dd rfl)<|e_ru (zl (j:=0) 0 ty3 rfl rfl rfl rfl)<|e_mv rfl<|e_p (zsa rfl rfl)<|zS rfl rfl (zT rfl) (fun h5=> ?_) (fun h5=> ?_)
   ·
    refine e_mv rfl<|e_mv rfl<|e_mv rfl<|e_p (zw (z:=1) rfl rfl (w64 dd))<|e_p (zoa (z:=1) rfl rfl dd dd)<|zI (x0:=(T.getD i (0,0,0))) 1 i rfl yd sz50 rfl rfl rfl cbs rfl rfl (gD (d:=(0,0,0)) om) (fun b6 o7 hok8=> ?_)
    obtain ⟨hok8x,hok8y,hok8z⟩:=hok8
    replace hok8x:=zm.1 hok8x
    replace hok8y:=zm.1 hok8y
    replace hok8z:=zm.1 hok8z
    refine e_p (zy (i:=1) ye sz3 rfl rfl dd rfl)<|e_ru (zl (j:=1) 0 ty3 rfl rfl rfl rfl)<|e_mv rfl<|e_p (zsa rfl rfl)<|e_p (zo rfl rfl)<|zh ?_
    exact zY () (show True from by first|trivial|omega|simp_all) ((.e rfl (congrArg Value.bool cbu) (.of rfl)):SubM _ _) (ho:=(.n:PickO _ _ _)) ((.c (j:=2) rfl .n):SelR _ _ _)
   ·
    refine e_no<|e_no<|e_no<|e_no<|e_no<|e_no<|e_no<|e_no<|e_no<|e_no<|e_p (zo rfl rfl)<|zh ?_
    exact zY () (show True from by first|trivial|omega|simp_all) ((.e rfl (congrArg Value.bool cbu) (.of rfl)):SubM _ _) (ho:=(.n:PickO _ _ _)) ((.c (j:=1) rfl .n):SelR _ _ _)
  ·
   rintro ⟨⟩ -
   try dsimp only
   refine zB rfl (fun hx=> ?_) (fun hx=> ?_)
   ·
    have hx0:=hx
    refine za<|e_mv rfl<|e_p (zw (z:=((((Pg.tms (T.take i) ea eb)+1):Nat):Int)) rfl rfl (w64 om))<|e_p (zb rfl)<|zh<|zK<|zd<|za<|e_mv rfl<|e_p (zw (z:=1) rfl rfl (w64 dd))<|e_p (zb rfl)<|zh<|zxa<|zpa<|ze<|ze<|za<|e_mv rfl<|e_p (zR rfl rfl)<|zh<|zd<|zva rfl rfl<|zt<|zd<|ze<|zv<|zAa (X:=Unit) (fun x=>True) (fun x=>[(39,.bool (decide (((T.getD i (0,0,0)).2.1=ea)∧((T.getD i (0,0,0)).2.2=eb)))),(17,.bool true),(16,.int .i64 1),(9,.int .i64 1),(19,.int .i64 1),(18,.int .i64 0),(7,.int .i64 ((((Pg.tms (T.take i) ea eb)+1):Nat):Int)),(41,.int .i64 ((((Pg.tms (T.take i) ea eb)+1):Nat):Int)),(40,.int .i64 (((Pg.tms (T.take i) ea eb):Nat):Int)),(8,.int .i64 ((i:Nat):Int)),(6,.int .i64 0),(0,.slice pt nt ct),(1,.int .i64 ea),(2,.int .i64 eb)]) (fun x=>[]) (fun x=>[slF (rI3 .i64) pt ct T]) ?_ ?_
    ·
     refine za<|e_mv rfl<|e_mv rfl<|e_mv rfl<|zI (x0:=(T.getD i (0,0,0))) 0 i rfl yd sz50 rfl rfl rfl cbs rfl rfl (gD (d:=(0,0,0)) om) (fun b9 o10 hok11=> ?_)
     obtain ⟨hok11x,hok11y,hok11z⟩:=hok11
     replace hok11x:=zm.1 hok11x
     replace hok11y:=zm.1 hok11y
     replace hok11z:=zm.1 hok11z
     refine e_p (zy (i:=1) ye sz3 rfl rfl dd rfl)<|e_ru (zl (j:=1) 0 ty3 rfl rfl rfl rfl)<|e_mv rfl<|e_p (zsa rfl rfl)<|zS rfl rfl (zT rfl) (fun h12=> ?_) (fun h12=> ?_)
     ·
      refine e_mv rfl<|e_mv rfl<|e_mv rfl<|e_p (zw (z:=2) rfl rfl (w64 dd))<|e_p (zoa (z:=2) rfl rfl dd dd)<|zI (x0:=(T.getD i (0,0,0))) 1 i rfl yd sz50 rfl rfl rfl cbs rfl rfl (gD (d:=(0,0,0)) om) (fun b13 o14 hok15=> ?_)
      obtain ⟨hok15x,hok15y,hok15z⟩:=hok15
      replace hok15x:=zm.1 hok15x
      replace hok15y:=zm.1 hok15y
      replace hok15z:=zm.1 hok15z
      refine e_p (zy (i:=2) ye sz3 rfl rfl dd rfl)<|e_ru (zl (j:=2) 0 ty3 rfl rfl rfl rfl)<|e_mv rfl<|e_p (zsa rfl rfl)<|e_p (zo rfl rfl)<|zh ?_
      exact zY () (show True from by first|trivial|omega|simp_all) ((.e rfl (congrArg Value.bool cbu) (.of rfl)):SubM _ _) (ho:=(.n:PickO _ _ _)) ((.c (j:=2) rfl .n):SelR _ _ _)
     ·
      refine e_no<|e_no<|e_no<|e_no<|e_no<|e_no<|e_no<|e_no<|e_no<|e_no<|e_p (zo rfl rfl)<|zh ?_
      exact zY () (show True from by first|trivial|omega|simp_all) ((.e rfl (congrArg Value.bool cbu) (.of rfl)):SubM _ _) (ho:=(.n:PickO _ _ _)) ((.c (j:=1) rfl .n):SelR _ _ _)
    ·
     rintro ⟨⟩ -
     try dsimp only
     refine zB rfl (fun hx=> ?_) (fun hx=> ?_)
     ·
      have hx1:=hx
      refine za<|e_mv rfl<|e_p (zw (z:=(((((Pg.tms (T.take i) ea eb)+1)+1):Nat):Int)) rfl rfl (w64 om))<|e_p (zb rfl)<|zh<|zK<|zd<|za<|e_mv rfl<|e_p (zw (z:=2) rfl rfl (w64 dd))<|e_p (zb rfl)<|zh<|zxa<|zpa<|ze<|ze<|za<|e_mv rfl<|e_p (zR rfl rfl)<|zh<|zd<|zva rfl rfl<|zt<|zd<|ze<|zv<|zAa (X:=Unit) (fun x=>True) (fun x=>[(39,.bool (decide (((T.getD i (0,0,0)).2.2=ea)∧((T.getD i (0,0,0)).1=eb)))),(17,.bool true),(16,.int .i64 2),(9,.int .i64 2),(19,.int .i64 2),(18,.int .i64 1),(7,.int .i64 (((((Pg.tms (T.take i) ea eb)+1)+1):Nat):Int)),(41,.int .i64 (((((Pg.tms (T.take i) ea eb)+1)+1):Nat):Int)),(40,.int .i64 ((((Pg.tms (T.take i) ea eb)+1):Nat):Int)),(8,.int .i64 ((i:Nat):Int)),(6,.int .i64 0),(0,.slice pt nt ct),(1,.int .i64 ea),(2,.int .i64 eb)]) (fun x=>[]) (fun x=>[slF (rI3 .i64) pt ct T]) ?_ ?_
      ·
       refine za<|e_mv rfl<|e_mv rfl<|e_mv rfl<|zI (x0:=(T.getD i (0,0,0))) 0 i rfl yd sz50 rfl rfl rfl cbs rfl rfl (gD (d:=(0,0,0)) om) (fun b16 o17 hok18=> ?_)
       obtain ⟨hok18x,hok18y,hok18z⟩:=hok18
       replace hok18x:=zm.1 hok18x
       replace hok18y:=zm.1 hok18y
       replace hok18z:=zm.1 hok18z
       refine e_p (zy (i:=2) ye sz3 rfl rfl dd rfl)<|e_ru (zl (j:=2) 0 ty3 rfl rfl rfl rfl)<|e_mv rfl<|e_p (zsa rfl rfl)<|zS rfl rfl (zT rfl) (fun h19=> ?_) (fun h19=> ?_)
       ·
        refine e_mv rfl<|e_mv rfl<|e_mv rfl<|e_p (zw (z:=3) rfl rfl (w64 dd))<|e_p (zoa (z:=0) rfl rfl dd dd)<|zI (x0:=(T.getD i (0,0,0))) 1 i rfl yd sz50 rfl rfl rfl cbs rfl rfl (gD (d:=(0,0,0)) om) (fun b20 o21 hok22=> ?_)
        obtain ⟨hok22x,hok22y,hok22z⟩:=hok22
        replace hok22x:=zm.1 hok22x
        replace hok22y:=zm.1 hok22y
        replace hok22z:=zm.1 hok22z
        refine e_p (zy (i:=0) ye sz3 rfl rfl dd rfl)<|e_ru (zl (j:=0) 0 ty3 rfl rfl rfl rfl)<|e_mv rfl<|e_p (zsa rfl rfl)<|e_p (zo rfl rfl)<|zh ?_
        exact zY () (show True from by first|trivial|omega|simp_all) ((.e rfl (congrArg Value.bool cbu) (.of rfl)):SubM _ _) (ho:=(.n:PickO _ _ _)) ((.c (j:=2) rfl .n):SelR _ _ _)
       ·
        refine e_no<|e_no<|e_no<|e_no<|e_no<|e_no<|e_no<|e_no<|e_no<|e_no<|e_p (zo rfl rfl)<|zh ?_
        exact zY () (show True from by first|trivial|omega|simp_all) ((.e rfl (congrArg Value.bool cbu) (.of rfl)):SubM _ _) (ho:=(.n:PickO _ _ _)) ((.c (j:=1) rfl .n):SelR _ _ _)
      ·
       rintro ⟨⟩ -
       try dsimp only
       refine zB rfl (fun hx=> ?_) (fun hx=> ?_)
       ·
        have hx2:=hx
        refine za<|e_mv rfl<|e_p (zw (z:=((((((Pg.tms (T.take i) ea eb)+1)+1)+1):Nat):Int)) rfl rfl (w64 om))<|e_p (zb rfl)<|zh<|zK<|zd<|za<|e_mv rfl<|e_p (zw (z:=3) rfl rfl (w64 dd))<|e_p (zb rfl)<|zh<|zxa<|zpa<|ze<|ze<|za<|e_mv rfl<|e_p (zR rfl rfl)<|zh<|zd<|zBa rfl rfl<|zga<|zj<|zj<|zr<|zK<|zd<|za<|e_mv rfl<|e_p (zw (z:=(((i+1):Nat):Int)) rfl rfl (w64 om))<|e_p (zb rfl)<|zh<|zda (i+1) (show (i+1)≤nt from by show i+1≤nt;omega) (by show nt - (i+1)<nt - i;omega) ((.e rfl (by refine congrArg (Value.int .i64) ?_;rw [Pg.tms_step om];(try rw [Pg.t1_yes hx0]);(try rw [Pg.t1_no hx0]);(try rw [Pg.t1_yes hx1]);(try rw [Pg.t1_no hx1]);(try rw [Pg.t1_yes hx2]);(try rw [Pg.t1_no hx2]);first|done|omega) (.of rfl)):SubM _ _) (ho:=(.n:PickO _ _ _)) ((.c (j:=0) rfl .n):SelR _ _ _)
       ·
        have hx2:=hx
        refine zt<|zK<|zd<|za<|e_mv rfl<|e_p (zw (z:=3) rfl rfl (w64 dd))<|e_p (zb rfl)<|zh<|zxa<|zpa<|ze<|ze<|za<|e_mv rfl<|e_p (zR rfl rfl)<|zh<|zd<|zBa rfl rfl<|zga<|zj<|zj<|zr<|zK<|zd<|za<|e_mv rfl<|e_p (zw (z:=(((i+1):Nat):Int)) rfl rfl (w64 om))<|e_p (zb rfl)<|zh<|zda (i+1) (show (i+1)≤nt from by show i+1≤nt;omega) (by show nt - (i+1)<nt - i;omega) ((.e rfl (by refine congrArg (Value.int .i64) ?_;rw [Pg.tms_step om];(try rw [Pg.t1_yes hx0]);(try rw [Pg.t1_no hx0]);(try rw [Pg.t1_yes hx1]);(try rw [Pg.t1_no hx1]);(try rw [Pg.t1_yes hx2]);(try rw [Pg.t1_no hx2]);first|done|omega) (.of rfl)):SubM _ _) (ho:=(.n:PickO _ _ _)) ((.c (j:=0) rfl .n):SelR _ _ _)
     ·
      have hx1:=hx
      refine zt<|zK<|zd<|za<|e_mv rfl<|e_p (zw (z:=2) rfl rfl (w64 dd))<|e_p (zb rfl)<|zh<|zxa<|zpa<|ze<|ze<|za<|e_mv rfl<|e_p (zR rfl rfl)<|zh<|zd<|zva rfl rfl<|zt<|zd<|ze<|zv<|zAa (X:=Unit) (fun x=>True) (fun x=>[(39,.bool (decide (((T.getD i (0,0,0)).2.2=ea)∧((T.getD i (0,0,0)).1=eb)))),(17,.bool true),(16,.int .i64 2),(9,.int .i64 2),(19,.int .i64 2),(18,.int .i64 1),(7,.int .i64 ((((Pg.tms (T.take i) ea eb)+1):Nat):Int)),(41,.int .i64 ((((Pg.tms (T.take i) ea eb)+1):Nat):Int)),(40,.int .i64 (((Pg.tms (T.take i) ea eb):Nat):Int)),(8,.int .i64 ((i:Nat):Int)),(6,.int .i64 0),(0,.slice pt nt ct),(1,.int .i64 ea),(2,.int .i64 eb)]) (fun x=>[]) (fun x=>[slF (rI3 .i64) pt ct T]) ?_ ?_
      ·
       refine za<|e_mv rfl<|e_mv rfl<|e_mv rfl<|zI (x0:=(T.getD i (0,0,0))) 0 i rfl yd sz50 rfl rfl rfl cbs rfl rfl (gD (d:=(0,0,0)) om) (fun b23 o24 hok25=> ?_)
       obtain ⟨hok25x,hok25y,hok25z⟩:=hok25
       replace hok25x:=zm.1 hok25x
       replace hok25y:=zm.1 hok25y
       replace hok25z:=zm.1 hok25z
       refine e_p (zy (i:=2) ye sz3 rfl rfl dd rfl)<|e_ru (zl (j:=2) 0 ty3 rfl rfl rfl rfl)<|e_mv rfl<|e_p (zsa rfl rfl)<|zS rfl rfl (zT rfl) (fun h26=> ?_) (fun h26=> ?_)
       ·
        refine e_mv rfl<|e_mv rfl<|e_mv rfl<|e_p (zw (z:=3) rfl rfl (w64 dd))<|e_p (zoa (z:=0) rfl rfl dd dd)<|zI (x0:=(T.getD i (0,0,0))) 1 i rfl yd sz50 rfl rfl rfl cbs rfl rfl (gD (d:=(0,0,0)) om) (fun b27 o28 hok29=> ?_)
        obtain ⟨hok29x,hok29y,hok29z⟩:=hok29
        replace hok29x:=zm.1 hok29x
        replace hok29y:=zm.1 hok29y
        replace hok29z:=zm.1 hok29z
        refine e_p (zy (i:=0) ye sz3 rfl rfl dd rfl)<|e_ru (zl (j:=0) 0 ty3 rfl rfl rfl rfl)<|e_mv rfl<|e_p (zsa rfl rfl)<|e_p (zo rfl rfl)<|zh ?_
        exact zY () (show True from by first|trivial|omega|simp_all) ((.e rfl (congrArg Value.bool cbu) (.of rfl)):SubM _ _) (ho:=(.n:PickO _ _ _)) ((.c (j:=2) rfl .n):SelR _ _ _)
       ·
        refine e_no<|e_no<|e_no<|e_no<|e_no<|e_no<|e_no<|e_no<|e_no<|e_no<|e_p (zo rfl rfl)<|zh ?_
        exact zY () (show True from by first|trivial|omega|simp_all) ((.e rfl (congrArg Value.bool cbu) (.of rfl)):SubM _ _) (ho:=(.n:PickO _ _ _)) ((.c (j:=1) rfl .n):SelR _ _ _)
      ·
       rintro ⟨⟩ -
       try dsimp only
       refine zB rfl (fun hx=> ?_) (fun hx=> ?_)
       ·
        have hx2:=hx
        refine za<|e_mv rfl<|e_p (zw (z:=(((((Pg.tms (T.take i) ea eb)+1)+1):Nat):Int)) rfl rfl (w64 om))<|e_p (zb rfl)<|zh<|zK<|zd<|za<|e_mv rfl<|e_p (zw (z:=3) rfl rfl (w64 dd))<|e_p (zb rfl)<|zh<|zxa<|zpa<|ze<|ze<|za<|e_mv rfl<|e_p (zR rfl rfl)<|zh<|zd<|zBa rfl rfl<|zga<|zj<|zj<|zr<|zK<|zd<|za<|e_mv rfl<|e_p (zw (z:=(((i+1):Nat):Int)) rfl rfl (w64 om))<|e_p (zb rfl)<|zh<|zda (i+1) (show (i+1)≤nt from by show i+1≤nt;omega) (by show nt - (i+1)<nt - i;omega) ((.e rfl (by refine congrArg (Value.int .i64) ?_;rw [Pg.tms_step om];(try rw [Pg.t1_yes hx0]);(try rw [Pg.t1_no hx0]);(try rw [Pg.t1_yes hx1]);(try rw [Pg.t1_no hx1]);(try rw [Pg.t1_yes hx2]);(try rw [Pg.t1_no hx2]);first|done|omega) (.of rfl)):SubM _ _) (ho:=(.n:PickO _ _ _)) ((.c (j:=0) rfl .n):SelR _ _ _)
       ·
        have hx2:=hx
        refine zt<|zK<|zd<|za<|e_mv rfl<|e_p (zw (z:=3) rfl rfl (w64 dd))<|e_p (zb rfl)<|zh<|zxa<|zpa<|ze<|ze<|za<|e_mv rfl<|e_p (zR rfl rfl)<|zh<|zd<|zBa rfl rfl<|zga<|zj<|zj<|zr<|zK<|zd<|za<|e_mv rfl<|e_p (zw (z:=(((i+1):Nat):Int)) rfl rfl (w64 om))<|e_p (zb rfl)<|zh<|zda (i+1) (show (i+1)≤nt from by show i+1≤nt;omega) (by show nt - (i+1)<nt - i;omega) ((.e rfl (by refine congrArg (Value.int .i64) ?_;rw [Pg.tms_step om];(try rw [Pg.t1_yes hx0]);(try rw [Pg.t1_no hx0]);(try rw [Pg.t1_yes hx1]);(try rw [Pg.t1_no hx1]);(try rw [Pg.t1_yes hx2]);(try rw [Pg.t1_no hx2]);first|done|omega) (.of rfl)):SubM _ _) (ho:=(.n:PickO _ _ _)) ((.c (j:=0) rfl .n):SelR _ _ _)
   ·
    have hx0:=hx
    refine zt<|zK<|zd<|za<|e_mv rfl<|e_p (zw (z:=1) rfl rfl (w64 dd))<|e_p (zb rfl)<|zh<|zxa<|zpa<|ze<|ze<|za<|e_mv rfl<|e_p (zR rfl rfl)<|zh<|zd<|zva rfl rfl<|zt<|zd<|ze<|zv<|zAa (X:=Unit) (fun x=>True) (fun x=>[(39,.bool (decide (((T.getD i (0,0,0)).2.1=ea)∧((T.getD i (0,0,0)).2.2=eb)))),(17,.bool true),(16,.int .i64 1),(9,.int .i64 1),(19,.int .i64 1),(18,.int .i64 0),(7,.int .i64 (((Pg.tms (T.take i) ea eb):Nat):Int)),(8,.int .i64 ((i:Nat):Int)),(6,.int .i64 0),(0,.slice pt nt ct),(1,.int .i64 ea),(2,.int .i64 eb)]) (fun x=>[]) (fun x=>[slF (rI3 .i64) pt ct T]) ?_ ?_
    ·
     refine za<|e_mv rfl<|e_mv rfl<|e_mv rfl<|zI (x0:=(T.getD i (0,0,0))) 0 i rfl yd sz50 rfl rfl rfl cbs rfl rfl (gD (d:=(0,0,0)) om) (fun b30 o31 hok32=> ?_)
     obtain ⟨hok32x,hok32y,hok32z⟩:=hok32
     replace hok32x:=zm.1 hok32x
     replace hok32y:=zm.1 hok32y
     replace hok32z:=zm.1 hok32z
     refine e_p (zy (i:=1) ye sz3 rfl rfl dd rfl)<|e_ru (zl (j:=1) 0 ty3 rfl rfl rfl rfl)<|e_mv rfl<|e_p (zsa rfl rfl)<|zS rfl rfl (zT rfl) (fun h33=> ?_) (fun h33=> ?_)
     ·
      refine e_mv rfl<|e_mv rfl<|e_mv rfl<|e_p (zw (z:=2) rfl rfl (w64 dd))<|e_p (zoa (z:=2) rfl rfl dd dd)<|zI (x0:=(T.getD i (0,0,0))) 1 i rfl yd sz50 rfl rfl rfl cbs rfl rfl (gD (d:=(0,0,0)) om) (fun b34 o35 hok36=> ?_)
      obtain ⟨hok36x,hok36y,hok36z⟩:=hok36
      replace hok36x:=zm.1 hok36x
      replace hok36y:=zm.1 hok36y
      replace hok36z:=zm.1 hok36z
      refine e_p (zy (i:=2) ye sz3 rfl rfl dd rfl)<|e_ru (zl (j:=2) 0 ty3 rfl rfl rfl rfl)<|e_mv rfl<|e_p (zsa rfl rfl)<|e_p (zo rfl rfl)<|zh ?_
      exact zY () (show True from by first|trivial|omega|simp_all) ((.e rfl (congrArg Value.bool cbu) (.of rfl)):SubM _ _) (ho:=(.n:PickO _ _ _)) ((.c (j:=2) rfl .n):SelR _ _ _)
     ·
      refine e_no<|e_no<|e_no<|e_no<|e_no<|e_no<|e_no<|e_no<|e_no<|e_no<|e_p (zo rfl rfl)<|zh ?_
      exact zY () (show True from by first|trivial|omega|simp_all) ((.e rfl (congrArg Value.bool cbu) (.of rfl)):SubM _ _) (ho:=(.n:PickO _ _ _)) ((.c (j:=1) rfl .n):SelR _ _ _)
    ·
     rintro ⟨⟩ -
     try dsimp only
     refine zB rfl (fun hx=> ?_) (fun hx=> ?_)
     ·
      have hx1:=hx
      refine za<|e_mv rfl<|e_p (zw (z:=((((Pg.tms (T.take i) ea eb)+1):Nat):Int)) rfl rfl (w64 om))<|e_p (zb rfl)<|zh<|zK<|zd<|za<|e_mv rfl<|e_p (zw (z:=2) rfl rfl (w64 dd))<|e_p (zb rfl)<|zh<|zxa<|zpa<|ze<|ze<|za<|e_mv rfl<|e_p (zR rfl rfl)<|zh<|zd<|zva rfl rfl<|zt<|zd<|ze<|zv<|zAa (X:=Unit) (fun x=>True) (fun x=>[(39,.bool (decide (((T.getD i (0,0,0)).2.2=ea)∧((T.getD i (0,0,0)).1=eb)))),(17,.bool true),(16,.int .i64 2),(9,.int .i64 2),(19,.int .i64 2),(18,.int .i64 1),(7,.int .i64 ((((Pg.tms (T.take i) ea eb)+1):Nat):Int)),(41,.int .i64 ((((Pg.tms (T.take i) ea eb)+1):Nat):Int)),(40,.int .i64 (((Pg.tms (T.take i) ea eb):Nat):Int)),(8,.int .i64 ((i:Nat):Int)),(6,.int .i64 0),(0,.slice pt nt ct),(1,.int .i64 ea),(2,.int .i64 eb)]) (fun x=>[]) (fun x=>[slF (rI3 .i64) pt ct T]) ?_ ?_
      ·
       refine za<|e_mv rfl<|e_mv rfl<|e_mv rfl<|zI (x0:=(T.getD i (0,0,0))) 0 i rfl yd sz50 rfl rfl rfl cbs rfl rfl (gD (d:=(0,0,0)) om) (fun b37 o38 hok39=> ?_)
       obtain ⟨hok39x,hok39y,hok39z⟩:=hok39
       replace hok39x:=zm.1 hok39x
       replace hok39y:=zm.1 hok39y
       replace hok39z:=zm.1 hok39z
       refine e_p (zy (i:=2) ye sz3 rfl rfl dd rfl)<|e_ru (zl (j:=2) 0 ty3 rfl rfl rfl rfl)<|e_mv rfl<|e_p (zsa rfl rfl)<|zS rfl rfl (zT rfl) (fun h40=> ?_) (fun h40=> ?_)
       ·
        refine e_mv rfl<|e_mv rfl<|e_mv rfl<|e_p (zw (z:=3) rfl rfl (w64 dd))<|e_p (zoa (z:=0) rfl rfl dd dd)<|zI (x0:=(T.getD i (0,0,0))) 1 i rfl yd sz50 rfl rfl rfl cbs rfl rfl (gD (d:=(0,0,0)) om) (fun b41 o42 hok43=> ?_)
        obtain ⟨hok43x,hok43y,hok43z⟩:=hok43
        replace hok43x:=zm.1 hok43x
        replace hok43y:=zm.1 hok43y
        replace hok43z:=zm.1 hok43z
        refine e_p (zy (i:=0) ye sz3 rfl rfl dd rfl)<|e_ru (zl (j:=0) 0 ty3 rfl rfl rfl rfl)<|e_mv rfl<|e_p (zsa rfl rfl)<|e_p (zo rfl rfl)<|zh ?_
        exact zY () (show True from by first|trivial|omega|simp_all) ((.e rfl (congrArg Value.bool cbu) (.of rfl)):SubM _ _) (ho:=(.n:PickO _ _ _)) ((.c (j:=2) rfl .n):SelR _ _ _)
       ·
        refine e_no<|e_no<|e_no<|e_no<|e_no<|e_no<|e_no<|e_no<|e_no<|e_no<|e_p (zo rfl rfl)<|zh ?_
        exact zY () (show True from by first|trivial|omega|simp_all) ((.e rfl (congrArg Value.bool cbu) (.of rfl)):SubM _ _) (ho:=(.n:PickO _ _ _)) ((.c (j:=1) rfl .n):SelR _ _ _)
      ·
       rintro ⟨⟩ -
       try dsimp only
       refine zB rfl (fun hx=> ?_) (fun hx=> ?_)
       ·
        have hx2:=hx
        refine za<|e_mv rfl<|e_p (zw (z:=(((((Pg.tms (T.take i) ea eb)+1)+1):Nat):Int)) rfl rfl (w64 om))<|e_p (zb rfl)<|zh<|zK<|zd<|za<|e_mv rfl<|e_p (zw (z:=3) rfl rfl (w64 dd))<|e_p (zb rfl)<|zh<|zxa<|zpa<|ze<|ze<|za<|e_mv rfl<|e_p (zR rfl rfl)<|zh<|zd<|zBa rfl rfl<|zga<|zj<|zj<|zr<|zK<|zd<|za<|e_mv rfl<|e_p (zw (z:=(((i+1):Nat):Int)) rfl rfl (w64 om))<|e_p (zb rfl)<|zh<|zda (i+1) (show (i+1)≤nt from by show i+1≤nt;omega) (by show nt - (i+1)<nt - i;omega) ((.e rfl (by refine congrArg (Value.int .i64) ?_;rw [Pg.tms_step om];(try rw [Pg.t1_yes hx0]);(try rw [Pg.t1_no hx0]);(try rw [Pg.t1_yes hx1]);(try rw [Pg.t1_no hx1]);(try rw [Pg.t1_yes hx2]);(try rw [Pg.t1_no hx2]);first|done|omega) (.of rfl)):SubM _ _) (ho:=(.n:PickO _ _ _)) ((.c (j:=0) rfl .n):SelR _ _ _)
       ·
        have hx2:=hx
        refine zt<|zK<|zd<|za<|e_mv rfl<|e_p (zw (z:=3) rfl rfl (w64 dd))<|e_p (zb rfl)<|zh<|zxa<|zpa<|ze<|ze<|za<|e_mv rfl<|e_p (zR rfl rfl)<|zh<|zd<|zBa rfl rfl<|zga<|zj<|zj<|zr<|zK<|zd<|za<|e_mv rfl<|e_p (zw (z:=(((i+1):Nat):Int)) rfl rfl (w64 om))<|e_p (zb rfl)<|zh<|zda (i+1) (show (i+1)≤nt from by show i+1≤nt;omega) (by show nt - (i+1)<nt - i;omega) ((.e rfl (by refine congrArg (Value.int .i64) ?_;rw [Pg.tms_step om];(try rw [Pg.t1_yes hx0]);(try rw [Pg.t1_no hx0]);(try rw [Pg.t1_yes hx1]);(try rw [Pg.t1_no hx1]);(try rw [Pg.t1_yes hx2]);(try rw [Pg.t1_no hx2]);first|done|omega) (.of rfl)):SubM _ _) (ho:=(.n:PickO _ _ _)) ((.c (j:=0) rfl .n):SelR _ _ _)
     ·
      have hx1:=hx
      refine zt<|zK<|zd<|za<|e_mv rfl<|e_p (zw (z:=2) rfl rfl (w64 dd))<|e_p (zb rfl)<|zh<|zxa<|zpa<|ze<|ze<|za<|e_mv rfl<|e_p (zR rfl rfl)<|zh<|zd<|zva rfl rfl<|zt<|zd<|ze<|zv<|zAa (X:=Unit) (fun x=>True) (fun x=>[(39,.bool (decide (((T.getD i (0,0,0)).2.2=ea)∧((T.getD i (0,0,0)).1=eb)))),(17,.bool true),(16,.int .i64 2),(9,.int .i64 2),(19,.int .i64 2),(18,.int .i64 1),(7,.int .i64 (((Pg.tms (T.take i) ea eb):Nat):Int)),(8,.int .i64 ((i:Nat):Int)),(6,.int .i64 0),(0,.slice pt nt ct),(1,.int .i64 ea),(2,.int .i64 eb)]) (fun x=>[]) (fun x=>[slF (rI3 .i64) pt ct T]) ?_ ?_
      ·
       refine za<|e_mv rfl<|e_mv rfl<|e_mv rfl<|zI (x0:=(T.getD i (0,0,0))) 0 i rfl yd sz50 rfl rfl rfl cbs rfl rfl (gD (d:=(0,0,0)) om) (fun b44 o45 hok46=> ?_)
       obtain ⟨hok46x,hok46y,hok46z⟩:=hok46
       replace hok46x:=zm.1 hok46x
       replace hok46y:=zm.1 hok46y
       replace hok46z:=zm.1 hok46z
       refine e_p (zy (i:=2) ye sz3 rfl rfl dd rfl)<|e_ru (zl (j:=2) 0 ty3 rfl rfl rfl rfl)<|e_mv rfl<|e_p (zsa rfl rfl)<|zS rfl rfl (zT rfl) (fun h47=> ?_) (fun h47=> ?_)
       ·
        refine e_mv rfl<|e_mv rfl<|e_mv rfl<|e_p (zw (z:=3) rfl rfl (w64 dd))<|e_p (zoa (z:=0) rfl rfl dd dd)<|zI (x0:=(T.getD i (0,0,0))) 1 i rfl yd sz50 rfl rfl rfl cbs rfl rfl (gD (d:=(0,0,0)) om) (fun b48 o49 hok50=> ?_)
        obtain ⟨hok50x,hok50y,hok50z⟩:=hok50
        replace hok50x:=zm.1 hok50x
        replace hok50y:=zm.1 hok50y
        replace hok50z:=zm.1 hok50z
        refine e_p (zy (i:=0) ye sz3 rfl rfl dd rfl)<|e_ru (zl (j:=0) 0 ty3 rfl rfl rfl rfl)<|e_mv rfl<|e_p (zsa rfl rfl)<|e_p (zo rfl rfl)<|zh ?_
        exact zY () (show True from by first|trivial|omega|simp_all) ((.e rfl (congrArg Value.bool cbu) (.of rfl)):SubM _ _) (ho:=(.n:PickO _ _ _)) ((.c (j:=2) rfl .n):SelR _ _ _)
       ·
        refine e_no<|e_no<|e_no<|e_no<|e_no<|e_no<|e_no<|e_no<|e_no<|e_no<|e_p (zo rfl rfl)<|zh ?_
        exact zY () (show True from by first|trivial|omega|simp_all) ((.e rfl (congrArg Value.bool cbu) (.of rfl)):SubM _ _) (ho:=(.n:PickO _ _ _)) ((.c (j:=1) rfl .n):SelR _ _ _)
      ·
       rintro ⟨⟩ -
       try dsimp only
       refine zB rfl (fun hx=> ?_) (fun hx=> ?_)
       ·
        have hx2:=hx
        refine za<|e_mv rfl<|e_p (zw (z:=((((Pg.tms (T.take i) ea eb)+1):Nat):Int)) rfl rfl (w64 om))<|e_p (zb rfl)<|zh<|zK<|zd<|za<|e_mv rfl<|e_p (zw (z:=3) rfl rfl (w64 dd))<|e_p (zb rfl)<|zh<|zxa<|zpa<|ze<|ze<|za<|e_mv rfl<|e_p (zR rfl rfl)<|zh<|zd<|zBa rfl rfl<|zga<|zj<|zj<|zr<|zK<|zd<|za<|e_mv rfl<|e_p (zw (z:=(((i+1):Nat):Int)) rfl rfl (w64 om))<|e_p (zb rfl)<|zh<|zda (i+1) (show (i+1)≤nt from by show i+1≤nt;omega) (by show nt - (i+1)<nt - i;omega) ((.e rfl (by refine congrArg (Value.int .i64) ?_;rw [Pg.tms_step om];(try rw [Pg.t1_yes hx0]);(try rw [Pg.t1_no hx0]);(try rw [Pg.t1_yes hx1]);(try rw [Pg.t1_no hx1]);(try rw [Pg.t1_yes hx2]);(try rw [Pg.t1_no hx2]);first|done|omega) (.of rfl)):SubM _ _) (ho:=(.n:PickO _ _ _)) ((.c (j:=0) rfl .n):SelR _ _ _)
       ·
        have hx2:=hx
        refine zt<|zK<|zd<|za<|e_mv rfl<|e_p (zw (z:=3) rfl rfl (w64 dd))<|e_p (zb rfl)<|zh<|zxa<|zpa<|ze<|ze<|za<|e_mv rfl<|e_p (zR rfl rfl)<|zh<|zd<|zBa rfl rfl<|zga<|zj<|zj<|zr<|zK<|zd<|za<|e_mv rfl<|e_p (zw (z:=(((i+1):Nat):Int)) rfl rfl (w64 om))<|e_p (zb rfl)<|zh<|zda (i+1) (show (i+1)≤nt from by show i+1≤nt;omega) (by show nt - (i+1)<nt - i;omega) ((.e rfl (by refine congrArg (Value.int .i64) ?_;rw [Pg.tms_step om];(try rw [Pg.t1_yes hx0]);(try rw [Pg.t1_no hx0]);(try rw [Pg.t1_yes hx1]);(try rw [Pg.t1_no hx1]);(try rw [Pg.t1_yes hx2]);(try rw [Pg.t1_no hx2]);first|done|omega) (.of rfl)):SubM _ _) (ho:=(.n:PickO _ _ _)) ((.c (j:=0) rfl .n):SelR _ _ _)
 ·
  refine zga<|zj<|zj<|zr<|zd<|ze<|za<|e_mv rfl<|e_p (zb rfl)<|zh<|zd<|zJ ?_
  exact zx Tryz.results80 () trivial (zn rfl) (by rw [List.take_of_length_le om]) (ho:=(.n:PickO _ _ _)) (.n:SelR _ _ _)
end Go.Proofs.YtjcpbhlijoigfaaGreat.Sp
namespace Go.Proofs.YtjcpbhlijoigfaaGreat.Sp
open Go
set_option linter.unusedVariables false
set_option maxRecDepth 100000
set_option maxHeartbeats 8000000
theorem zdd {p:Option Addr} {n:Nat} {cap:Nat} {l:List Pg.P2} {pt:Option Addr} {nt:Nat} {ct:Nat} {T:List Pg.T3} (hn:l.length=n) (hnt:T.length=nt) (hb:nt≤1000) (h64:n≤64) (h3:3≤n) (hrng:∀x∈l,Pg.inR x):Con yj 34 [.slice p n cap,.slice pt nt ct] [] [slF (rI2 .i64) p cap l,slF (rI3 .i64) pt ct T] (Y:=Unit) (fun y=>True) (fun y=> .bool (decide (Pg.acR n l T))) (fun y=>[]) (fun y=>[]):=by
 refine zp Tryz.func34 rfl rfl rfl (fun c=> ?_)
 show RunC _ _ _ _ _ [(0,.slice p n cap),(1,.slice pt nt ct)] [] [slF (rI2 .i64) p cap l,slF (rI3 .i64) pt ct T]
 refine zfa 0 rfl (fun hL0=> ?_)
 refine zfa 1 rfl (fun hL1=> ?_)
 have hnf:¬l.any Pg.far=true:=fun h=>by obtain ⟨x,hx,hf⟩:=List.any_eq_true.1 h;unfold Pg.far at hf;simp at hf;exact hf (hrng x hx)
 have hA:Pg.arV l=Pg.db l:=(Pg.ar_ok om hnf).1
 have hdb:=Pg.dbN_b hn hrng (i:=n) (Nat.le_refl _)
 have hdb2:Pg.db l=Pg.dbN n l n:=by rw [Pg.db,hn]
 refine ze<|za<|e_p (zb rfl)<|zh<|zd<|ze<|za<|e_mv rfl<|e_p (zQ yf rfl)<|e_p (zb rfl)<|zh<|zd<|ze<|za<|e_mv rfl<|zO rfl rfl (.c rfl .n) ce14 (zKf (p:=p) (n:=n) (cap:=cap) (l:=l) (hn:=ass)) (.c (j:=0) rfl .n)<|e_mv rfl<|e_p (zD rfl rfl)<|e_p (zD rfl rfl)<|e_p (zb rfl)<|e_p (zb rfl)<|zh<|zd<|ze<|ze ?_
 have e1:Pg.arV l=Pg.db l:=by exact hA
 rw [e1]
 refine za<|e_mv rfl<|e_p (zQ yd rfl)<|e_mv rfl<|e_p (zja (z:=(((n:Nat):Int) - 2)) rfl rfl (w64 om))<|e_p (zLa rfl rfl)<|zh<|zd<|zB rfl (fun hlen=> ?_) (fun hlen=> ?_)
 ·
  refine ze<|za<|e_p (zb rfl)<|zh<|zd<|zJ<|zi ?_
  exact zx yo () trivial (zn rfl) (congrArg Value.bool (decide_eq_false (fun h=>absurd ((Pg.acR_n hnt).1 h).1 om))) (ho:=(.n:PickO _ _ _)) (.n:SelR _ _ _)
 ·
  refine zt<|zd<|ze<|ze<|za<|e_p (zb rfl)<|zh<|zd<|zv<|zma (X:=Nat) (fun x:Nat=>x≤nt∧∀j,j<x→Pg.okX n l (T.getD j (0,0,0))) (fun x=>[(8,.int .i64 ((x:Nat):Int)),(6,.int .i64 (Pg.db l)),(5,.int .i64 ((n:Nat):Int)),(0,.slice p n cap),(1,.slice pt nt ct)]) (fun x=>[]) (fun x=>[slF (rI2 .i64) p cap l,slF (rI3 .i64) pt ct T]) (fun x:Nat=>nt - x) 0 (show 0≤nt∧∀j,j<0→Pg.okX n l (T.getD j (0,0,0)) from by exact ⟨Nat.zero_le _,fun j h=>by omega⟩) ((.e rfl (by first|rfl|(congr 1;omega)|simp_all) (.of rfl)):SubM _ _) (ho:=(.n:PickO _ _ _)) ((.of [0,1] rfl):SelR _ _ _) ?_
  rintro i hI
  replace hI:i≤nt∧∀j,j<i→Pg.okX n l (T.getD j (0,0,0)):=hI
  try dsimp only
  obtain ⟨hi,hall⟩:=hI
  refine ze<|ze<|za<|e_mv rfl<|e_mv rfl<|e_p (zQ yd rfl)<|e_p (zR rfl rfl)<|zh<|zd<|zB rfl (fun h2=> ?_) (fun h2=> ?_)
  ·
   refine zt<|zd<|ze<|zv<|ze<|ze<|za<|e_p (zb rfl)<|zh<|zd<|zv<|zvc<|zpa<|ze<|ze<|za<|e_mv rfl<|e_p (zR rfl rfl)<|zh<|zd<|zva rfl rfl<|zt<|zd<|ze<|zv<|zAa (X:=Unit) (fun x=>True) (fun x=>[(53,.bool (decide (((T.getD i (0,0,0)).1<0)∨(((n:Nat):Int)≤(T.getD i (0,0,0)).1)))),(34,.bool true),(33,.int .i64 0),(9,.int .i64 0),(8,.int .i64 ((i:Nat):Int)),(6,.int .i64 (Pg.db l)),(5,.int .i64 ((n:Nat):Int)),(0,.slice p n cap),(1,.slice pt nt ct)]) (fun x=>[]) (fun x=>[slF (rI2 .i64) p cap l,slF (rI3 .i64) pt ct T]) ?_ ?_
   ·
    refine za<|e_mv rfl<|e_mv rfl<|e_mv rfl<|zI (x0:=(T.getD i (0,0,0))) 1 i rfl yd sz50 rfl rfl rfl cbs rfl rfl (gD (d:=(0,0,0)) om) (fun b3 o4 hok5=> ?_)
    obtain ⟨hok5x,hok5y,hok5z⟩:=hok5
    replace hok5x:=zm.1 hok5x
    replace hok5y:=zm.1 hok5y
    replace hok5z:=zm.1 hok5z
    refine e_p (zy (i:=0) ye sz3 rfl rfl dd rfl)<|e_ru (zl (j:=0) 0 ty3 rfl rfl rfl rfl)<|e_p (zR rfl rfl)<|zS rfl rfl (zT rfl) (fun h6=> ?_) (fun h6=> ?_)
    ·
     refine e_no<|e_no<|e_no<|e_no<|e_no<|e_no<|e_no<|e_no<|e_p (zo rfl rfl)<|zh ?_
     exact zY () (show True from by first|trivial|omega|simp_all) ((.e rfl (congrArg Value.bool cbu) (.of rfl)):SubM _ _) (ho:=(.n:PickO _ _ _)) ((.of [1,2] rfl):SelR _ _ _)
    ·
     refine e_mv rfl<|e_mv rfl<|e_mv rfl<|zI (x0:=(T.getD i (0,0,0))) 2 i rfl yd sz50 rfl rfl rfl cbs rfl rfl (gD (d:=(0,0,0)) om) (fun b7 o8 hok9=> ?_)
     obtain ⟨hok9x,hok9y,hok9z⟩:=hok9
     replace hok9x:=zm.1 hok9x
     replace hok9y:=zm.1 hok9y
     replace hok9z:=zm.1 hok9z
     refine e_p (zy (i:=0) ye sz3 rfl rfl dd rfl)<|e_ru (zl (j:=0) 0 ty3 rfl rfl rfl rfl)<|e_mv rfl<|e_p (zIa rfl rfl)<|e_p (zo rfl rfl)<|zh ?_
     exact zY () (show True from by first|trivial|omega|simp_all) ((.e rfl (congrArg Value.bool cbu) (.of rfl)):SubM _ _) (ho:=(.n:PickO _ _ _)) ((.of [2,3] rfl):SelR _ _ _)
   ·
    rintro ⟨⟩ -
    try dsimp only
    refine zB rfl (fun hr=> ?_) (fun hr=> ?_)
    ·
     have hr0:=hr
     refine ze<|za<|e_p (zb rfl)<|zh<|zd<|zJ<|zk<|zi<|zi<|zk<|zi<|zk<|zi<|zi<|zk<|zi ?_
     exact zx yo () trivial (zn rfl) (congrArg Value.bool (decide_eq_false (fun h=>by have h9:=(((Pg.acR_n hnt).1 h).2.1 i om).1;unfold Pg.inT at h9;omega))) (ho:=(.n:PickO _ _ _)) (.n:SelR _ _ _)
    ·
     have hr0:=hr
     refine zt<|zK<|zd<|za<|e_mv rfl<|e_p (zw (z:=1) rfl rfl (w64 dd))<|e_p (zb rfl)<|zh<|zxa<|zpa<|ze<|ze<|za<|e_mv rfl<|e_p (zR rfl rfl)<|zh<|zd<|zva rfl rfl<|zt<|zd<|ze<|zv<|zAa (X:=Unit) (fun x=>True) (fun x=>[(53,.bool (decide (((T.getD i (0,0,0)).2.1<0)∨(((n:Nat):Int)≤(T.getD i (0,0,0)).2.1)))),(34,.bool true),(33,.int .i64 1),(9,.int .i64 1),(36,.int .i64 1),(35,.int .i64 0),(8,.int .i64 ((i:Nat):Int)),(6,.int .i64 (Pg.db l)),(5,.int .i64 ((n:Nat):Int)),(0,.slice p n cap),(1,.slice pt nt ct)]) (fun x=>[]) (fun x=>[slF (rI2 .i64) p cap l,slF (rI3 .i64) pt ct T]) ?_ ?_
     ·
      refine za<|e_mv rfl<|e_mv rfl<|e_mv rfl<|zI (x0:=(T.getD i (0,0,0))) 1 i rfl yd sz50 rfl rfl rfl cbs rfl rfl (gD (d:=(0,0,0)) om) (fun b10 o11 hok12=> ?_)
      obtain ⟨hok12x,hok12y,hok12z⟩:=hok12
      replace hok12x:=zm.1 hok12x
      replace hok12y:=zm.1 hok12y
      replace hok12z:=zm.1 hok12z
      refine e_p (zy (i:=1) ye sz3 rfl rfl dd rfl)<|e_ru (zl (j:=1) 0 ty3 rfl rfl rfl rfl)<|e_p (zR rfl rfl)<|zS rfl rfl (zT rfl) (fun h13=> ?_) (fun h13=> ?_)
      ·
       refine e_no<|e_no<|e_no<|e_no<|e_no<|e_no<|e_no<|e_no<|e_p (zo rfl rfl)<|zh ?_
       exact zY () (show True from by first|trivial|omega|simp_all) ((.e rfl (congrArg Value.bool cbu) (.of rfl)):SubM _ _) (ho:=(.n:PickO _ _ _)) ((.of [1,2] rfl):SelR _ _ _)
      ·
       refine e_mv rfl<|e_mv rfl<|e_mv rfl<|zI (x0:=(T.getD i (0,0,0))) 2 i rfl yd sz50 rfl rfl rfl cbs rfl rfl (gD (d:=(0,0,0)) om) (fun b14 o15 hok16=> ?_)
       obtain ⟨hok16x,hok16y,hok16z⟩:=hok16
       replace hok16x:=zm.1 hok16x
       replace hok16y:=zm.1 hok16y
       replace hok16z:=zm.1 hok16z
       refine e_p (zy (i:=1) ye sz3 rfl rfl dd rfl)<|e_ru (zl (j:=1) 0 ty3 rfl rfl rfl rfl)<|e_mv rfl<|e_p (zIa rfl rfl)<|e_p (zo rfl rfl)<|zh ?_
       exact zY () (show True from by first|trivial|omega|simp_all) ((.e rfl (congrArg Value.bool cbu) (.of rfl)):SubM _ _) (ho:=(.n:PickO _ _ _)) ((.of [2,3] rfl):SelR _ _ _)
     ·
      rintro ⟨⟩ -
      try dsimp only
      refine zB rfl (fun hr=> ?_) (fun hr=> ?_)
      ·
       have hr1:=hr
       refine ze<|za<|e_p (zb rfl)<|zh<|zd<|zJ<|zk<|zi<|zi<|zk<|zi<|zk<|zi<|zi<|zk<|zi ?_
       exact zx yo () trivial (zn rfl) (congrArg Value.bool (decide_eq_false (fun h=>by have h9:=(((Pg.acR_n hnt).1 h).2.1 i om).1;unfold Pg.inT at h9;omega))) (ho:=(.n:PickO _ _ _)) (.n:SelR _ _ _)
      ·
       have hr1:=hr
       refine zt<|zK<|zd<|za<|e_mv rfl<|e_p (zw (z:=2) rfl rfl (w64 dd))<|e_p (zb rfl)<|zh<|zxa<|zpa<|ze<|ze<|za<|e_mv rfl<|e_p (zR rfl rfl)<|zh<|zd<|zva rfl rfl<|zt<|zd<|ze<|zv<|zAa (X:=Unit) (fun x=>True) (fun x=>[(53,.bool (decide (((T.getD i (0,0,0)).2.2<0)∨(((n:Nat):Int)≤(T.getD i (0,0,0)).2.2)))),(34,.bool true),(33,.int .i64 2),(9,.int .i64 2),(36,.int .i64 2),(35,.int .i64 1),(8,.int .i64 ((i:Nat):Int)),(6,.int .i64 (Pg.db l)),(5,.int .i64 ((n:Nat):Int)),(0,.slice p n cap),(1,.slice pt nt ct)]) (fun x=>[]) (fun x=>[slF (rI2 .i64) p cap l,slF (rI3 .i64) pt ct T]) ?_ ?_
       ·
        refine za<|e_mv rfl<|e_mv rfl<|e_mv rfl<|zI (x0:=(T.getD i (0,0,0))) 1 i rfl yd sz50 rfl rfl rfl cbs rfl rfl (gD (d:=(0,0,0)) om) (fun b17 o18 hok19=> ?_)
        obtain ⟨hok19x,hok19y,hok19z⟩:=hok19
        replace hok19x:=zm.1 hok19x
        replace hok19y:=zm.1 hok19y
        replace hok19z:=zm.1 hok19z
        refine e_p (zy (i:=2) ye sz3 rfl rfl dd rfl)<|e_ru (zl (j:=2) 0 ty3 rfl rfl rfl rfl)<|e_p (zR rfl rfl)<|zS rfl rfl (zT rfl) (fun h20=> ?_) (fun h20=> ?_)
        ·
         refine e_no<|e_no<|e_no<|e_no<|e_no<|e_no<|e_no<|e_no<|e_p (zo rfl rfl)<|zh ?_
         exact zY () (show True from by first|trivial|omega|simp_all) ((.e rfl (congrArg Value.bool cbu) (.of rfl)):SubM _ _) (ho:=(.n:PickO _ _ _)) ((.of [1,2] rfl):SelR _ _ _)
        ·
         refine e_mv rfl<|e_mv rfl<|e_mv rfl<|zI (x0:=(T.getD i (0,0,0))) 2 i rfl yd sz50 rfl rfl rfl cbs rfl rfl (gD (d:=(0,0,0)) om) (fun b21 o22 hok23=> ?_)
         obtain ⟨hok23x,hok23y,hok23z⟩:=hok23
         replace hok23x:=zm.1 hok23x
         replace hok23y:=zm.1 hok23y
         replace hok23z:=zm.1 hok23z
         refine e_p (zy (i:=2) ye sz3 rfl rfl dd rfl)<|e_ru (zl (j:=2) 0 ty3 rfl rfl rfl rfl)<|e_mv rfl<|e_p (zIa rfl rfl)<|e_p (zo rfl rfl)<|zh ?_
         exact zY () (show True from by first|trivial|omega|simp_all) ((.e rfl (congrArg Value.bool cbu) (.of rfl)):SubM _ _) (ho:=(.n:PickO _ _ _)) ((.of [2,3] rfl):SelR _ _ _)
       ·
        rintro ⟨⟩ -
        try dsimp only
        refine zB rfl (fun hr=> ?_) (fun hr=> ?_)
        ·
         have hr2:=hr
         refine ze<|za<|e_p (zb rfl)<|zh<|zd<|zJ<|zk<|zi<|zi<|zk<|zi<|zk<|zi<|zi<|zk<|zi ?_
         exact zx yo () trivial (zn rfl) (congrArg Value.bool (decide_eq_false (fun h=>by have h9:=(((Pg.acR_n hnt).1 h).2.1 i om).1;unfold Pg.inT at h9;omega))) (ho:=(.n:PickO _ _ _)) (.n:SelR _ _ _)
        ·
         have hr2:=hr
         refine zt<|zK<|zd<|za<|e_mv rfl<|e_p (zw (z:=3) rfl rfl (w64 dd))<|e_p (zb rfl)<|zh<|zxa<|zpa<|ze<|ze<|za<|e_mv rfl<|e_p (zR rfl rfl)<|zh<|zd<|zBa rfl rfl<|zga<|zj<|zj<|zr<|zd<|ze ?_
         have hin:Pg.inT n (T.getD i (0,0,0)):=⟨by omega,by omega,by omega⟩
         obtain ⟨hin1,hin2,hin3⟩:=id hin
         have hq0:Pg.inR (l.getD (((T.getD i (0,0,0)).1).toNat) (0,0)):=Pg.Ok.gt hrng om
         have hq1:Pg.inR (l.getD (((T.getD i (0,0,0)).2.1).toNat) (0,0)):=Pg.Ok.gt hrng om
         have hq2:Pg.inR (l.getD (((T.getD i (0,0,0)).2.2).toNat) (0,0)):=Pg.Ok.gt hrng om
         have hcb: -35184372088832≤Pg.crs ((l.getD (((T.getD i (0,0,0)).1).toNat) (0,0)).1,(l.getD (((T.getD i (0,0,0)).1).toNat) (0,0)).2) ((l.getD (((T.getD i (0,0,0)).2.1).toNat) (0,0)).1,(l.getD (((T.getD i (0,0,0)).2.1).toNat) (0,0)).2) ((l.getD (((T.getD i (0,0,0)).2.2).toNat) (0,0)).1,(l.getD (((T.getD i (0,0,0)).2.2).toNat) (0,0)).2)∧Pg.crs ((l.getD (((T.getD i (0,0,0)).1).toNat) (0,0)).1,(l.getD (((T.getD i (0,0,0)).1).toNat) (0,0)).2) ((l.getD (((T.getD i (0,0,0)).2.1).toNat) (0,0)).1,(l.getD (((T.getD i (0,0,0)).2.1).toNat) (0,0)).2) ((l.getD (((T.getD i (0,0,0)).2.2).toNat) (0,0)).1,(l.getD (((T.getD i (0,0,0)).2.2).toNat) (0,0)).2)≤35184372088832:=(Pg.cb hq0 hq1 hq2).c
         have hsg:=Pg.sgn_rng (Pg.crs ((l.getD (((T.getD i (0,0,0)).1).toNat) (0,0)).1,(l.getD (((T.getD i (0,0,0)).1).toNat) (0,0)).2) ((l.getD (((T.getD i (0,0,0)).2.1).toNat) (0,0)).1,(l.getD (((T.getD i (0,0,0)).2.1).toNat) (0,0)).2) ((l.getD (((T.getD i (0,0,0)).2.2).toNat) (0,0)).1,(l.getD (((T.getD i (0,0,0)).2.2).toNat) (0,0)).2))
         have hsd:=Pg.sgn_rng (Pg.db l)
         refine zZ (OW:=[]) (O:=[]) 100000 mixed (.then (.block (.then (.then (.block (.then .ret)))))) kr<|e_dm 0 rfl rfl rfl<|e_dm 1 rfl rfl rfl<|e_dm 2 rfl rfl rfl<|zca (x0:=(T.getD i (0,0,0))) 3 rfl rfl kr kr 1 i rfl yd sz50 rfl rfl rfl cbs rfl rfl (gD (d:=(0,0,0)) om) (fun b24 o25 hok26=> ?_)
         obtain ⟨hok26x,hok26y,hok26z⟩:=hok26
         replace hok26x:=zm.1 hok26x
         replace hok26y:=zm.1 hok26y
         replace hok26z:=zm.1 hok26z
         refine e_pv 4 rfl rfl (zy (i:=0) ye sz3 rfl rfl dd rfl)<|e_u 5 rfl rfl (zl (j:=0) 0 ty3 rfl rfl rfl rfl)<|zca (x0:=(l.getD (((T.getD i (0,0,0)).1).toNat) (0,0))) 6 rfl rfl kr kr 1 (((T.getD i (0,0,0)).1).toNat) rfl yf sz30 rfl rfl rfl cbs rfl om (gD (d:=(0,0)) om) (fun b27 o28 hok29=> ?_)
         obtain ⟨hok29x,hok29y⟩:=hok29
         replace hok29x:=zm.1 hok29x
         replace hok29y:=zm.1 hok29y
         refine e_u 7 rfl rfl (zG (j:=0) 0 ty30 rfl rfl rfl (.t2 .nil))<|e_dm 8 rfl rfl rfl<|e_dm 9 rfl rfl rfl<|e_dm 10 rfl rfl rfl<|zca (x0:=(T.getD i (0,0,0))) 11 rfl rfl kr kr 3 i rfl yd sz50 rfl rfl rfl cbs rfl rfl (gD (d:=(0,0,0)) om) (fun b30 o31 hok32=> ?_)
         obtain ⟨hok32x,hok32y,hok32z⟩:=hok32
         replace hok32x:=zm.1 hok32x
         replace hok32y:=zm.1 hok32y
         replace hok32z:=zm.1 hok32z
         refine e_pv 12 rfl rfl (zy (i:=1) ye sz3 rfl rfl dd rfl)<|e_u 13 rfl rfl (zl (j:=1) 0 ty3 rfl rfl rfl rfl)<|zca (x0:=(l.getD (((T.getD i (0,0,0)).2.1).toNat) (0,0))) 14 rfl rfl kr kr 3 (((T.getD i (0,0,0)).2.1).toNat) rfl yf sz30 rfl rfl rfl cbs rfl om (gD (d:=(0,0)) om) (fun b33 o34 hok35=> ?_)
         obtain ⟨hok35x,hok35y⟩:=hok35
         replace hok35x:=zm.1 hok35x
         replace hok35y:=zm.1 hok35y
         refine e_u 15 rfl rfl (zG (j:=0) 0 ty30 rfl rfl rfl (.t2 .nil))<|e_dm 16 rfl rfl rfl<|e_dm 17 rfl rfl rfl<|e_dm 18 rfl rfl rfl<|zca (x0:=(T.getD i (0,0,0))) 19 rfl rfl kr kr 5 i rfl yd sz50 rfl rfl rfl cbs rfl rfl (gD (d:=(0,0,0)) om) (fun b36 o37 hok38=> ?_)
         obtain ⟨hok38x,hok38y,hok38z⟩:=hok38
         replace hok38x:=zm.1 hok38x
         replace hok38y:=zm.1 hok38y
         replace hok38z:=zm.1 hok38z
         refine e_pv 20 rfl rfl (zy (i:=2) ye sz3 rfl rfl dd rfl)<|e_u 21 rfl rfl (zl (j:=2) 0 ty3 rfl rfl rfl rfl)<|zca (x0:=(l.getD (((T.getD i (0,0,0)).2.2).toNat) (0,0))) 22 rfl rfl kr kr 5 (((T.getD i (0,0,0)).2.2).toNat) rfl yf sz30 rfl rfl rfl cbs rfl om (gD (d:=(0,0)) om) (fun b39 o40 hok41=> ?_)
         obtain ⟨hok41x,hok41y⟩:=hok41
         replace hok41x:=zm.1 hok41x
         replace hok41y:=zm.1 hok41y
         refine e_u 23 rfl rfl (zG (j:=0) 0 ty30 rfl rfl rfl (.t2 .nil))<|e_dm 26 rfl rfl rfl<|e_one 24 (zua rfl rfl rfl rfl (.c rfl (.c rfl (.c rfl .n))) ce55 (zub (ex:=(l.getD (((T.getD i (0,0,0)).1).toNat) (0,0)).1) (ey:=(l.getD (((T.getD i (0,0,0)).1).toNat) (0,0)).2) (fx:=(l.getD (((T.getD i (0,0,0)).2.1).toNat) (0,0)).1) (fy:=(l.getD (((T.getD i (0,0,0)).2.1).toNat) (0,0)).2) (gx:=(l.getD (((T.getD i (0,0,0)).2.2).toNat) (0,0)).1) (gy:=(l.getD (((T.getD i (0,0,0)).2.2).toNat) (0,0)).2) (hre:=cbo) (hrf:=cbo) (hrg:=cbo)) (.n) ?_)
         refine e_one 25 (zua rfl rfl rfl rfl (.c rfl .n) ce65 (zvb (z:=Pg.crs (((l.getD (((T.getD i (0,0,0)).1).toNat) (0,0)).1),((l.getD (((T.getD i (0,0,0)).1).toNat) (0,0)).2)) (((l.getD (((T.getD i (0,0,0)).2.1).toNat) (0,0)).1),((l.getD (((T.getD i (0,0,0)).2.1).toNat) (0,0)).2)) (((l.getD (((T.getD i (0,0,0)).2.2).toNat) (0,0)).1),((l.getD (((T.getD i (0,0,0)).2.2).toNat) (0,0)).2))) (hz:=cbo)) (.n) ?_)
         refine e_one 27 (zua rfl rfl rfl rfl (.c rfl .n) ce65 (zvb (z:=Pg.db l) (hz:=cbo)) (.n) ?_)
         refine e_pv 28 rfl rfl (zLa rfl rfl)<|zX kr<|zd<|zB rfl (fun hs=> ?_) (fun hs=> ?_)
         ·
          refine ze<|za<|e_p (zb rfl)<|zh<|zd<|zJ<|zk<|zi<|zi<|zk<|zi ?_
          exact zx yo () trivial (zn rfl) (congrArg Value.bool (decide_eq_false (fun h=>hs (((Pg.acR_n hnt).1 h).2.1 i om).2))) (ho:=(.n:PickO _ _ _)) (.n:SelR _ _ _)
         ·
          refine zt<|zK<|zd<|za<|e_mv rfl<|e_p (zw (z:=(((i+1):Nat):Int)) rfl rfl (w64 om))<|e_p (zb rfl)<|zh<|zda (i+1) (show (i+1)≤nt∧∀j,j<(i+1)→Pg.okX n l (T.getD j (0,0,0)) from by exact ⟨by omega,Ms.all_lt_succ hall ⟨⟨by omega,by omega,by omega⟩,Decidable.not_not.1 hs⟩⟩) (by show nt - (i+1)<nt - i;omega) ((.of rfl):SubM _ _) (ho:=(.n:PickO _ _ _)) ((.of [6,7] rfl):SelR _ _ _)
  ·
   have hallN:∀j,j<nt→Pg.okX n l (T.getD j (0,0,0)):=fun j hj=>hall j om
   refine zga<|zj<|zj<|zr<|zd<|ze<|ze<|za<|e_p (zb rfl)<|zh<|zd<|zv<|zma (X:=Nat) (fun x:Nat=>x≤nt∧∀j,j<x→∀e∈Pg.edg (T.getD j (0,0,0)),Pg.okE n T e) (fun x=>[(10,.int .i64 ((x:Nat):Int)),(5,.int .i64 ((n:Nat):Int)),(1,.slice pt nt ct)]) (fun x=>[]) (fun x=>[slF (rI2 .i64) p cap l,slF (rI3 .i64) pt ct T]) (fun x:Nat=>nt - x) 0 (show 0≤nt∧∀j,j<0→∀e∈Pg.edg (T.getD j (0,0,0)),Pg.okE n T e from by exact ⟨Nat.zero_le _,fun j h=>by omega⟩) ((.e rfl (by first|rfl|(congr 1;omega)|simp_all) (.c rfl (.c rfl .n))):SubM _ _) (ho:=(.n:PickO _ _ _)) ((.of [0,1] rfl):SelR _ _ _) ?_
   rintro i hJ
   replace hJ:i≤nt∧∀j,j<i→∀e∈Pg.edg (T.getD j (0,0,0)),Pg.okE n T e:=hJ
   try dsimp only
   obtain ⟨hi3,hall3⟩:=hJ
   refine ze<|ze<|za<|e_mv rfl<|e_mv rfl<|e_p (zQ yd rfl)<|e_p (zR rfl rfl)<|zh<|zd<|zB rfl (fun h42=> ?_) (fun h42=> ?_)
   ·
    obtain ⟨⟨hin1,hin2,hin3⟩,hsi⟩:=hallN i om
    refine zt<|zd<|ze<|zv<|ze<|za<|e_p (zb rfl)<|zh<|zd<|zv<|zvc<|zpa<|ze<|ze<|za<|e_mv rfl<|e_p (zR rfl rfl)<|zh<|zd<|zva rfl rfl<|zt<|zd<|ze<|zv<|ze<|za<|e_mv rfl<|e_mv rfl<|e_mv rfl<|zI (x0:=(T.getD i (0,0,0))) 1 i rfl yd sz50 rfl rfl rfl cbs rfl rfl (gD (d:=(0,0,0)) om) (fun b43 o44 hok45=> ?_)
    obtain ⟨hok45x,hok45y,hok45z⟩:=hok45
    replace hok45x:=zm.1 hok45x
    replace hok45y:=zm.1 hok45y
    replace hok45z:=zm.1 hok45z
    refine e_p (zy (i:=0) ye sz3 rfl rfl dd rfl)<|e_ru (zl (j:=0) 0 ty3 rfl rfl rfl rfl)<|e_p (zb rfl)<|zh<|zd<|ze<|za<|e_mv rfl<|e_mv rfl<|e_mv rfl<|e_p (zw (z:=1) rfl rfl (w64 dd))<|e_p (zoa (z:=1) rfl rfl dd dd)<|zI (x0:=(T.getD i (0,0,0))) 2 i rfl yd sz50 rfl rfl rfl cbs rfl rfl (gD (d:=(0,0,0)) om) (fun b46 o47 hok48=> ?_)
    obtain ⟨hok48x,hok48y,hok48z⟩:=hok48
    replace hok48x:=zm.1 hok48x
    replace hok48y:=zm.1 hok48y
    replace hok48z:=zm.1 hok48z
    refine e_p (zy (i:=1) ye sz3 rfl rfl dd rfl)<|e_ru (zl (j:=1) 0 ty3 rfl rfl rfl rfl)<|e_p (zb rfl)<|zh<|zd<|zAa (X:=Unit) (fun x=>True) (fun x=>[(126,.bool (decide (((((Pg.tms T ((T.getD i (0,0,0)).1) ((T.getD i (0,0,0)).2.1)):Nat):Int)≠1)∨(((T.getD i (0,0,0)).2.1≠(((T.getD i (0,0,0)).1+1)%((n:Nat):Int)))∧((((Pg.tms T ((T.getD i (0,0,0)).2.1) ((T.getD i (0,0,0)).1)):Nat):Int)≠1))))),(13,.int .i64 ((T.getD i (0,0,0)).2.1)),(106,.int .i64 ((T.getD i (0,0,0)).2.1)),(105,.pointer (some ⟨b46,o47+1,none⟩)),(104,.pointer (some ⟨b46,o47,none⟩)),(103,.int .i64 1),(102,.int .i64 1),(101,.int .i64 0),(100,.int .i64 ((i:Nat):Int)),(99,.slice pt nt ct),(12,.int .i64 ((T.getD i (0,0,0)).1)),(98,.int .i64 ((T.getD i (0,0,0)).1)),(97,.pointer (some ⟨b43,o44,none⟩)),(96,.pointer (some ⟨b43,o44,none⟩)),(95,.int .i64 0),(94,.int .i64 ((i:Nat):Int)),(93,.slice pt nt ct),(90,.bool true),(89,.int .i64 0),(11,.int .i64 0),(10,.int .i64 ((i:Nat):Int)),(5,.int .i64 ((n:Nat):Int)),(1,.slice pt nt ct)]) (fun x=>[]) (fun x=>[atF b46 o47 [.int .i64 ((T.getD i (0,0,0)).1),.int .i64 ((T.getD i (0,0,0)).2.1),.int .i64 ((T.getD i (0,0,0)).2.2)],atF b43 o44 [.int .i64 ((T.getD i (0,0,0)).1),.int .i64 ((T.getD i (0,0,0)).2.1),.int .i64 ((T.getD i (0,0,0)).2.2)],slF (rI2 .i64) p cap l,slF (rI3 .i64) pt ct T]) ?_ ?_
    ·
     refine za<|e_mv rfl<|e_mv rfl<|e_mv rfl<|zO rfl rfl (.c rfl (.c rfl (.c rfl .n))) ce80 (zGb (pt:=pt) (nt:=nt) (ct:=ct) (T:=T) (ea:=(T.getD i (0,0,0)).1) (eb:=(T.getD i (0,0,0)).2.1) (hnt:=ass) (hb:=cbo)) (.c (j:=3) rfl .n)<|e_p (zLa rfl rfl)<|zS rfl rfl (zT rfl) (fun h49=> ?_) (fun h49=> ?_)
     ·
      refine e_no<|e_no<|e_no<|e_no<|e_no<|e_no<|e_no<|e_no<|e_no<|e_no<|e_no<|e_no<|e_no<|e_p (zo rfl rfl)<|zh ?_
      exact zY () (show True from by first|trivial|omega|simp_all) ((.e rfl (congrArg Value.bool cbu) (.of rfl)):SubM _ _) (ho:=(.n:PickO _ _ _)) ((.of [0,1,2,3] rfl):SelR _ _ _)
     ·
      refine e_mv rfl<|e_mv rfl<|e_p (zw (z:=((T.getD i (0,0,0)).1+1)) rfl rfl (w64 om))<|e_mv rfl<|e_p (zoa (z:=(((T.getD i (0,0,0)).1+1)%((n:Nat):Int))) rfl rfl om (remN om om))<|e_p (zLa rfl rfl)<|zS rfl rfl (zT rfl) (fun h50=> ?_) (fun h50=> ?_)
      ·
       refine e_mv rfl<|e_mv rfl<|e_mv rfl<|zO rfl rfl (.c rfl (.c rfl (.c rfl .n))) ce80 (zGb (pt:=pt) (nt:=nt) (ct:=ct) (T:=T) (ea:=(T.getD i (0,0,0)).2.1) (eb:=(T.getD i (0,0,0)).1) (hnt:=ass) (hb:=cbo)) (.c (j:=3) rfl .n)<|e_p (zLa rfl rfl)<|e_p (zo rfl rfl)<|e_p (zo rfl rfl)<|zh ?_
       exact zY () (show True from by first|trivial|omega|simp_all) ((.e rfl (congrArg Value.bool cbu) (.of rfl)):SubM _ _) (ho:=(.n:PickO _ _ _)) ((.of [0,1,2,3] rfl):SelR _ _ _)
      ·
       refine e_no<|e_no<|e_no<|e_no<|e_no<|e_p (zo rfl rfl)<|e_p (zo rfl rfl)<|zh ?_
       exact zY () (show True from by first|trivial|omega|simp_all) ((.e rfl (congrArg Value.bool cbu) (.of rfl)):SubM _ _) (ho:=(.n:PickO _ _ _)) ((.of [0,1,2,3] rfl):SelR _ _ _)
    ·
     rintro ⟨⟩ -
     try dsimp only
     refine zB rfl (fun hx=> ?_) (fun hx=> ?_)
     ·
      have hx0:=hx
      refine ze<|za<|e_p (zb rfl)<|zh<|zd<|zJ<|zk<|zi<|zi<|zk<|zk<|zi<|zi<|zk<|zi ?_
      exact zx yo () trivial (zn rfl) (congrArg Value.bool (decide_eq_false (fun h=>by have h9:=((Pg.acR_n hnt).1 h).2.2.1 i om ((T.getD i (0,0,0)).1,(T.getD i (0,0,0)).2.1) (by simp [Pg.edg]);unfold Pg.okE Pg.nxi at h9;dsimp only at h9;omega))) (ho:=(.n:PickO _ _ _)) (.n:SelR _ _ _)
     ·
      have hx0:=hx
      refine zt<|zK<|zd<|za<|e_mv rfl<|e_p (zw (z:=1) rfl rfl (w64 dd))<|e_p (zb rfl)<|zh<|zxa<|zpa<|ze<|ze<|za<|e_mv rfl<|e_p (zR rfl rfl)<|zh<|zd<|zva rfl rfl<|zt<|zd<|ze<|zv<|ze<|za<|e_mv rfl<|e_mv rfl<|e_mv rfl<|zI (x0:=(T.getD i (0,0,0))) 3 i rfl yd sz50 rfl rfl rfl cbs rfl rfl (gD (d:=(0,0,0)) om) (fun b51 o52 hok53=> ?_)
      obtain ⟨hok53x,hok53y,hok53z⟩:=hok53
      replace hok53x:=zm.1 hok53x
      replace hok53y:=zm.1 hok53y
      replace hok53z:=zm.1 hok53z
      refine e_p (zy (i:=1) ye sz3 rfl rfl dd rfl)<|e_ru (zl (j:=1) 0 ty3 rfl rfl rfl rfl)<|e_p (zb rfl)<|zh<|zd<|ze<|za<|e_mv rfl<|e_mv rfl<|e_mv rfl<|e_p (zw (z:=2) rfl rfl (w64 dd))<|e_p (zoa (z:=2) rfl rfl dd dd)<|zI (x0:=(T.getD i (0,0,0))) 4 i rfl yd sz50 rfl rfl rfl cbs rfl rfl (gD (d:=(0,0,0)) om) (fun b54 o55 hok56=> ?_)
      obtain ⟨hok56x,hok56y,hok56z⟩:=hok56
      replace hok56x:=zm.1 hok56x
      replace hok56y:=zm.1 hok56y
      replace hok56z:=zm.1 hok56z
      refine e_p (zy (i:=2) ye sz3 rfl rfl dd rfl)<|e_ru (zl (j:=2) 0 ty3 rfl rfl rfl rfl)<|e_p (zb rfl)<|zh<|zd<|zAa (X:=Unit) (fun x=>True) (fun x=>[(126,.bool (decide (((((Pg.tms T ((T.getD i (0,0,0)).2.1) ((T.getD i (0,0,0)).2.2)):Nat):Int)≠1)∨(((T.getD i (0,0,0)).2.2≠(((T.getD i (0,0,0)).2.1+1)%((n:Nat):Int)))∧((((Pg.tms T ((T.getD i (0,0,0)).2.2) ((T.getD i (0,0,0)).2.1)):Nat):Int)≠1))))),(13,.int .i64 ((T.getD i (0,0,0)).2.2)),(106,.int .i64 ((T.getD i (0,0,0)).2.2)),(105,.pointer (some ⟨b54,o55+2,none⟩)),(104,.pointer (some ⟨b54,o55,none⟩)),(103,.int .i64 2),(102,.int .i64 2),(101,.int .i64 1),(100,.int .i64 ((i:Nat):Int)),(99,.slice pt nt ct),(12,.int .i64 ((T.getD i (0,0,0)).2.1)),(98,.int .i64 ((T.getD i (0,0,0)).2.1)),(97,.pointer (some ⟨b51,o52+1,none⟩)),(96,.pointer (some ⟨b51,o52,none⟩)),(95,.int .i64 1),(94,.int .i64 ((i:Nat):Int)),(93,.slice pt nt ct),(90,.bool true),(89,.int .i64 1),(11,.int .i64 1),(92,.int .i64 1),(91,.int .i64 0),(10,.int .i64 ((i:Nat):Int)),(5,.int .i64 ((n:Nat):Int)),(1,.slice pt nt ct)]) (fun x=>[]) (fun x=>[atF b54 o55 [.int .i64 ((T.getD i (0,0,0)).1),.int .i64 ((T.getD i (0,0,0)).2.1),.int .i64 ((T.getD i (0,0,0)).2.2)],atF b51 o52 [.int .i64 ((T.getD i (0,0,0)).1),.int .i64 ((T.getD i (0,0,0)).2.1),.int .i64 ((T.getD i (0,0,0)).2.2)],atF b46 o47 [.int .i64 ((T.getD i (0,0,0)).1),.int .i64 ((T.getD i (0,0,0)).2.1),.int .i64 ((T.getD i (0,0,0)).2.2)],atF b43 o44 [.int .i64 ((T.getD i (0,0,0)).1),.int .i64 ((T.getD i (0,0,0)).2.1),.int .i64 ((T.getD i (0,0,0)).2.2)],slF (rI2 .i64) p cap l,slF (rI3 .i64) pt ct T]) ?_ ?_
      ·
       refine za<|e_mv rfl<|e_mv rfl<|e_mv rfl<|zO rfl rfl (.c rfl (.c rfl (.c rfl .n))) ce80 (zGb (pt:=pt) (nt:=nt) (ct:=ct) (T:=T) (ea:=(T.getD i (0,0,0)).2.1) (eb:=(T.getD i (0,0,0)).2.2) (hnt:=ass) (hb:=cbo)) (.c (j:=5) rfl .n)<|e_p (zLa rfl rfl)<|zS rfl rfl (zT rfl) (fun h57=> ?_) (fun h57=> ?_)
       ·
        refine e_no<|e_no<|e_no<|e_no<|e_no<|e_no<|e_no<|e_no<|e_no<|e_no<|e_no<|e_no<|e_no<|e_p (zo rfl rfl)<|zh ?_
        exact zY () (show True from by first|trivial|omega|simp_all) ((.e rfl (congrArg Value.bool cbu) (.of rfl)):SubM _ _) (ho:=(.n:PickO _ _ _)) ((.of [0,1,2,3,4,5] rfl):SelR _ _ _)
       ·
        refine e_mv rfl<|e_mv rfl<|e_p (zw (z:=((T.getD i (0,0,0)).2.1+1)) rfl rfl (w64 om))<|e_mv rfl<|e_p (zoa (z:=(((T.getD i (0,0,0)).2.1+1)%((n:Nat):Int))) rfl rfl om (remN om om))<|e_p (zLa rfl rfl)<|zS rfl rfl (zT rfl) (fun h58=> ?_) (fun h58=> ?_)
        ·
         refine e_mv rfl<|e_mv rfl<|e_mv rfl<|zO rfl rfl (.c rfl (.c rfl (.c rfl .n))) ce80 (zGb (pt:=pt) (nt:=nt) (ct:=ct) (T:=T) (ea:=(T.getD i (0,0,0)).2.2) (eb:=(T.getD i (0,0,0)).2.1) (hnt:=ass) (hb:=cbo)) (.c (j:=5) rfl .n)<|e_p (zLa rfl rfl)<|e_p (zo rfl rfl)<|e_p (zo rfl rfl)<|zh ?_
         exact zY () (show True from by first|trivial|omega|simp_all) ((.e rfl (congrArg Value.bool cbu) (.of rfl)):SubM _ _) (ho:=(.n:PickO _ _ _)) ((.of [0,1,2,3,4,5] rfl):SelR _ _ _)
        ·
         refine e_no<|e_no<|e_no<|e_no<|e_no<|e_p (zo rfl rfl)<|e_p (zo rfl rfl)<|zh ?_
         exact zY () (show True from by first|trivial|omega|simp_all) ((.e rfl (congrArg Value.bool cbu) (.of rfl)):SubM _ _) (ho:=(.n:PickO _ _ _)) ((.of [0,1,2,3,4,5] rfl):SelR _ _ _)
      ·
       rintro ⟨⟩ -
       try dsimp only
       refine zB rfl (fun hx=> ?_) (fun hx=> ?_)
       ·
        have hx1:=hx
        refine ze<|za<|e_p (zb rfl)<|zh<|zd<|zJ<|zk<|zi<|zi<|zk<|zk<|zi<|zi<|zk<|zi ?_
        exact zx yo () trivial (zn rfl) (congrArg Value.bool (decide_eq_false (fun h=>by have h9:=((Pg.acR_n hnt).1 h).2.2.1 i om ((T.getD i (0,0,0)).2.1,(T.getD i (0,0,0)).2.2) (by simp [Pg.edg]);unfold Pg.okE Pg.nxi at h9;dsimp only at h9;omega))) (ho:=(.n:PickO _ _ _)) (.n:SelR _ _ _)
       ·
        have hx1:=hx
        refine zt<|zK<|zd<|za<|e_mv rfl<|e_p (zw (z:=2) rfl rfl (w64 dd))<|e_p (zb rfl)<|zh<|zxa<|zpa<|ze<|ze<|za<|e_mv rfl<|e_p (zR rfl rfl)<|zh<|zd<|zva rfl rfl<|zt<|zd<|ze<|zv<|ze<|za<|e_mv rfl<|e_mv rfl<|e_mv rfl<|zI (x0:=(T.getD i (0,0,0))) 5 i rfl yd sz50 rfl rfl rfl cbs rfl rfl (gD (d:=(0,0,0)) om) (fun b59 o60 hok61=> ?_)
        obtain ⟨hok61x,hok61y,hok61z⟩:=hok61
        replace hok61x:=zm.1 hok61x
        replace hok61y:=zm.1 hok61y
        replace hok61z:=zm.1 hok61z
        refine e_p (zy (i:=2) ye sz3 rfl rfl dd rfl)<|e_ru (zl (j:=2) 0 ty3 rfl rfl rfl rfl)<|e_p (zb rfl)<|zh<|zd<|ze<|za<|e_mv rfl<|e_mv rfl<|e_mv rfl<|e_p (zw (z:=3) rfl rfl (w64 dd))<|e_p (zoa (z:=0) rfl rfl dd dd)<|zI (x0:=(T.getD i (0,0,0))) 6 i rfl yd sz50 rfl rfl rfl cbs rfl rfl (gD (d:=(0,0,0)) om) (fun b62 o63 hok64=> ?_)
        obtain ⟨hok64x,hok64y,hok64z⟩:=hok64
        replace hok64x:=zm.1 hok64x
        replace hok64y:=zm.1 hok64y
        replace hok64z:=zm.1 hok64z
        refine e_p (zy (i:=0) ye sz3 rfl rfl dd rfl)<|e_ru (zl (j:=0) 0 ty3 rfl rfl rfl rfl)<|e_p (zb rfl)<|zh<|zd<|zAa (X:=Unit) (fun x=>True) (fun x=>[(126,.bool (decide (((((Pg.tms T ((T.getD i (0,0,0)).2.2) ((T.getD i (0,0,0)).1)):Nat):Int)≠1)∨(((T.getD i (0,0,0)).1≠(((T.getD i (0,0,0)).2.2+1)%((n:Nat):Int)))∧((((Pg.tms T ((T.getD i (0,0,0)).1) ((T.getD i (0,0,0)).2.2)):Nat):Int)≠1))))),(13,.int .i64 ((T.getD i (0,0,0)).1)),(106,.int .i64 ((T.getD i (0,0,0)).1)),(105,.pointer (some ⟨b62,o63,none⟩)),(104,.pointer (some ⟨b62,o63,none⟩)),(103,.int .i64 0),(102,.int .i64 3),(101,.int .i64 2),(100,.int .i64 ((i:Nat):Int)),(99,.slice pt nt ct),(12,.int .i64 ((T.getD i (0,0,0)).2.2)),(98,.int .i64 ((T.getD i (0,0,0)).2.2)),(97,.pointer (some ⟨b59,o60+2,none⟩)),(96,.pointer (some ⟨b59,o60,none⟩)),(95,.int .i64 2),(94,.int .i64 ((i:Nat):Int)),(93,.slice pt nt ct),(90,.bool true),(89,.int .i64 2),(11,.int .i64 2),(92,.int .i64 2),(91,.int .i64 1),(10,.int .i64 ((i:Nat):Int)),(5,.int .i64 ((n:Nat):Int)),(1,.slice pt nt ct)]) (fun x=>[]) (fun x=>[atF b62 o63 [.int .i64 ((T.getD i (0,0,0)).1),.int .i64 ((T.getD i (0,0,0)).2.1),.int .i64 ((T.getD i (0,0,0)).2.2)],atF b59 o60 [.int .i64 ((T.getD i (0,0,0)).1),.int .i64 ((T.getD i (0,0,0)).2.1),.int .i64 ((T.getD i (0,0,0)).2.2)],atF b54 o55 [.int .i64 ((T.getD i (0,0,0)).1),.int .i64 ((T.getD i (0,0,0)).2.1),.int .i64 ((T.getD i (0,0,0)).2.2)],atF b51 o52 [.int .i64 ((T.getD i (0,0,0)).1),.int .i64 ((T.getD i (0,0,0)).2.1),.int .i64 ((T.getD i (0,0,0)).2.2)],atF b46 o47 [.int .i64 ((T.getD i (0,0,0)).1),.int .i64 ((T.getD i (0,0,0)).2.1),.int .i64 ((T.getD i (0,0,0)).2.2)],atF b43 o44 [.int .i64 ((T.getD i (0,0,0)).1),.int .i64 ((T.getD i (0,0,0)).2.1),.int .i64 ((T.getD i (0,0,0)).2.2)],slF (rI2 .i64) p cap l,slF (rI3 .i64) pt ct T]) ?_ ?_
        ·
         refine za<|e_mv rfl<|e_mv rfl<|e_mv rfl<|zO rfl rfl (.c rfl (.c rfl (.c rfl .n))) ce80 (zGb (pt:=pt) (nt:=nt) (ct:=ct) (T:=T) (ea:=(T.getD i (0,0,0)).2.2) (eb:=(T.getD i (0,0,0)).1) (hnt:=ass) (hb:=cbo)) (.c (j:=7) rfl .n)<|e_p (zLa rfl rfl)<|zS rfl rfl (zT rfl) (fun h65=> ?_) (fun h65=> ?_)
         ·
          refine e_no<|e_no<|e_no<|e_no<|e_no<|e_no<|e_no<|e_no<|e_no<|e_no<|e_no<|e_no<|e_no<|e_p (zo rfl rfl)<|zh ?_
          exact zY () (show True from by first|trivial|omega|simp_all) ((.e rfl (congrArg Value.bool cbu) (.of rfl)):SubM _ _) (ho:=(.n:PickO _ _ _)) ((.of [0,1,2,3,4,5,6,7] rfl):SelR _ _ _)
         ·
          refine e_mv rfl<|e_mv rfl<|e_p (zw (z:=((T.getD i (0,0,0)).2.2+1)) rfl rfl (w64 om))<|e_mv rfl<|e_p (zoa (z:=(((T.getD i (0,0,0)).2.2+1)%((n:Nat):Int))) rfl rfl om (remN om om))<|e_p (zLa rfl rfl)<|zS rfl rfl (zT rfl) (fun h66=> ?_) (fun h66=> ?_)
          ·
           refine e_mv rfl<|e_mv rfl<|e_mv rfl<|zO rfl rfl (.c rfl (.c rfl (.c rfl .n))) ce80 (zGb (pt:=pt) (nt:=nt) (ct:=ct) (T:=T) (ea:=(T.getD i (0,0,0)).1) (eb:=(T.getD i (0,0,0)).2.2) (hnt:=ass) (hb:=cbo)) (.c (j:=7) rfl .n)<|e_p (zLa rfl rfl)<|e_p (zo rfl rfl)<|e_p (zo rfl rfl)<|zh ?_
           exact zY () (show True from by first|trivial|omega|simp_all) ((.e rfl (congrArg Value.bool cbu) (.of rfl)):SubM _ _) (ho:=(.n:PickO _ _ _)) ((.of [0,1,2,3,4,5,6,7] rfl):SelR _ _ _)
          ·
           refine e_no<|e_no<|e_no<|e_no<|e_no<|e_p (zo rfl rfl)<|e_p (zo rfl rfl)<|zh ?_
           exact zY () (show True from by first|trivial|omega|simp_all) ((.e rfl (congrArg Value.bool cbu) (.of rfl)):SubM _ _) (ho:=(.n:PickO _ _ _)) ((.of [0,1,2,3,4,5,6,7] rfl):SelR _ _ _)
        ·
         rintro ⟨⟩ -
         try dsimp only
         refine zB rfl (fun hx=> ?_) (fun hx=> ?_)
         ·
          have hx2:=hx
          refine ze<|za<|e_p (zb rfl)<|zh<|zd<|zJ<|zk<|zi<|zi<|zk<|zk<|zi<|zi<|zk<|zi ?_
          exact zx yo () trivial (zn rfl) (congrArg Value.bool (decide_eq_false (fun h=>by have h9:=((Pg.acR_n hnt).1 h).2.2.1 i om ((T.getD i (0,0,0)).2.2,(T.getD i (0,0,0)).1) (by simp [Pg.edg]);unfold Pg.okE Pg.nxi at h9;dsimp only at h9;omega))) (ho:=(.n:PickO _ _ _)) (.n:SelR _ _ _)
         ·
          have hx2:=hx
          refine zt<|zK<|zd<|za<|e_mv rfl<|e_p (zw (z:=3) rfl rfl (w64 dd))<|e_p (zb rfl)<|zh<|zxa<|zpa<|ze<|ze<|za<|e_mv rfl<|e_p (zR rfl rfl)<|zh<|zd<|zBa rfl rfl<|zga<|zj<|zj<|zr<|zK<|zd<|za<|e_mv rfl<|e_p (zw (z:=(((i+1):Nat):Int)) rfl rfl (w64 om))<|e_p (zb rfl)<|zh<|zda (i+1) (show (i+1)≤nt∧∀j,j<(i+1)→∀e∈Pg.edg (T.getD j (0,0,0)),Pg.okE n T e from by exact ⟨by omega,Ms.all_lt_succ hall3 (fun e he=>by unfold Pg.edg at he;simp only [List.mem_cons,List.not_mem_nil,or_false] at he;rcases he with rfl|rfl|rfl <;> (unfold Pg.okE Pg.nxi;dsimp only;omega))⟩) (by show nt - (i+1)<nt - i;omega) ((.of rfl):SubM _ _) (ho:=(.n:PickO _ _ _)) ((.of [6,7] rfl):SelR _ _ _)
   ·
    refine zga<|zj<|zj<|zr<|zd<|ze<|ze<|za<|e_p (zb rfl)<|zh<|zd<|zv<|zma (X:=Nat) (fun x:Nat=>x≤n∧∀j:Nat,j<x→Pg.tms T (j:Int) (((j+1)%n:Nat):Int)=1) (fun x=>[(14,.int .i64 ((x:Nat):Int)),(5,.int .i64 ((n:Nat):Int)),(1,.slice pt nt ct)]) (fun x=>[]) (fun x=>[slF (rI2 .i64) p cap l,slF (rI3 .i64) pt ct T]) (fun x:Nat=>n - x) 0 (show 0≤n∧∀j:Nat,j<0→Pg.tms T (j:Int) (((j+1)%n:Nat):Int)=1 from by exact ⟨Nat.zero_le _,fun j h=>by omega⟩) ((.e rfl (by first|rfl|(congr 1;omega)|simp_all) (.c rfl (.c rfl .n))):SubM _ _) (ho:=(.n:PickO _ _ _)) ((.of [0,1] rfl):SelR _ _ _) ?_
    rintro k hK
    replace hK:k≤n∧∀j:Nat,j<k→Pg.tms T (j:Int) (((j+1)%n:Nat):Int)=1:=hK
    try dsimp only
    obtain ⟨hk,hall5⟩:=hK
    refine ze<|ze<|za<|e_mv rfl<|e_mv rfl<|e_p (zR rfl rfl)<|zh<|zd<|zB rfl (fun h67=> ?_) (fun h67=> ?_)
    ·
     refine zt<|zd<|ze<|zv<|ze<|za<|e_mv rfl<|e_mv rfl<|e_mv rfl<|e_p (zw (z:=(((k+1):Nat):Int)) rfl rfl (w64 om))<|e_mv rfl<|e_p (zoa (z:=((((k+1)%n):Nat):Int)) rfl rfl om (remN om om))<|zO rfl rfl (.c rfl (.c rfl (.c rfl .n))) ce80 (zGb (pt:=pt) (nt:=nt) (ct:=ct) (T:=T) (ea:=((k:Nat):Int)) (eb:=((((k+1)%n):Nat):Int)) (hnt:=ass) (hb:=cbo)) (.c (j:=1) rfl .n)<|e_p (zLa rfl rfl)<|zh<|zd<|zB rfl (fun hy=> ?_) (fun hy=> ?_)
     ·
      refine ze<|za<|e_p (zb rfl)<|zh<|zd<|zJ<|zk<|zi<|zi<|zk<|zi ?_
      exact zx yo () trivial (zn rfl) (congrArg Value.bool (decide_eq_false (fun h=>by have h9:=((Pg.acR_n hnt).1 h).2.2.2 k om;omega))) (ho:=(.n:PickO _ _ _)) (.n:SelR _ _ _)
     ·
      refine zt<|zK<|zd<|za<|e_mv rfl<|e_p (zw (z:=(((k+1):Nat):Int)) rfl rfl (w64 om))<|e_p (zb rfl)<|zh<|zda (k+1) (show (k+1)≤n∧∀j:Nat,j<(k+1)→Pg.tms T (j:Int) (((j+1)%n:Nat):Int)=1 from by exact ⟨by omega,Ms.all_lt_succ (P:=fun j:Nat=>Pg.tms T (j:Int) (((j+1)%n:Nat):Int)=1) hall5 om⟩) (by show n - (k+1)<n - k;omega) ((.of rfl):SubM _ _) (ho:=(.n:PickO _ _ _)) ((.of [0,1] rfl):SelR _ _ _)
    ·
     refine zga<|zj<|zj<|zr<|zd<|ze<|za<|e_p (zb rfl)<|zh<|zd<|zJ ?_
     exact zx yo () trivial (zn rfl) (congrArg Value.bool (decide_eq_true ((Pg.acR_n hnt).2 ⟨by omega,hallN,fun j hj=>hall3 j om,fun j hj=>hall5 j om⟩))) (ho:=(.n:PickO _ _ _)) (.n:SelR _ _ _)
end Go.Proofs.YtjcpbhlijoigfaaGreat.Sp
namespace Go.Proofs.YtjcpbhlijoigfaaGreat.Pg
set_option linter.unusedVariables false
open Go.Proofs.YtjcpbhlijoigfaaGreat.Sp (mget mput mget_mput)
theorem mem_mput2 {κ ν:Type} [DecidableEq κ]:∀{m:List (κ×ν)} {a:κ} {v:ν} {p:κ×ν},p∈mput m a v→p=(a,v)∨p∈m
  |[],a,v,p,h=>by simp only [mput,List.mem_singleton] at h;exact .inl h
  |q :: m,a,v,p,h=>by
    simp only [mput] at h
    split at h
    · rcases List.mem_cons.1 h with h | h
      · exact .inl h
      · exact .inr (List.mem_cons_of_mem _ h)
    · rcases List.mem_cons.1 h with h | h
      · exact .inr (h ▸ List.mem_cons_self ..)
      · rcases mem_mput2 h with h | h
        · exact .inl h
        · exact .inr (List.mem_cons_of_mem _ h)
theorem mget_mem2 {κ ν:Type} [DecidableEq κ]:∀{m:List (κ×ν)} {a:κ} {v:ν},mget m a=some v→(a,v)∈m
  |[],_,_,h=>by cases h
  |q :: m,a,v,h=>by
    simp only [mget] at h
    split at h
    · rename_i e;cases h;subst e;simp
    · exact List.mem_cons_of_mem _ (mget_mem2 h)
structure Sn (m:List (E2×Bool)) (A:List E2):Prop where
  get:∀e,(mget m e).getD false=decide (e∈A)
  mem:∀x∈m,x.1∈A
theorem Sn.nil:Sn [] []:=⟨fun e=>rfl,fun x h=>by cases h⟩
theorem Sn.step {m:List (E2×Bool)} {A:List E2} (h:Sn m A) (a:E2):Sn (mput m a true) (A++[a]):=by
  refine ⟨fun e=> ?_,fun x hx=> ?_⟩
  · rw [mget_mput]
    by_cases hc:a=e
    · subst hc;simp
    · have hc' : ¬ e = a := fun x => hc x.symm
      rw [if_neg hc,h.get e];simp [hc']
  · rcases mem_mput2 hx with rfl | hx
    · simp
    · exact List.mem_append_left _ (h.mem x hx)
theorem Sn.no {m:List (E2×Bool)} {A:List E2} (h:Sn m A) {e:E2} (hf:(mget m e).getD false=false):e ∉ A:=fun hm=>by
  have:=h.get e
  rw [hf] at this
  simp [hm] at this
theorem Sn.yes {m:List (E2×Bool)} {A:List E2} (h:Sn m A) {e:E2} (hf:(mget m e).getD false=true):e∈A:=by
  have:=h.get e
  rw [hf] at this
  simpa using this.symm
theorem Sn.has {m:List (E2×Bool)} {A:List E2} (h:Sn m A) {e:E2} (he:e∈A):∃b,(e,b)∈m:=by
  have h1:=h.get e
  simp only [he,decide_true] at h1
  cases hm:mget m e with
  |none=>rw [hm] at h1;cases h1
  |some b=>exact ⟨b,mget_mem2 hm⟩
theorem eds_cut {T:List T3} {i:Nat} (h:i<T.length):eds T=eds (T.take i)++(((T.getD i (0,0,0)).1,(T.getD i (0,0,0)).2.1) :: ((T.getD i (0,0,0)).2.1,(T.getD i (0,0,0)).2.2) :: ((T.getD i (0,0,0)).2.2,(T.getD i (0,0,0)).1) :: eds (T.drop (i+1))):=by
  conv=>lhs;rw [← List.take_append_drop i T,Ms.drop_cons (0,0,0) h]
  unfold eds
  rw [List.flatMap_append,List.flatMap_cons]
  rfl
theorem eds_take {T:List T3} {i:Nat} (h:i<T.length):eds (T.take (i+1))=((eds (T.take i)++[((T.getD i (0,0,0)).1,(T.getD i (0,0,0)).2.1)])++[((T.getD i (0,0,0)).2.1,(T.getD i (0,0,0)).2.2)])++[((T.getD i (0,0,0)).2.2,(T.getD i (0,0,0)).1)]:=by
  rw [Ms.take_snoc (0,0,0) h]
  unfold eds
  rw [List.flatMap_append]
  simp [edg]
theorem dup_no {L A B:List E2} {e:E2} (h:L=A++e :: B) (he:e∈A):¬L.Nodup:=fun hn=>by
  rw [h] at hn
  exact (List.nodup_append.1 hn).2.2 e he e (List.mem_cons_self ..) rfl
theorem nd_snoc {A:List E2} {e:E2} (h:A.Nodup) (he:e ∉ A):(A++[e]).Nodup:=
  List.nodup_append.2 ⟨h,by simp,fun a ha b hb hab=>by rw [List.mem_singleton] at hb;subst hb;subst hab;exact he ha⟩
def okP (n:Nat) (l:List P2) (x:T3):Prop:=inT n x∧0<sg l*(cT l x).sign
theorem acP_n {n m:Nat} {l:List P2} {T:List T3} (hm:T.length=m):acP n l T↔(m:Int)=n - 2∧(∀j,j<m→okP n l (T.getD j (0,0,0)))∧(eds T).Nodup∧(∀e∈eds T,e.2≠nxi n e.1→(e.2,e.1)∈eds T)∧∀i:Nat,i<n→((i:Int),(((i+1)%n:Nat):Int))∈eds T:=by
  subst hm
  unfold acP
  constructor
  · rintro ⟨h1, h2, h3, h4, h5⟩
    exact ⟨h1,fun j hj=>h2 _ (Ms.getD_mem (0,0,0) hj),h3,h4,fun i hi=>by rw [← nxi_nat];exact h5 i hi⟩
  · rintro ⟨h1, h2, h3, h4, h5⟩
    refine ⟨h1,fun x hx=> ?_,h3,h4,fun i hi=>by rw [nxi_nat];exact h5 i hi⟩
    obtain ⟨j,hj,rfl⟩:=Ms.mem_getD (0,0,0) hx
    exact h2 j hj
structure MV (n:Nat) (T:List T3) (sm vis:List (E2×Bool)):Prop where
  nd:(vis.map (·.1)).Nodup
  sub:∀q∈vis.map (·.1),q∈sm.map (·.1)
  ok:∀x∈vis,x.1.2≠nxi n x.1.1→(x.1.2,x.1.1)∈eds T
theorem MV.nil {n:Nat} {T:List T3} {sm:List (E2×Bool)}:MV n T sm []:=⟨by simp,fun q h=>(by cases h),fun x h=>(by cases h)⟩
theorem MV.step {n:Nat} {T:List T3} {sm vis:List (E2×Bool)} (h:MV n T sm vis) {e:E2×Bool} (hm:e∈sm) (hn:e.1 ∉ vis.map (·.1)) (hk:e.1.2=nxi n e.1.1∨(e.1.2,e.1.1)∈eds T):MV n T sm (vis++[e]):=by
  refine ⟨?_,fun q hq=> ?_,fun x hx hne=> ?_⟩
  · rw [List.map_append];exact List.nodup_append.2 ⟨h.nd,by simp,fun a ha b hb hab=>by rw [List.map_cons,List.map_nil,List.mem_singleton] at hb;subst hb;subst hab;exact hn ha⟩
  · rw [List.map_append] at hq
    rcases List.mem_append.1 hq with hq|hq
    · exact h.sub q hq
    · rw [List.map_cons,List.map_nil,List.mem_singleton] at hq;subst hq;exact List.mem_map_of_mem hm
  · rcases List.mem_append.1 hx with hx | hx
    · exact h.ok x hx hne
    · rw [List.mem_singleton] at hx;subst hx;exact hk.resolve_left hne
theorem MV.mu {n:Nat} {T:List T3} {sm vis:List (E2×Bool)} (h:MV n T sm vis) {e:E2×Bool} (hm:e∈sm) (hn:e.1 ∉ vis.map (·.1)):sm.length - (vis++[e]).length<sm.length - vis.length:=by
  have:=nd_lt h.nd h.sub (List.mem_map_of_mem (f:=(·.1)) hm) hn
  rw [List.length_map,List.length_map] at this
  rw [List.length_append,List.length_singleton];omega
theorem MV.fin {n:Nat} {T:List T3} {sm vis:List (E2×Bool)} (h:MV n T sm vis) (hs:Sn sm (eds T)) (hp:vis.Perm sm):∀e∈eds T,e.2≠nxi n e.1→(e.2,e.1)∈eds T:=fun e he hne=>by
  obtain ⟨b,hb⟩:=hs.has he
  exact h.ok (e,b) (hp.mem_iff.2 hb) hne
theorem MV.test {n:Nat} {T:List T3} {sm:List (E2×Bool)} {e:E2×Bool} (hs:Sn sm (eds T)) (hx:¬(e.1.2≠(e.1.1+1)%(n:Int)∧(!((mget sm (e.1.2,e.1.1)).getD false))=true)):e.1.2=nxi n e.1.1∨(e.1.2,e.1.1)∈eds T:=by
  by_cases h:e.1.2=nxi n e.1.1
  · exact .inl h
  · refine .inr (hs.yes ?_)
    cases k:(mget sm (e.1.2,e.1.1)).getD false
    · exact absurd ⟨h,by rw [k];rfl⟩ hx
    · rfl
theorem eds_rng {n nt:Nat} {l:List P2} {T:List T3} (hm:T.length=nt) (h:∀j,j<nt→okP n l (T.getD j (0,0,0))) {e:E2} (he:e∈eds T):(0≤e.1∧e.1<n)∧(0≤e.2∧e.2<n):=by
  obtain ⟨x,hx,hq⟩:=List.mem_flatMap.1 he
  obtain ⟨j,hj,rfl⟩:=Ms.mem_getD (0,0,0) hx
  obtain ⟨⟨h1,h2,h3⟩,_⟩:=h j (by omega)
  unfold edg at hq
  rcases List.mem_cons.1 hq with rfl|hq
  · exact ⟨h1,h2⟩
  rcases List.mem_cons.1 hq with rfl|hq
  · exact ⟨h2,h3⟩
  rw [List.mem_singleton] at hq;subst hq
  exact ⟨h3,h1⟩
def ceC (n:Nat) (l:List P2) (T:List T3):Int:=if ck l≠0 then ck l else if acP n l T then 0 else 12
theorem ce_bad {n:Nat} {l:List P2} {T:List T3} (h:ck l≠0):ceC n l T=ck l:=by unfold ceC;rw [if_pos h]
theorem ce_no {n:Nat} {l:List P2} {T:List T3} (h:ck l=0) (h2:¬acP n l T):ceC n l T=12:=by unfold ceC;rw [if_neg (fun k=>k h),if_neg h2]
theorem ce_yes {n:Nat} {l:List P2} {T:List T3} (h:ck l=0) (h2:acP n l T):ceC n l T=0:=by unfold ceC;rw [if_neg (fun k=>k h),if_pos h2]
theorem ce_eq1 {n:Nat} {l:List P2} {T:List T3} (hn:l.length=n) (h:ck l=0∧¬acR n l T):ceC n l T=12:=ce_no h.1 fun k=>h.2 ((ac_iff h.1 hn).1 k)
theorem ce_eq2 {n:Nat} {l:List P2} {T:List T3} (hn:l.length=n) (h:¬(ck l=0∧¬acR n l T)):ceC n l T=ck l:=by
  by_cases hz:ck l=0
  · rw [hz];exact ce_yes hz ((ac_iff hz hn).2 (Classical.not_not.1 fun k=>h ⟨hz,k⟩))
  · exact ce_bad hz
end Go.Proofs.YtjcpbhlijoigfaaGreat.Pg
