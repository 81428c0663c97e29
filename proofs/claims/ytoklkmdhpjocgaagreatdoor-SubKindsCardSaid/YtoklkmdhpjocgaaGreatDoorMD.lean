/- Part of the proof: LibZU. Conditions: as each statement tells. -/
import Derived.Test.YtoklkmdhpjocgaaGreatDoorMC
noncomputable section
namespace Go.Ab
section
variable {P:Program} {B:Base} {N:Nat} {cx:Cx} {H:Hints} {r:HintR}
def Marked (B:Base) (ds:List Deferred) (w:World):Prop:=ds=[]∨∃ D,ds=[{ target:=.collected D,args:=#[] }]∧B.size≤D∧w.heap[D]?=some (.deferred (some []))
def PostR {ρ:Type} (B:Base) (N:Nat) (K:Ex→AE→Rs ρ) (z:ρ):Exit→Act→World→Prop:=fun e a w=>
 ∃ ex Γ σ,e=toExit ex∧K ex Γ=some z∧Rel B Γ N (tmOf a) w σ∧a.tmps.size=N∧Marked B a.defers w
theorem aexec_after (hcx:CxOk P cx) (hG:GOk cx.G B) (hm:P.follows .mixedOrders=true) (hH:H.fits N=true) {c:Code} {p:Nat} {ρ:Type} {Γ:AE} {K:Ex→AE→Rs ρ} {z:ρ} {a:Act} {w:World} {σ:Gh} (hf:codeFits N c=true)
  (hz:aexec cx H c p Γ K=some z) (h:Rel B Γ N (tmOf a) w σ) (hN:a.tmps.size=N) (hd:Marked B a.defers w):c.wpIn (Fr none) 0 P (PostR B N K z) a w:=by
 refine wpIn_mono (aexec_sound (ro:=none) (D:=a.defers) hcx (hG.anew h) hm hH c p hf hz h.anew hN rfl) ?_
 rintro e a' w' ⟨ex,Γ',σ',rfl,hK,hr,hN',hD⟩
 refine ⟨ex,Γ',σ',rfl,hK,h.back hr,hN',?_⟩
 rcases hd with hd|⟨D,hd,hDs,hDc⟩
 ·exact .inl (hD.trans hd)
 ·exact .inr ⟨D,hD.trans hd,hDs,h.others hr hDc rfl⟩
structure RangeOk (P:Program) (r:HintR):Prop where
 mkr:MakeOk P r.mkr r.it
 it:IterOk P r.it r.e
def rFits (N:Nat) (r:HintR) (q:RParts):Bool:=
 q.ops.toList.all (opFits N q.ops.toList)&&(codeFits N q.assign&&(codeFits N q.body&&(decide (q.i1<N)&&(decide (q.i2<N)&&(decide (q.g<N)&&(decide (r.t<N)&&(r.s.fits N&&r.t != q.g)))))))
theorem asRange_eq {c1 c2:Code} {q:RParts} (h:asRange c1 c2=some q):∃ id,c1=.region id q.ops false∧c2=.block q.b (.rangeFunc (.tmp q.g) #[q.i1,q.i2] q.assign q.body):=by
 unfold asRange at h
 split at h
 ·rename_i ps assign body
  split at h
  ·rename_i i1 i2 e
   cases h
   exact ⟨_,rfl,by rw [show ps=#[i1,i2] from by rw [←Array.toArray_toList (xs:=ps),e]]⟩
  ·cases h
 ·cases h
theorem isMaker_eq {o:Oper} {g:Nat} (h:isMaker o r g=true):∃ c,o.op=.call c∧c.callee=.value (.func r.mkr)∧c.args=#[.tmp r.t]∧o.dst=some g∧o.guard=none:=by
 unfold isMaker at h
 split at h
 ·rename_i c hc
  split at h
  ·rename_i f t h1 h2
   simp only [Bool.and_eq_true,beq_iff_eq,Option.isNone_iff_eq_none] at h
   obtain ⟨⟨⟨rfl,rfl⟩,h3⟩,h4⟩:=h
   exact ⟨c,hc,h1,by rw [←Array.toArray_toList (xs:=c.args),h2],h3,h4⟩
  ·cases h
 ·cases h
theorem rangeK_sound (hcx:CxOk P cx) (hG:GOk cx.G B) (hm:P.follows .mixedOrders=true) (hH:H.fits N=true) (hr:RangeOk P r) (hpin:∀ i b,1000≤i→B.pin i≠some b) {c1 c2:Code} {q:RParts} (hq:asRange c1 c2=some q) (hf:rFits N r q=true)
  {p:Nat} {ρ:Type} {Γ:AE} {K:Ex→AE→Rs ρ} {z:ρ} {a:Act} {w:World} {σ:Gh} (hz:rangeK cx H r q p Γ K=some z) (h:Rel B Γ N (tmOf a) w σ) (hN:a.tmps.size=N) (hd:a.defers=[]):
  (Code.seq c1 c2).wpIn (Fr none) 0 P (PostR B N K z) a w:=by
 obtain ⟨id,rfl,rfl⟩:=asRange_eq hq
 simp only [rFits,Bool.and_eq_true,decide_eq_true_eq] at hf
 obtain ⟨hops,hfa,hfb,hi1,hi2,hg,ht,hs,htg⟩:=hf
 have htg:r.t≠q.g:=by simpa using htg
 unfold rangeK at hz
 split at hz
 rotate_left
 ·cases hz
 rename_i mv cl hl
 obtain ⟨hmk,hz⟩:=(bif_some hz).elim _root_.id fun h=>by cases h.2
 simp only [Bool.and_eq_true,Option.isNone_iff_eq_none] at hmk
 obtain ⟨hmk,hfl,hmg⟩:=hmk
 obtain ⟨c,ho,hce,hca,hdst,hgd⟩:=isMaker_eq hmk
 refine wpIn_seq (wpIn_region_list ?_)
 have hops1:=opFits_fits (List.all_eq_true.1 hops mv (by rw [hl];simp))
 rw [hl]
 simp only [wpListIn]
 rw [if_pos (by simp [Region.wanted,hmg])]
 refine aop_wp hcx hG h hN hops1 hz fun v w1 Γ1 σ1 h1 hz=>?_
 obtain ⟨a1,ha1⟩:∃ a1,a.put mv.dst v=a1:=⟨_,rfl⟩
 have hN1:a1.tmps.size=N:=by rw [←ha1,size_put];exact hN
 have hd1:a1.defers=[]:=by rw [←ha1,defers_put];exact hd
 rw [ha1] at h1 ⊢
 rw [if_pos (by simp [Region.wanted,hgd])]
 split at hz
 ·cases hz
 rename_i hpd1

 obtain ⟨fv,hfv⟩:∃ fv,Value.func (.func r.it) #[] #[.pointer (some ⟨w1.heap.size,0,none⟩)]=fv:=⟨_,rfl⟩
 have hg1:Rel B (Γ1.set q.g .dead) N (tmOf (a1.put (some q.g) fv)) w1 σ1:=h1.putd hN1 fun _=>trivial
 have htm:tmOf (a1.put (some q.g) fv) r.t=tmOf a1 r.t:=by rw [tmOf_put _ (by omega),if_neg htg]
 have core:∀ {B':Base} {w2:World},(∀ i b,1000≤i→B'.pin i≠some b)→Rel B' (Γ1.set q.g .dead) N (tmOf (a1.put (some q.g) fv)) w2 σ1→∃ (x:r.s.ty.den) (l0:List r.e.den) (y:r.s.ty.den ⊕ (Ex×r.s.ty.den)) (σ2:Gh),Rel B' (r.s.enc x) N (tmOf (a1.put (some q.g) fv)) w2 σ2∧
   (r.s.enc x).get r.t=.val (.list false r.e) l0∧l0.length<2147483648∧backN (rnd cx H (2*p+1) r.s q.i1 q.i2 q.assign q.body r.e) l0 l0.length x=some y∧
   (match y with
    |.inl x'=>K .normal (r.s.enc x')
    |.inr (.normal,x')=>K .normal (r.s.enc x')
    |.inr (.exit i,x')=>bif i==q.b then K .normal (r.s.enc x') else K (.exit i) (r.s.enc x')
    |.inr (.ret,x')=>K .ret (r.s.enc x'))=some z:=by
  intro B' w2 hp hr'
  obtain ⟨Γ2,σ2,hz2,h2⟩:=Rel.renAll hp _ hr' hz
  obtain ⟨x,σ3,hz3,h3⟩:=h2.dcd hs hz2
  split at hz3
  ·rename_i t l hgt
   split at hz3
   ·rename_i he
    subst he
    obtain ⟨hlim,hz3⟩:=(bif_some hz3).elim _root_.id fun h=>by cases h.2
    obtain ⟨y,hy1,hy2⟩:=Option.bind_eq_some_iff.1 hz3
    exact ⟨x,l,y,σ3,h3,hgt,of_decide_eq_true (show decide (List.length l<2147483648)=true from hlim),hy1,hy2⟩
   ·cases hz3
  ·cases hz3
 obtain ⟨A,len,cap,hsv⟩:∃ A len cap,tmOf a1 r.t=.slice A len cap:=by
  obtain ⟨x,l0,y,σ2,g1,g2,-⟩:=core hpin hg1
  have:=get_slot g1 ht
  rw [g2,htm] at this
  obtain ⟨A,n,c,e,-⟩:=VOk.header this
  exact ⟨A,n,c,e⟩
 refine owp_of (fun c' hc'=>by rw [ho] at hc';cases hc') ?_
 rw [run_call hr.mkr.1 ho hce,Oper.uponIn_enter]
 refine ⟨fun h=>(by cases h),calls_fr ?_⟩
 have hargs:c.args.map a1.eval=#[.slice A len cap]:=by
  rw [hca,←hsv]
  simp only [List.map_toArray,List.map_cons,List.map_nil]
  rfl
 rw [hargs]
 refine (hr.mkr.2 A len cap w1).mono ?_
 rintro en w2 ⟨rfl,ty,hw2⟩
 simp only []
 rw [hfv,hdst]
 have T:Turns B w1 w2:=by rw [hw2];exact turns_alloc h1.size _
 have hg2:=hg1.turned T
 have hB1:Rel { B.anew w2 σ1 with pin:=B.pin } (Γ1.set q.g .dead) N (tmOf (a1.put (some q.g) fv)) w2 σ1:=hg2.anew.unpin B.pin fun i b hb=>by simp only [Base.anew,hb]
 obtain ⟨x,l0,y,σ2,g1,g2,gl,g3,g4⟩:=core (B':={ B.anew w2 σ1 with pin:=B.pin }) hpin hB1
 have hcell:w2.cell? ⟨w1.heap.size,0,none⟩=some (tmOf (a1.put (some q.g) fv) r.t):=by
  rw [htm,hsv,hw2]
  have:=World.alloc_heap_new w1 (.cells #[.slice A len cap] ty)
  unfold World.cell?
  rw [this]
  rfl
 have hsz2:w1.heap.size<w2.heap.size:=by rw [hw2];simp
 refine wpIn_block (wpIn_mono (range_sound (B:={ B.anew w2 σ1 with pin:=B.pin }) (a:=a1.put (some q.g) fv) (p:=2*p+1) (it:=r.it) (Bs:=w1.heap.size) hcx (hG.anew hg2) hm hH hfa hfb hs hfl hi1 hi2 (by rw [size_put];exact hN1) ht g1 g2 ?_ hr.it gl hcell hsz2
  (fun ho=>Nat.lt_irrefl _ (h1.lt ho)) g3 (by rw [defers_put];exact hd1)) ?_)
 ·show tmOf (a1.put (some q.g) fv) q.g=_
  rw [tmOf_put _ (by omega),if_pos rfl,←hfv]
 ·rintro en a3 w3 ⟨D,rfl,hN3,hd3,hDs,hDc,σ3,hr3⟩
  have hDs:w2.heap.size≤D:=hDs
  have hb3:Rel B (r.s.enc (yOf y).2) N (tmOf a3) w3 σ3:=hg2.backP (fun _ _ h=>h) hr3
  have hmk3:Marked B a3.defers w3:=.inr ⟨D,hd3,Nat.le_trans hg2.size hDs,hDc⟩
  cases y with
  |inl x'=>exact ⟨.normal,_,σ3,rfl,g4,hb3,hN3,hmk3⟩
  |inr ex=>
   obtain ⟨ex,x'⟩:=ex
   cases ex with
   |normal=>exact ⟨.normal,_,σ3,rfl,g4,hb3,hN3,hmk3⟩
   |ret=>exact ⟨.ret,_,σ3,rfl,g4,hb3,hN3,hmk3⟩
   |exit i=>
    simp only [yOf,toExit,Exit.inBlock]
    rcases bif_some g4 with ⟨hi,g4⟩|⟨hi,g4⟩
    ·rw [if_pos (by simpa using hi)]
     exact ⟨.normal,_,σ3,rfl,g4,hb3,hN3,hmk3⟩
    ·rw [if_neg (by simpa using hi)]
     exact ⟨.exit i,_,σ3,rfl,g4,hb3,hN3,hmk3⟩
def codeFitsR (N:Nat) (r:HintR):Code→Bool
 |.seq a b=>match asRange a b with
  |some q=>rFits N r q
  |none=>bif hasRange a then codeFitsR N r a&&codeFits N b else codeFits N a&&codeFitsR N r b
 |c=>codeFits N c
theorem aexecR_sound (hcx:CxOk P cx) (hG:GOk cx.G B) (hm:P.follows .mixedOrders=true) (hH:H.fits N=true) (hr:RangeOk P r) (hpin:∀ i b,1000≤i→B.pin i≠some b):∀ (c:Code) (p:Nat) {ρ:Type} {Γ:AE} {K:Ex→AE→Rs ρ} {z:ρ} {a:Act} {w:World} {σ:Gh} (_:codeFitsR N r c=true)
  (_:aexecR cx H r c p Γ K=some z) (_:Rel B Γ N (tmOf a) w σ) (_:a.tmps.size=N) (_:a.defers=[]),c.wpIn (Fr none) 0 P (PostR B N K z) a w:=by
 intro c
 induction c with
 |seq x y ihx ihy=>
  intro p ρ Γ K z a w σ hf hz h hN hD
  simp only [codeFitsR] at hf
  simp only [aexecR] at hz
  split at hz
  ·rename_i q hq
   rw [hq] at hf
   exact rangeK_sound hcx hG hm hH hr hpin hq hf hz h hN hD
  ·rename_i hq
   rw [hq] at hf
   simp only [] at hf
   refine wpIn_seq ?_
   cases hx:hasRange x with
   |true=>
    rw [hx] at hf hz
    simp only [cond_true,Bool.and_eq_true] at hf hz
    refine wpIn_mono (ihx _ hf.1 hz h hN hD) ?_
    rintro e a' w' ⟨ex,Γ',σ',rfl,hK,hr',hN',hD'⟩
    cases ex with
    |normal=>exact aexec_after hcx hG hm hH hf.2 hK hr' hN' hD'
    |exit i=>exact ⟨.exit i,Γ',σ',rfl,hK,hr',hN',hD'⟩
    |ret=>exact ⟨.ret,Γ',σ',rfl,hK,hr',hN',hD'⟩
   |false=>
    rw [hx] at hf hz
    simp only [cond_false,Bool.and_eq_true] at hf hz
    refine wpIn_mono (aexec_sound (ro:=none) (D:=[]) hcx hG hm hH x _ hf.1 hz h hN hD) ?_
    rintro e a' w' ⟨ex,Γ',σ',rfl,hK,hr',hN',hD'⟩
    cases ex with
    |normal=>exact ihy _ hf.2 hK hr' hN' hD'
    |exit i=>exact ⟨.exit i,Γ',σ',rfl,hK,hr',hN',.inl hD'⟩
    |ret=>exact ⟨.ret,Γ',σ',rfl,hK,hr',hN',.inl hD'⟩
 |_=>
  intro p ρ Γ K z a w σ hf hz h hN hD
  refine aexec_after hcx hG hm hH (p:=p) (Γ:=Γ) (σ:=σ) ?_ ?_ h hN (.inl hD)
  ·simpa only [codeFitsR] using hf
  ·simpa only [aexecR] using hz
end
def fnOkR (fn:Func) (c:Code) (H:Hints) (r:HintR) (s:FSem):Bool:=
 codeFitsR fn.ntmps r c&&(H.fits fn.ntmps&&(decide (s.ps.length≤fn.ntmps)&&(decide (s.ps.length≤1000)&&fn.results.toList.all fun r=>srcOk fn.ntmps (.inl r))))
section
variable {P:Program} {cx:Cx}
theorem refIdx_bound:∀ (ps:List PA) (i0 i:Nat),i∈refIdx ps i0→i<i0+ps.length
 | [],_,_,h=>by simp [refIdx] at h
 |.v _::ps,i0,i,h=>by
  have:=refIdx_bound ps (i0+1) i h
  simp only [List.length_cons];omega
 |.r _::ps,i0,i,h=>by
  simp only [List.length_cons]
  rcases List.mem_cons.1 h with rfl|h
  ·omega
  ·have:=refIdx_bound ps (i0+1) i h
   omega
theorem FSound.ofR (hcx:CxOk P cx) (hm:P.follows .mixedOrders=true) {f:FuncId} {fn:Func} {c:Code} {H:Hints} {r:HintR} {s:FSem} (hro:RangeOk P r) (hfn:P.funcs[f]?=some fn) (hb:fn.body=some c) (hok:fnOkR fn c H r s=true)
  (heq:∀ x,arunR cx H r fn s.ps s.rs x=s.F x):FSound P cx.G f s:=by
 simp only [fnOkR,Bool.and_eq_true,decide_eq_true_eq] at hok
 obtain ⟨hfit,hH,hps,hps1000,hres⟩:=hok
 intro w B0 σ args x y hG hy hB hhp hov hargs hrel0 hpins0
 obtain ⟨B,hBe⟩:∃ B:Base,{ B0 with pin:=fun i=>bif decide (i<1000) then B0.pin i else none }=B:=⟨_,rfl⟩
 have hrel:Rel B (ini s.ps x) s.ps.length (fun i=>args.getD i undef) w σ:=by
  rw [←hBe]
  refine hrel0.unpin _ fun i b hb=>?_
  cases hd:decide (i<1000)<;>rw [hd] at hb
  ·cases hb
  ·exact hb
 have hpin:∀ i b,1000≤i→B.pin i≠some b:=by
  rw [←hBe]
  intro i b hi hc
  have:decide (i<1000)=false:=by simp;omega
  simp only [this,cond_false] at hc
  cases hc
 have hpins:∀ i∈refIdx s.ps 0,∃ b,B.pin i=some b∧args.getD i undef=.pointer (some ⟨b,0,none⟩):=by
  intro i hi
  obtain ⟨b,h1,h2⟩:=hpins0 i hi
  refine ⟨b,?_,h2⟩
  have hlt:i<s.ps.length:=by have:=refIdx_bound s.ps 0 i hi;omega
  have:decide (i<1000)=true:=by simp;omega
  rw [←hBe]
  simp only [this,cond_true,h1]
 have hG:GOk cx.G B:=by rw [←hBe];exact hG
 have hback:∀ {w' its vs Ls},Back B w' its vs Ls→Back B0 w' its vs Ls:=fun {w' its vs Ls} h=>by
  rw [←hBe] at h
  exact ⟨h.lv,h.ll,h.ok,h.nodup,h.disj,h.live,h.mine,h.size,h.frame,h.still⟩
 rw [←heq x] at hy
 simp only [arunR,hb] at hy
 let a:Act:={ tmps:=args++Array.replicate (fn.ntmps-args.size) undef,defers:=[] }
 have hsz:a.tmps.size=fn.ntmps:=by simp [a];omega
 have hrel':Rel B (ini s.ps x) fn.ntmps (tmOf a) w σ:=by
  refine ⟨hrel.roots,hrel.norm,hrel.nodup,hrel.disj,hrel.live,fun i hi=>?_,hrel.pend,hrel.size,hrel.frame,hrel.mine,hrel.pins,hrel.still⟩
  by_cases hlt:i<s.ps.length
  ·have:=hrel.slots i hlt
   have e:tmOf a i=args.getD i undef:=by
    simp only [tmOf,a,Array.getD_eq_getD_getElem?,Array.getElem?_append]
    rw [if_pos (by omega)]
   rw [e];exact this
  ·have:(ini s.ps x).sl i=.one .dead:=by
    simp only [ini]
    rw [List.getElem?_eq_none (by rw [pitems_length];omega)]
   rw [this];trivial
 refine callsIn_wide.1 (callsIn_of_wp_marks (F:=Fr none) (n:=0) hfn hb trivial (wpIn_mono (aexecR_sound hcx hG hm hH hro hpin c 1 hfit hy hrel' hsz rfl) ?_))
 rintro e a' w' ⟨ex,Γ',σ',rfl,hK,hr,hN,hD⟩
 simp only [] at hK
 have key:(∀ i,ex≠.exit i)∧Γ'.pd=none∧(Γ'.upto fn.ntmps).outs cx [] fn.ntmps (RA.all s.ps s.rs) (fn.results.toList.map .inl++(refIdx s.ps 0).map fun i=>.inr (pinned+i)) (fun y _=>some y)=some y:=by
  cases hpd:Γ'.pd with
  |some p=>rw [hpd] at hK;cases ex<;>simp only [] at hK<;>cases hK
  |none=>
   rw [hpd] at hK
   cases ex with
   |exit i=>simp only [] at hK;cases hK
   |normal=>exact ⟨by simp,rfl,hK⟩
   |ret=>exact ⟨by simp,rfl,hK⟩
 obtain ⟨hex,hpd,hK⟩:=key
 have hleave:LeavesInM (Fr none) 0 P fn a'.tmps (fun e w'=>∃ vr Ls,e=.returned (packV vr)∧vr.length=s.rs.length∧Back B0 w' (items (RA.all s.ps s.rs) y) (vr++(refIdx s.ps 0).map fun i=>args.getD i undef) Ls) a'.defers .returning w':=by
  rcases hD with hD|⟨D,hD,hDs,hDc⟩
  ·rw [hD]
   obtain ⟨v,hrun,vr,Ls,h1,h2,h3⟩:=leave_sound (args:=args) hcx.toCxTy hres hr hpd hK hpins
   exact ⟨v,hrun,vr,Ls,h1,h2,hback h3⟩
  ·rw [hD]
   have hr':=hr.turned (turns_putObj hDc rfl hDs (.deferred none))
   obtain ⟨v,hrun,vr,Ls,h1,h2,h3⟩:=leave_sound (args:=args) hcx.toCxTy hres hr' hpd hK hpins
   exact ⟨by simp,.inl ⟨D,_,rfl,run_takeDeferred hDc,v,hrun,vr,Ls,h1,h2,hback h3⟩⟩
 cases ex with
 |exit i=>exact absurd rfl (hex i)
 |normal=>exact hleave
 |ret=>exact hleave
end
end Go.Ab
