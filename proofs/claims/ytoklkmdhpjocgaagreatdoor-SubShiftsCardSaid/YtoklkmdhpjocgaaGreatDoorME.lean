/- Part of the proof: QK, QO, QP, QQ, QR, QS, QT, QU, QV, QW, QX, QY, QZA, QZB, QZC, QZD, QZE, QZF, QZG, QZH, QZI, QZJ, QZK, QZL, QZM, R. Conditions: as each statement tells. -/
import Derived.KernelRfl
import Derived.Test.YtoklkmdhpjocgaaGreatDoorRows
import Derived.ProofKit
import Derived.LaidMore
import Derived.LaidLaws
import Derived.LaidHandle
import Derived.LaidByTextLater
import Derived.OpenShut
import Derived.Handed
import Derived.Test.YtoklkmdhpjocgaaGreatDoorMD
noncomputable section
namespace Go.Ab
def castZ (zn:List Nat):List Int:=zn.map fun (a:Nat)=>(a:Int)
theorem sum_replicate (n M:Nat):(List.replicate n M).sum=n*M:=by
 induction n with
 |zero=>simp
 |succ n ih=>rw [List.replicate_succ,List.sum_cons,ih,Nat.succ_mul,Nat.add_comm]
theorem sizes_facts {o n warm:Int} (h:(sizesI o n warm).length≠0):∃ zn:List Nat,sizesI o n warm=castZ zn∧(zn.sum:Int)=n-warm∧zn.length≤256:=by
 unfold sizesI at h ⊢
 cases hr:(rowB n warm&&(decide (0≤o)&&decide (o≤8))) with
 |false=>rw [hr] at h;simp at h
 |true=>
  rw [hr] at h
  simp only [cond_true] at h ⊢
  simp only [rowB,Bool.and_eq_true,decide_eq_true_eq] at hr
  unfold sizesN at h ⊢
  split at h
  ·rename_i hc
   rw [if_pos hc]
   obtain ⟨O,rfl⟩:=Int.eq_ofNat_of_zero_le hr.2.1
   obtain ⟨N,rfl⟩:=Int.eq_ofNat_of_zero_le (show 0≤n by omega)
   obtain ⟨w,rfl⟩:=Int.eq_ofNat_of_zero_le (show 0≤warm by omega)
   simp only [Int.toNat_natCast] at hc ⊢
   have hp:=pow8 (o:=O) (by omega)
   have hm:=Nat.div_add_mod N (2^O)
   rw [hc.1,Nat.add_zero] at hm
   have hw:w≤N / 2^O:=by have:=hc.2;omega
   generalize N / 2^O=M at hc hw hm ⊢
   generalize 2^O=P at hp hm ⊢
   refine ⟨(M-w)::List.replicate (P-1) M,?_,?_,?_⟩
   ·simp only [castZ,List.map_cons,List.map_replicate]
    congr 1
    omega
   ·rw [List.sum_cons,sum_replicate]
    obtain ⟨q,rfl⟩:∃ q,P=q+1:=⟨P-1,by omega⟩
    rw [Nat.add_sub_cancel]
    rw [Nat.succ_mul] at hm
    omega
   ·simp;omega
  ·exact absurd rfl h
def partL (k:Int) (part L:List Int):List Int:=
 if k=31 then putsL (widthN part) part (putL ((widthN part:Nat):Int) 5 (putL (IntKind.wrap .u64 k) 5 L)) else ricesL k.toNat part (putL (IntKind.wrap .u64 k) 5 L)
def partsL:List Nat→List Int→List Int→List Int→List Int
 |z::zs,k::ks,l,L=>partsL zs ks (l.drop z) (partL k (l.take z) L)
 |_,_,_,L=>L
theorem partL_length {k:Int} (hk:kB k=true) (part L:List Int):L.length≤(partL k part L).length∧(partL k part L).length≤L.length+10+100*part.length:=by
 unfold partL
 have h1:=putL_length (IntKind.wrap .u64 k) 5 L
 split
 ·have h2:=putL_length ((widthN part:Nat):Int) 5 (putL (IntKind.wrap .u64 k) 5 L)
  have h3:=putsL_length (widthN part) part (putL ((widthN part:Nat):Int) 5 (putL (IntKind.wrap .u64 k) 5 L))
  have hw:=widthN_le part
  have:widthN part*part.length≤32*part.length:=Nat.mul_le_mul_right _ hw
  omega
 ·rename_i hne
  simp only [kB,Bool.or_eq_true,Bool.and_eq_true,decide_eq_true_eq,beq_iff_eq] at hk
  have h3:=ricesL_length (k:=k.toNat) (by omega) part (putL (IntKind.wrap .u64 k) 5 L)
  omega
theorem castZ_get {zn:List Nat} {i:Nat} (h:i<zn.length):List.getD (castZ zn) i 0=((zn[i]:Nat):Int):=by
 rw [getD_get (by simpa [castZ] using h)];simp [castZ]
theorem castZ_length (zn:List Nat):(castZ zn).length=zn.length:=by simp [castZ]
theorem sum_drop {zn:List Nat} {i:Nat} (h:i<zn.length):(zn.drop i).sum=zn[i]+(zn.drop (i+1)).sum:=by
 rw [List.drop_eq_getElem_cons h,List.sum_cons]
theorem raw_loop {part rest:List Int} {wd:Nat} {a b:Int} {z:List Int} {p:Prt} (hw:wd≤32) (hp:part.length<10000):∀ (j i:Nat) (L:List Int),i+j=part.length→L.length+64*j<999990000→
  iter F_parts_Put_l0 (rest,((wd:Int),(a,(b,(part,((part.length:Int),((i:Int),(z,(wL L,(p,()))))))))))=some (rest,(a,(b,(z,(wL (putsL wd (part.drop i) L),(p,()))))))
 |0,i,L,hi,_=>by
  obtain rfl:i=part.length:=by omega
  rw [List.drop_length]
  exact iter_done (by simp [F_parts_Put_l0,putsL])
 |j+1,i,L,hi,hb=>by
  have hlt:i<part.length:=by omega
  have h2:decide ((wd:Int)<0)=false:=by simp
  have hpl:=putL_length (maskS part[i] wd) wd L
  rw [List.drop_eq_getElem_cons hlt,iter_step (s':=(rest,((wd:Int),(a,(b,(part,((part.length:Int),(((i+1:Nat):Int),(z,(wL (putL (maskS part[i] wd) wd L),(p,()))))))))))) (by
   simp only [F_parts_Put_l0,dlt hlt,cond_true,gidx_get hlt,Option.bind_some,h2,cond_false,show bits .u64 .and (IntKind.wrap .u64 part[i]) (IntKind.wrap .u64 ((gshl .u64 1 (wd:Int))-1))=maskS part[i] wd from rfl,Put_eq (show wd≤63 by omega) (show L.length<999999000 by omega),wrap_succ (show i<1000000 by omega)])]
  exact raw_loop hw hp j (i+1) _ (by omega) (by omega)
theorem parts_put_loop {zn:List Nat} {p:Prt} (hk:p.2.1.length=zn.length) (hall:p.2.1.all kB=true) (hz:zn.length≤256):∀ (j i:Nat) (l L:List Int),i+j=zn.length→(zn.drop i).sum=l.length→l.all wideB=true→l.length≤5000→L.length+10*j+100*l.length<800000000→
  iter F_parts_Put_l1 (l,((zn.length:Int),((i:Int),(castZ zn,(wL L,(p,()))))))=some (wL (partsL (zn.drop i) (p.2.1.drop i) l L),())
 |0,i,l,L,hi,_,_,_,_=>by
  obtain rfl:i=zn.length:=by omega
  rw [List.drop_length]
  exact iter_done (by simp [F_parts_Put_l1,partsL])
 |j+1,i,l,L,hi,hsum,hw,hl5,hb=>by
  have hlt:i<zn.length:=by omega
  have hki:i<p.2.1.length:=by omega
  have hkb:=List.all_eq_true.1 hall _ (List.getElem_mem hki)
  rw [sum_drop hlt] at hsum
  have h0:decide ((0:Int)≤(i:Int))=true:=by simp
  have h1:decide ((i:Int)<(((castZ zn).length:Nat):Int))=true:=by rw [castZ_length];simp;omega
  have h2:decide ((0:Int)≤((zn[i]:Nat):Int))=true:=by simp
  have h3:decide (((zn[i]:Nat):Int)≤((l.length:Nat):Int))=true:=by simp;omega
  have hpart:(l.take zn[i]).length=zn[i]:=by rw [List.length_take];omega
  have hrest:(l.drop zn[i]).length=(zn.drop (i+1)).sum:=by rw [List.length_drop];omega
  have hwp:(l.take zn[i]).all wideB=true:=List.all_eq_true.2 fun x hx=>List.all_eq_true.1 hw x (List.mem_of_mem_take hx)
  have hwr:(l.drop zn[i]).all wideB=true:=List.all_eq_true.2 fun x hx=>List.all_eq_true.1 hw x (List.mem_of_mem_drop hx)
  have hpl:=partL_length hkb (l.take zn[i]) L
  have hp1:=putL_length (IntKind.wrap .u64 p.2.1[i]) 5 L
  have hput:F_bits_Writer_Put (wL L,(IntKind.wrap .u64 p.2.1[i],(5:Int)))=some (putE (IntKind.wrap .u64 p.2.1[i]) 5,wL (putL (IntKind.wrap .u64 p.2.1[i]) 5 L)):=Put_eq (n:=5) (by omega) (by omega)
  have ed:zn.drop i=zn[i]::zn.drop (i+1):=List.drop_eq_getElem_cons hlt
  have ek:p.2.1.drop i=p.2.1[i]::p.2.1.drop (i+1):=List.drop_eq_getElem_cons hki
  rw [ed,ek,partsL]
  have goal:F_parts_Put_l1 (l,((zn.length:Int),((i:Int),(castZ zn,(wL L,(p,()))))))=some (.inl (l.drop zn[i],((zn.length:Int),(((i+1:Nat):Int),(castZ zn,(wL (partL p.2.1[i] (l.take zn[i]) L),(p,()))))))):=by
   by_cases h31:p.2.1[i]=31
   ·have hne:(p.2.1[i] != 31)=false:=by rw [h31];rfl
    have hwd:=widthN_le (l.take zn[i])
    have hsw:=sample_Width_eq (l:=l.take zn[i]) (by unfold short;omega)
    have hp2:=putL_length ((widthN (l.take zn[i]):Nat):Int) 5 (putL (IntKind.wrap .u64 p.2.1[i]) 5 L)
    have ew:IntKind.wrap .u64 ((widthN (l.take zn[i]):Nat):Int)=((widthN (l.take zn[i]):Nat):Int):=wrapu64 (by omega)
    have hput2:F_bits_Writer_Put (wL (putL (IntKind.wrap .u64 p.2.1[i]) 5 L),(((widthN (l.take zn[i]):Nat):Int),(5:Int)))=some (putE ((widthN (l.take zn[i]):Nat):Int) 5,wL (putL ((widthN (l.take zn[i]):Nat):Int) 5 (putL (IntKind.wrap .u64 p.2.1[i]) 5 L))):=Put_eq (n:=5) (by omega) (by omega)
    have hraw:=raw_loop (part:=l.take zn[i]) (rest:=l.drop zn[i]) (a:=(zn.length:Int)) (b:=(i:Int)) (z:=castZ zn) (p:=p) hwd (by omega) (l.take zn[i]).length 0 (putL ((widthN (l.take zn[i]):Nat):Int) 5 (putL (IntKind.wrap .u64 p.2.1[i]) 5 L)) (by omega) (by omega)
    simp only [Int.natCast_zero,List.drop_zero] at hraw
    simp only [F_parts_Put_l1,dlt hlt,h0,h1,castZ_get hlt,h2,h3,cond_true,Bool.and_self,Int.toNat_natCast,gidx_get hki,Option.bind_some,hput,hne,cond_false,hsw,ew,hput2,List.take_length,hraw,wrap_succ (show i<1000000 by omega),partL,if_pos h31]
   ·have hne:(p.2.1[i] != 31)=true:=by simp [h31]
    simp only [kB,Bool.or_eq_true,Bool.and_eq_true,decide_eq_true_eq,beq_iff_eq] at hkb
    obtain ⟨K,hK⟩:=Int.eq_ofNat_of_zero_le (show 0≤p.2.1[i] by omega)
    have hrice:=rice_Put_eq (k:=K) (l:=l.take zn[i]) (L:=putL (IntKind.wrap .u64 p.2.1[i]) 5 L) (by omega) (by omega) hwp (by omega)
    rw [←hK] at hrice
    have eK:K=p.2.1[i].toNat:=by rw [hK,Int.toNat_natCast]
    simp only [F_parts_Put_l1,dlt hlt,h0,h1,castZ_get hlt,h2,h3,cond_true,Bool.and_self,Int.toNat_natCast,gidx_get hki,Option.bind_some,hput,hne,hrice,List.take_length,wrap_succ (show i<1000000 by omega),partL,if_neg h31,eK]
  rw [iter_step goal]
  exact parts_put_loop hk hall hz j (i+1) (l.drop zn[i]) _ (by omega) hrest.symm hwr (by rw [List.length_drop];omega) (by rw [List.length_drop];omega)
end Go.Ab
namespace Go.Ab
theorem rice_Cost_some {k:Nat} (hk:k≤25) {x:Int} (hw:wideB x=true):∃ c,F_rice_Cost ((k:Int),x)=some c∧0≤c∧c≤65:=by
 have hy:=foldN_lt hw
 have eq:gshr .u64 ((foldN x:Nat):Int) (k:Int)=((foldN x / 2^k:Nat):Int):=gshru_nat (by omega)
 have ew:IntKind.wrap .i64 ((foldN x / 2^k:Nat):Int)=((foldN x / 2^k:Nat):Int):=wrap_nat (Nat.lt_of_le_of_lt (Nat.div_le_self _ _) hy)
 have hk0:decide ((k:Int)<0)=false:=by simp
 unfold F_rice_Cost
 simp only [rice_parameter_eq hk,rice_wide_eq,hw,Option.bind_some,Bool.not_true,cond_false,rice_Fold_eq hw,hk0,eq,ew]
 generalize foldN x / 2^k=q
 by_cases hq:q<32
 ·have hd:decide ((q:Int)<32)=true:=decide_eq_true (by omega)
  refine ⟨(q:Int)+1+k,?_,by omega,by omega⟩
  simp only [hd,cond_true]
  rw [wrap64 (n:=(q:Int)+1) (by omega),wrap64 (by omega)]
 ·have hd:decide ((q:Int)<32)=false:=decide_eq_false (by omega)
  exact ⟨65,by simp only [hd,cond_false],by omega,by omega⟩
theorem rice_Sum_some {k:Nat} (hk:k≤25) {l:List Int} (hw:l.all wideB=true) (hl:l.length<10000):∃ c,F_rice_Sum ((k:Int),l)=some c∧0≤c∧c≤65*l.length:=by
 have key:∀ (j i:Nat) (c:Int),i+j=l.length→0≤c→c≤65*i→∃ c',iter F_rice_Sum_l0 ((k:Int),(c,(l,((l.length:Int),((i:Int),())))))=some (c',())∧0≤c'∧c'≤65*l.length:=by
  intro j
  induction j with
  |zero=>
   intro i c hi h0 h1
   obtain rfl:i=l.length:=by omega
   exact ⟨c,iter_done (by simp [F_rice_Sum_l0]),h0,h1⟩
  |succ j ih=>
   intro i c hi h0 h1
   have hlt:i<l.length:=by omega
   obtain ⟨d,hd,hd0,hd1⟩:=rice_Cost_some hk (List.all_eq_true.1 hw _ (List.getElem_mem hlt))
   have e:IntKind.wrap .i64 (c+d)=c+d:=wrap64 (by omega)
   rw [iter_step (s':=((k:Int),(c+d,(l,((l.length:Int),(((i+1:Nat):Int),())))))) (by simp only [F_rice_Sum_l0,dlt hlt,cond_true,gidx_get hlt,Option.bind_some,hd,e,wrap_succ (show i<1000000 by omega)])]
   exact ih (i+1) _ (by omega) (by omega) (by omega)
 obtain ⟨c,h1,h2,h3⟩:=key l.length 0 0 (by omega) (by omega) (by omega)
 simp only [Int.natCast_zero] at h1
 exact ⟨c,by unfold F_rice_Sum;simp only [h1,Option.bind_some],h2,h3⟩
theorem mul_width {w n:Nat} (hw:w≤32) (hn:n<10000):0≤(w:Int)*(n:Int)∧(w:Int)*(n:Int)≤32*n:=by
 have h:w*n≤32*n:=Nat.mul_le_mul_right _ hw
 have e:(w:Int)*(n:Int)=((w*n:Nat):Int):=by rw [Int.natCast_mul]
 omega
theorem parts_raw_some {l:List Int} (hl:l.length<10000):∃ c,F_parts_raw l=some c∧0≤c∧c≤5+32*l.length:=by
 have hm:=mul_width (widthN_le l) hl
 refine ⟨5+((widthN l:Nat):Int)*((l.length:Nat):Int),?_,by omega,by omega⟩
 unfold F_parts_raw
 simp only [sample_Width_eq (show short l by unfold short;omega),Option.bind_some]
 rw [wrap64 (n:=((widthN l:Nat):Int)*((l.length:Nat):Int)) (by omega),wrap64 (by omega)]
theorem parts_cost_loop {zn:List Nat} {p:Prt} (hk:p.2.1.length=zn.length) (hall:p.2.1.all kB=true) (hz:zn.length≤256):∀ (j i:Nat) (l:List Int) (c:Int),i+j=zn.length→(zn.drop i).sum=l.length→l.all wideB=true→l.length≤5000→4≤c→c+10*j+65*l.length<1000000→
  ∃ c',iter F_parts_Cost_l0 (l,(c,((zn.length:Int),((i:Int),(castZ zn,(p,()))))))=some (c',())∧4≤c'
 |0,i,l,c,hi,_,_,_,hc,_=>by
  obtain rfl:i=zn.length:=by omega
  exact ⟨c,iter_done (by simp [F_parts_Cost_l0]),hc⟩
 |j+1,i,l,c,hi,hsum,hw,hl5,hc,hb=>by
  have hlt:i<zn.length:=by omega
  have hki:i<p.2.1.length:=by omega
  have hkb:=List.all_eq_true.1 hall _ (List.getElem_mem hki)
  rw [sum_drop hlt] at hsum
  have h0:decide ((0:Int)≤(i:Int))=true:=by simp
  have h1:decide ((i:Int)<(((castZ zn).length:Nat):Int))=true:=by rw [castZ_length];simp;omega
  have h2:decide ((0:Int)≤((zn[i]:Nat):Int))=true:=by simp
  have h3:decide (((zn[i]:Nat):Int)≤((l.length:Nat):Int))=true:=by simp;omega
  have hpart:(l.take zn[i]).length=zn[i]:=by rw [List.length_take];omega
  have hrest:(l.drop zn[i]).length=(zn.drop (i+1)).sum:=by rw [List.length_drop];omega
  have hwp:(l.take zn[i]).all wideB=true:=List.all_eq_true.2 fun x hx=>List.all_eq_true.1 hw x (List.mem_of_mem_take hx)
  have hwr:(l.drop zn[i]).all wideB=true:=List.all_eq_true.2 fun x hx=>List.all_eq_true.1 hw x (List.mem_of_mem_drop hx)
  have goal:∃ d,F_parts_Cost_l0 (l,(c,((zn.length:Int),((i:Int),(castZ zn,(p,()))))))=some (.inl (l.drop zn[i],(c+d,((zn.length:Int),(((i+1:Nat):Int),(castZ zn,(p,())))))))∧0≤d∧d≤10+65*zn[i]:=by
   by_cases h31:p.2.1[i]=31
   ·have hne:(p.2.1[i]==31)=true:=by rw [h31];rfl
    obtain ⟨r,hr,hr0,hr1⟩:=parts_raw_some (l:=l.take zn[i]) (by omega)
    have e1:IntKind.wrap .i64 (5+r)=5+r:=wrap64 (by omega)
    have e2:IntKind.wrap .i64 (c+(5+r))=c+(5+r):=wrap64 (by omega)
    refine ⟨5+r,?_,by omega,by omega⟩
    simp only [F_parts_Cost_l0,dlt hlt,h0,h1,castZ_get hlt,h2,h3,cond_true,Bool.and_self,Int.toNat_natCast,gidx_get hki,Option.bind_some,hne,hr,e1,e2,List.take_length,wrap_succ (show i<1000000 by omega)]
   ·have hne:(p.2.1[i]==31)=false:=by simp [h31]
    simp only [kB,Bool.or_eq_true,Bool.and_eq_true,decide_eq_true_eq,beq_iff_eq] at hkb
    obtain ⟨K,hK⟩:=Int.eq_ofNat_of_zero_le (show 0≤p.2.1[i] by omega)
    obtain ⟨r,hr,hr0,hr1⟩:=rice_Sum_some (k:=K) (by omega) hwp (by omega)
    rw [←hK] at hr
    have e1:IntKind.wrap .i64 (5+r)=5+r:=wrap64 (by omega)
    have e2:IntKind.wrap .i64 (c+(5+r))=c+(5+r):=wrap64 (by omega)
    refine ⟨5+r,?_,by omega,by omega⟩
    simp only [F_parts_Cost_l0,dlt hlt,h0,h1,castZ_get hlt,h2,h3,cond_true,cond_false,Bool.and_self,Int.toNat_natCast,gidx_get hki,Option.bind_some,hne,hr,e1,e2,List.take_length,wrap_succ (show i<1000000 by omega)]
  obtain ⟨d,hd,hd0,hd1⟩:=goal
  rw [iter_step hd]
  exact parts_cost_loop hk hall hz j (i+1) (l.drop zn[i]) _ (by omega) hrest.symm hwr (by rw [List.length_drop];omega) (by omega) (by rw [List.length_drop];omega)
structure PartsOk (p:Prt) (n warm:Int) (l:List Int) (zn:List Nat):Prop where
 may:partsB p n warm=true
 sizes:sizesI p.1 n warm=castZ zn
 sum:zn.sum=l.length
 len:zn.length≤256
 ks:p.2.1.length=zn.length
 all:p.2.1.all kB=true
 wide:l.all wideB=true
 short:l.length≤5000
 row:rowB n warm=true
 rest:(l.length:Int)=n-warm
 order:0≤p.1∧p.1≤8
theorem PartsOk.of {p:Prt} {n warm:Int} {l:List Int} (h:partsB p n warm=true) (hl:(l.length:Int)=n-warm) (hw:l.all wideB=true) (h5:l.length≤5000):∃ zn,PartsOk p n warm l zn:=by
 have h':=h
 simp only [partsB,Bool.and_eq_true,Bool.not_eq_true',beq_eq_false_iff_ne,ne_eq,beq_iff_eq] at h'
 obtain ⟨h1,h2,h3⟩:=h'
 obtain ⟨zn,g1,g2,g3⟩:=sizes_facts h1
 have hr:rowB n warm=true∧0≤p.1∧p.1≤8:=by
  unfold sizesI at h1
  cases hr:(rowB n warm&&(decide (0≤p.1)&&decide (p.1≤8))) with
  |false=>rw [hr] at h1;simp at h1
  |true=>simpa using hr
 exact ⟨zn,h,g1,by omega,g3,by rw [←h2,g1,castZ_length],h3,hw,h5,hr.1,hl,hr.2⟩
theorem parts_right_eq {n warm:Int} {l:List Int} (hr:rowB n warm=true) (hl:(l.length:Int)=n-warm) (hw:l.all wideB=true) (h5:l.length≤5000):F_parts_right (n,(warm,l))=some true:=by
 have e:IntKind.wrap .i64 (n-warm)=n-warm:=by
  simp only [rowB,Bool.and_eq_true,decide_eq_true_eq] at hr
  exact wrap64 (by omega)
 have h1:(((l.length:Nat):Int) != n-warm)=false:=by rw [hl];simp
 have e2:F_parts_right_l0=F_sub_allWide_l0:=rfl
 have hs:short l:=by unfold short;omega
 have ha:=sub_allWide_eq hs
 unfold F_sub_allWide at ha
 unfold F_parts_right
 simp only [parts_row_eq,hr,Option.bind_some,Bool.not_true,cond_false,e,h1,e2]
 rw [hw] at ha
 exact ha
theorem parts_Cost_some {p:Prt} {n warm:Int} {l:List Int} {zn:List Nat} (h:PartsOk p n warm l zn):∃ c,F_parts_Cost (p,(n,(warm,l)))=some c∧4≤c:=by
 have hk:Go.Ab.short p.2.1:=by have:=h.ks;have:=h.len;unfold Go.Ab.short;omega
 have h5:=h.short
 have hz:=h.len
 obtain ⟨c,h1,h2⟩:=parts_cost_loop h.ks h.all h.len zn.length 0 l 4 (by omega) (by rw [List.drop_zero];exact h.sum) h.wide h.short (by omega) (by omega)
 simp only [Int.natCast_zero] at h1
 refine ⟨c,?_,h2⟩
 unfold F_parts_Cost
 simp only [parts_May_eq hk,h.may,parts_right_eq h.row h.rest h.wide h.short,Option.bind_some,Bool.not_true,cond_false,parts_Sizes_eq,h.sizes,castZ_length,h1]
def partsPutL (p:Prt) (zn:List Nat) (l L:List Int):List Int:=partsL zn p.2.1 l (putL (IntKind.wrap .u64 p.1) 4 L)
theorem parts_Put_eq {p:Prt} {n warm:Int} {l L:List Int} {zn:List Nat} (h:PartsOk p n warm l zn) (hL:L.length<700000000):F_parts_Put (wL L,(p,(n,(warm,l))))=some (0,wL (partsPutL p zn l L)):=by
 have h5:=h.short
 have hz:=h.len
 obtain ⟨c,hc,hc4⟩:=parts_Cost_some h
 have hne:(c==0)=false:=by simp only [beq_eq_false_iff_ne,ne_eq];omega
 have hpl:=putL_length (IntKind.wrap .u64 p.1) 4 L
 have hput:F_bits_Writer_Put (wL L,(IntKind.wrap .u64 p.1,(4:Int)))=some (putE (IntKind.wrap .u64 p.1) 4,wL (putL (IntKind.wrap .u64 p.1) 4 L)):=Put_eq (n:=4) (by omega) (by omega)
 have hloop:=parts_put_loop h.ks h.all h.len zn.length 0 l (putL (IntKind.wrap .u64 p.1) 4 L) (by omega) (by rw [List.drop_zero];exact h.sum) h.wide h.short (by omega)
 simp only [Int.natCast_zero,List.drop_zero] at hloop
 unfold F_parts_Put
 simp only [hc,Option.bind_some,hne,cond_false,hput,parts_Sizes_eq,h.sizes,castZ_length,hloop,partsPutL]
end Go.Ab
namespace Go.Ab
theorem coefs_loop {c:List Int} {wd:Nat} (hw:wd≤32) (hc:c.length<10000):∀ (j i:Nat) (L:List Int),i+j=c.length→L.length+64*j<999990000→
  iter F_sub_putCoefs_l0 ((wd:Int),(c,((c.length:Int),((i:Int),(wL L,())))))=some (wL (putsL wd (c.drop i) L),())
 |0,i,L,hi,_=>by
  obtain rfl:i=c.length:=by omega
  rw [List.drop_length]
  exact iter_done (by simp [F_sub_putCoefs_l0,putsL])
 |j+1,i,L,hi,hb=>by
  have hlt:i<c.length:=by omega
  have hpl:=putL_length (maskS c[i] wd) wd L
  rw [List.drop_eq_getElem_cons hlt,iter_step (s':=((wd:Int),(c,((c.length:Int),(((i+1:Nat):Int),(wL (putL (maskS c[i] wd) wd L),())))))) (by
   simp only [F_sub_putCoefs_l0,dlt hlt,cond_true,gidx_get hlt,Option.bind_some,putSigned_eq (show wd≤63 by omega) (show L.length<999999000 by omega),wrap_succ (show i<1000000 by omega)])]
  exact coefs_loop hw hc j (i+1) _ (by omega) (by omega)
theorem taps_loop {t:List Int} {n wd:Int} {s:Sub} (ht:t.length=3):∀ (j i:Nat) (L:List Int),i+j=3→L.length+64*j<999990000→
  iter F_sub_Put_l0 (n,(wd,(t,((i:Int),(wL L,(s,()))))))=some (n,(wd,(wL (putsL 8 (t.drop i) L),(s,()))))
 |0,i,L,hi,_=>by
  obtain rfl:i=t.length:=by omega
  rw [List.drop_length]
  exact iter_done (by rw [ht];simp [F_sub_Put_l0,putsL])
 |j+1,i,L,hi,hb=>by
  have hlt:i<t.length:=by omega
  have h3:decide ((i:Int)<3)=true:=by simp;omega
  have hpl:=putL_length (maskS t[i] 8) 8 L
  have hps:F_sub_putSigned (wL L,(t[i],(8:Int)))=some (wL (putL (maskS t[i] 8) 8 L)):=putSigned_eq (n:=8) (by omega) (by omega)
  rw [List.drop_eq_getElem_cons hlt,iter_step (s':=(n,(wd,(t,(((i+1:Nat):Int),(wL (putL (maskS t[i] 8) 8 L),(s,()))))))) (by
   simp only [F_sub_Put_l0,h3,cond_true,gidx_get hlt,Option.bind_some,hps,wrap_succ (show i<1000000 by omega)])]
  exact taps_loop ht j (i+1) _ (by omega) (by omega)
theorem warm_loop {l:List Int} {n:Int} {wd:Nat} {s:Sub} (hw:wd≤32) (hl:l.length<10000):∀ (j i:Nat) (L:List Int),i+j=l.length→L.length+64*j<999990000→
  iter F_sub_Put_l2 (n,((wd:Int),(l,((l.length:Int),((i:Int),(wL L,(s,())))))))=some (n,(wL (putsL wd (l.drop i) L),(s,())))
 |0,i,L,hi,_=>by
  obtain rfl:i=l.length:=by omega
  rw [List.drop_length]
  exact iter_done (by simp [F_sub_Put_l2,putsL])
 |j+1,i,L,hi,hb=>by
  have hlt:i<l.length:=by omega
  have hpl:=putL_length (maskS l[i] wd) wd L
  rw [List.drop_eq_getElem_cons hlt,iter_step (s':=(n,((wd:Int),(l,((l.length:Int),(((i+1:Nat):Int),(wL (putL (maskS l[i] wd) wd L),(s,())))))))) (by
   simp only [F_sub_Put_l2,dlt hlt,cond_true,gidx_get hlt,Option.bind_some,putSigned_eq (show wd≤63 by omega) (show L.length<999999000 by omega),wrap_succ (show i<1000000 by omega)])]
  exact warm_loop hw hl j (i+1) _ (by omega) (by omega)
def stageL (s:Stg) (L:List Int):List Int:=putL (IntKind.wrap .u64 s.2.1) 4 (putL (IntKind.wrap .u64 (IntKind.wrap .i64 (s.1-1))) 5 L)
def stagesL (st:List Stg) (L:List Int):List Int:=st.foldl (fun L s=>stageL s L) L
theorem stageL_length (s:Stg) (L:List Int):(stageL s L).length≤L.length+9:=by
 have h1:=putL_length (IntKind.wrap .u64 (IntKind.wrap .i64 (s.1-1))) 5 L
 have h2:=putL_length (IntKind.wrap .u64 s.2.1) 4 (putL (IntKind.wrap .u64 (IntKind.wrap .i64 (s.1-1))) 5 L)
 unfold stageL
 omega
theorem stagesL_length:∀ (st:List Stg) (L:List Int),(stagesL st L).length≤L.length+9*st.length
 | [],L=>by simp [stagesL]
 |s::st,L=>by
  have h1:=stageL_length s L
  have h2:=stagesL_length st (stageL s L)
  have e:stagesL (s::st) L=stagesL st (stageL s L):=rfl
  rw [e,List.length_cons];omega
theorem stages_loop {st:List Stg} {n wd:Int} {s:Sub} (hs:st.length<10000):∀ (j i:Nat) (L:List Int),i+j=st.length→L.length+64*j<999990000→
  iter F_sub_Put_l1 (n,(wd,(st,((st.length:Int),((i:Int),(wL L,(s,())))))))=some (n,(wd,(wL (stagesL (st.drop i) L),(s,()))))
 |0,i,L,hi,_=>by
  obtain rfl:i=st.length:=by omega
  rw [List.drop_length]
  exact iter_done (by simp [F_sub_Put_l1,stagesL])
 |j+1,i,L,hi,hb=>by
  have hlt:i<st.length:=by omega
  have hp1:=putL_length (IntKind.wrap .u64 (IntKind.wrap .i64 (st[i].1-1))) 5 L
  have hsl:=stageL_length st[i] L
  have h1:F_bits_Writer_Put (wL L,(IntKind.wrap .u64 (IntKind.wrap .i64 (st[i].1-1)),(5:Int)))=some (putE (IntKind.wrap .u64 (IntKind.wrap .i64 (st[i].1-1))) 5,wL (putL (IntKind.wrap .u64 (IntKind.wrap .i64 (st[i].1-1))) 5 L)):=Put_eq (n:=5) (by omega) (by omega)
  have h2:F_bits_Writer_Put (wL (putL (IntKind.wrap .u64 (IntKind.wrap .i64 (st[i].1-1))) 5 L),(IntKind.wrap .u64 st[i].2.1,(4:Int)))=some (putE (IntKind.wrap .u64 st[i].2.1) 4,wL (stageL st[i] L)):=Put_eq (n:=4) (by omega) (by omega)
  rw [List.drop_eq_getElem_cons hlt,iter_step (s':=(n,(wd,(st,((st.length:Int),(((i+1:Nat):Int),(wL (stageL st[i] L),(s,())))))))) (by
   simp only [F_sub_Put_l1,dlt hlt,cond_true,gidx_get hlt,Option.bind_some,h1,h2,wrap_succ (show i<1000000 by omega)])]
  exact stages_loop hs j (i+1) _ (by omega) (by omega)
def coefsL (s:Sub) (L:List Int):List Int:=
 putsL (widthN s.2.2.2.2.2.1) s.2.2.2.2.2.1 (putL ((widthN s.2.2.2.2.2.1:Nat):Int) 5 (putL (IntKind.wrap .u64 s.2.2.2.1) 4 (putL (IntKind.wrap .u64 (IntKind.wrap .i64 (((s.2.2.2.2.2.1.length:Nat):Int)-1))) 5 L)))
theorem coefsL_length {s:Sub} (h:s.2.2.2.2.2.1.length≤40) (L:List Int):(coefsL s L).length≤L.length+2000:=by
 unfold coefsL
 have h1:=putL_length (IntKind.wrap .u64 (IntKind.wrap .i64 (((s.2.2.2.2.2.1.length:Nat):Int)-1))) 5 L
 have h2:=putL_length (IntKind.wrap .u64 s.2.2.2.1) 4 (putL (IntKind.wrap .u64 (IntKind.wrap .i64 (((s.2.2.2.2.2.1.length:Nat):Int)-1))) 5 L)
 have h3:=putL_length ((widthN s.2.2.2.2.2.1:Nat):Int) 5 (putL (IntKind.wrap .u64 s.2.2.2.1) 4 (putL (IntKind.wrap .u64 (IntKind.wrap .i64 (((s.2.2.2.2.2.1.length:Nat):Int)-1))) 5 L))
 have h4:=putsL_length (widthN s.2.2.2.2.2.1) s.2.2.2.2.2.1 (putL ((widthN s.2.2.2.2.2.1:Nat):Int) 5 (putL (IntKind.wrap .u64 s.2.2.2.1) 4 (putL (IntKind.wrap .u64 (IntKind.wrap .i64 (((s.2.2.2.2.2.1.length:Nat):Int)-1))) 5 L)))
 have hw:=widthN_le s.2.2.2.2.2.1
 have:widthN s.2.2.2.2.2.1*s.2.2.2.2.2.1.length≤32*40:=Nat.mul_le_mul hw h
 omega
theorem putCoefs_eq {s:Sub} (h:s.2.2.2.2.2.1.length≤40) {L:List Int} (hL:L.length<900000000):F_sub_putCoefs (wL L,s)=some (wL (coefsL s L)):=by
 have h1:=putL_length (IntKind.wrap .u64 (IntKind.wrap .i64 (((s.2.2.2.2.2.1.length:Nat):Int)-1))) 5 L
 have h2:=putL_length (IntKind.wrap .u64 s.2.2.2.1) 4 (putL (IntKind.wrap .u64 (IntKind.wrap .i64 (((s.2.2.2.2.2.1.length:Nat):Int)-1))) 5 L)
 have h3:=putL_length ((widthN s.2.2.2.2.2.1:Nat):Int) 5 (putL (IntKind.wrap .u64 s.2.2.2.1) 4 (putL (IntKind.wrap .u64 (IntKind.wrap .i64 (((s.2.2.2.2.2.1.length:Nat):Int)-1))) 5 L))
 have hw:=widthN_le s.2.2.2.2.2.1
 have ew:IntKind.wrap .u64 ((widthN s.2.2.2.2.2.1:Nat):Int)=((widthN s.2.2.2.2.2.1:Nat):Int):=wrapu64 (by omega)
 have p1:F_bits_Writer_Put (wL L,(IntKind.wrap .u64 (IntKind.wrap .i64 (((s.2.2.2.2.2.1.length:Nat):Int)-1)),(5:Int)))=some (putE (IntKind.wrap .u64 (IntKind.wrap .i64 (((s.2.2.2.2.2.1.length:Nat):Int)-1))) 5,wL (putL (IntKind.wrap .u64 (IntKind.wrap .i64 (((s.2.2.2.2.2.1.length:Nat):Int)-1))) 5 L)):=Put_eq (n:=5) (by omega) (by omega)
 have p2:F_bits_Writer_Put (wL (putL (IntKind.wrap .u64 (IntKind.wrap .i64 (((s.2.2.2.2.2.1.length:Nat):Int)-1))) 5 L),(IntKind.wrap .u64 s.2.2.2.1,(4:Int)))=some (putE (IntKind.wrap .u64 s.2.2.2.1) 4,wL (putL (IntKind.wrap .u64 s.2.2.2.1) 4 (putL (IntKind.wrap .u64 (IntKind.wrap .i64 (((s.2.2.2.2.2.1.length:Nat):Int)-1))) 5 L))):=Put_eq (n:=4) (by omega) (by omega)
 have p3:F_bits_Writer_Put (wL (putL (IntKind.wrap .u64 s.2.2.2.1) 4 (putL (IntKind.wrap .u64 (IntKind.wrap .i64 (((s.2.2.2.2.2.1.length:Nat):Int)-1))) 5 L)),(((widthN s.2.2.2.2.2.1:Nat):Int),(5:Int)))=some (putE ((widthN s.2.2.2.2.2.1:Nat):Int) 5,wL (putL ((widthN s.2.2.2.2.2.1:Nat):Int) 5 (putL (IntKind.wrap .u64 s.2.2.2.1) 4 (putL (IntKind.wrap .u64 (IntKind.wrap .i64 (((s.2.2.2.2.2.1.length:Nat):Int)-1))) 5 L)))):=Put_eq (n:=5) (by omega) (by omega)
 have hlp:=coefs_loop (c:=s.2.2.2.2.2.1) hw (by omega) s.2.2.2.2.2.1.length 0 (putL ((widthN s.2.2.2.2.2.1:Nat):Int) 5 (putL (IntKind.wrap .u64 s.2.2.2.1) 4 (putL (IntKind.wrap .u64 (IntKind.wrap .i64 (((s.2.2.2.2.2.1.length:Nat):Int)-1))) 5 L))) (by omega) (by omega)
 simp only [Int.natCast_zero,List.drop_zero] at hlp
 unfold F_sub_putCoefs
 simp only [p1,p2,sample_Width_eq (show short s.2.2.2.2.2.1 by unfold short;omega),ew,p3,hlp,Option.bind_some,coefsL]
def headL (s:Sub) (L:List Int):List Int:=
 putL ((widthN s.2.2.2.2.2.2.2.2.1:Nat):Int) 5 (putL (IntKind.wrap .u64 s.2.1) 5 (putL (IntKind.wrap .u64 s.1) 3 L))
def kindL (s:Sub) (L:List Int):List Int:=
 if s.1=2 then putL (IntKind.wrap .u64 s.2.2.1) 3 L
 else if s.1=3 then coefsL s L
 else if s.1=4 then coefsL s (putsL 8 s.2.2.2.2.2.2.1 (putL (IntKind.wrap .u64 (IntKind.wrap .i64 (s.2.2.2.2.1-1))) 10 L))
 else if s.1=5 then stagesL s.2.2.2.2.2.2.2.1 (putL (IntKind.wrap .u64 ((s.2.2.2.2.2.2.2.1.length:Nat):Int)) 2 L)
 else L
theorem kindL_length {s:Sub} (h:SmallS s) (L:List Int):(kindL s L).length≤L.length+3000:=by
 have hc:=h.coefs
 have ht:=h.taps
 have hst:=h.stages
 unfold kindL
 split
 ·have:=putL_length (IntKind.wrap .u64 s.2.2.1) 3 L;omega
 ·split
  ·have:=coefsL_length hc L;omega
  ·split
   ·have h1:=putL_length (IntKind.wrap .u64 (IntKind.wrap .i64 (s.2.2.2.2.1-1))) 10 L
    have h2:=putsL_length 8 s.2.2.2.2.2.2.1 (putL (IntKind.wrap .u64 (IntKind.wrap .i64 (s.2.2.2.2.1-1))) 10 L)
    have h3:=coefsL_length hc (putsL 8 s.2.2.2.2.2.2.1 (putL (IntKind.wrap .u64 (IntKind.wrap .i64 (s.2.2.2.2.1-1))) 10 L))
    omega
   ·split
    ·have h1:=putL_length (IntKind.wrap .u64 ((s.2.2.2.2.2.2.2.1.length:Nat):Int)) 2 L
     have h2:=stagesL_length s.2.2.2.2.2.2.2.1 (putL (IntKind.wrap .u64 ((s.2.2.2.2.2.2.2.1.length:Nat):Int)) 2 L)
     omega
    ·omega
theorem partsL_length:∀ (zs:List Nat) (ks l L:List Int),ks.all kB=true→(partsL zs ks l L).length≤L.length+10*zs.length+100*l.length
 |z::zs,k::ks,l,L,h=>by
  simp only [List.all_cons,Bool.and_eq_true] at h
  have h1:=partL_length h.1 (l.take z) L
  have h2:=partsL_length zs ks (l.drop z) (partL k (l.take z) L) h.2
  rw [List.length_take] at h1
  rw [List.length_drop] at h2
  simp only [partsL,List.length_cons]
  omega
 | [],_,_,_,_=>by simp only [partsL];omega
 |_::_,[],_,_,_=>by simp only [partsL];omega
def putSubL (s:Sub) (zn:List Nat) (L:List Int):List Int:=
 if s.1=0∨s.1=1 then putsL (widthN s.2.2.2.2.2.2.2.2.1) s.2.2.2.2.2.2.2.2.1 (kindL s (headL s L))
 else partsPutL s.2.2.2.2.2.2.2.2.2.1 zn s.2.2.2.2.2.2.2.2.2.2.1 (putsL (widthN s.2.2.2.2.2.2.2.2.1) s.2.2.2.2.2.2.2.2.1 (kindL s (headL s L)))
theorem sub_Put_ex {s:Sub} (h:SmallS s) {n:Int} {L:List Int} (hL:L.length<100000000):
  ∃ (e:Int) (L':List Int),F_sub_Put (wL L,(s,n))=some (e,wL L')∧(e=0∨L'=L)∧L'.length≤L.length+700000∧
   ((subO s n).isSome=true→e=0∧∃ zn,L'=putSubL s zn L∧(s.1≠0∧s.1≠1→PartsOk s.2.2.2.2.2.2.2.2.2.1 n ((s.2.2.2.2.2.2.2.2.1.length:Nat):Int) s.2.2.2.2.2.2.2.2.2.2.1 zn))∧((subO s n).isSome=false→e=1∧L'=L):=by
 unfold F_sub_Put
 simp only [sub_May_eq h,Option.bind_some]
 cases hs:(subO s n).isSome with
 |false=>exact ⟨1,L,rfl,.inr rfl,by omega,fun h=>(by cases h),fun _=>⟨rfl,rfl⟩⟩
 |true=>
  have hp:statedP s n:=by
   unfold subO at hs
   split at hs
   ·assumption
   ·cases hs
  obtain ⟨h1,h2,hf,-,-,-,-,hlen,hww,hrw,-,hparts⟩:=hp
  have hkind:=fitP_kind hf
  have hwd:=widthN_le s.2.2.2.2.2.2.2.2.1
  have hsw:short s.2.2.2.2.2.2.2.2.1:=by have:=h.warm;unfold short;omega
  have hwarm:=h.warm
  have hrest:=h.rest
  have hst:=h.stages
  have ht:=h.taps
  have q1:=putL_length (IntKind.wrap .u64 s.1) 3 L
  have q2:=putL_length (IntKind.wrap .u64 s.2.1) 5 (putL (IntKind.wrap .u64 s.1) 3 L)
  have q3:=putL_length ((widthN s.2.2.2.2.2.2.2.2.1:Nat):Int) 5 (putL (IntKind.wrap .u64 s.2.1) 5 (putL (IntKind.wrap .u64 s.1) 3 L))
  have ew:IntKind.wrap .u64 ((widthN s.2.2.2.2.2.2.2.2.1:Nat):Int)=((widthN s.2.2.2.2.2.2.2.2.1:Nat):Int):=wrapu64 (by omega)
  have p1:F_bits_Writer_Put (wL L,(IntKind.wrap .u64 s.1,(3:Int)))=some (putE (IntKind.wrap .u64 s.1) 3,wL (putL (IntKind.wrap .u64 s.1) 3 L)):=Put_eq (n:=3) (by omega) (by omega)
  have p2:F_bits_Writer_Put (wL (putL (IntKind.wrap .u64 s.1) 3 L),(IntKind.wrap .u64 s.2.1,(5:Int)))=some (putE (IntKind.wrap .u64 s.2.1) 5,wL (putL (IntKind.wrap .u64 s.2.1) 5 (putL (IntKind.wrap .u64 s.1) 3 L))):=Put_eq (n:=5) (by omega) (by omega)
  have p3:F_bits_Writer_Put (wL (putL (IntKind.wrap .u64 s.2.1) 5 (putL (IntKind.wrap .u64 s.1) 3 L)),(((widthN s.2.2.2.2.2.2.2.2.1:Nat):Int),(5:Int)))=some (putE ((widthN s.2.2.2.2.2.2.2.2.1:Nat):Int) 5,wL (headL s L)):=Put_eq (n:=5) (by omega) (by omega)
  have q4:(headL s L).length≤L.length+13:=by unfold headL;omega
  generalize hM:headL s L=M at p3 q4
  have q5:=kindL_length h M
  have q6:=putsL_length (widthN s.2.2.2.2.2.2.2.2.1) s.2.2.2.2.2.2.2.2.1 (kindL s M)
  have q7:widthN s.2.2.2.2.2.2.2.2.1*s.2.2.2.2.2.2.2.2.1.length≤32*5000:=Nat.mul_le_mul hwd hwarm
  have hwl:=warm_loop (l:=s.2.2.2.2.2.2.2.2.1) (n:=n) (s:=s) hwd (by omega) s.2.2.2.2.2.2.2.2.1.length 0 (kindL s M) (by omega) (by omega)
  simp only [Int.natCast_zero,List.drop_zero] at hwl

  have hsl:=stages_loop (st:=s.2.2.2.2.2.2.2.1) (n:=n) (wd:=((widthN s.2.2.2.2.2.2.2.2.1:Nat):Int)) (s:=s) (by omega) s.2.2.2.2.2.2.2.1.length 0 (putL (IntKind.wrap .u64 ((s.2.2.2.2.2.2.2.1.length:Nat):Int)) 2 M) (by omega) (by have:=putL_length (IntKind.wrap .u64 ((s.2.2.2.2.2.2.2.1.length:Nat):Int)) 2 M;omega)
  have q8:=putL_length (IntKind.wrap .u64 (IntKind.wrap .i64 (s.2.2.2.2.1-1))) 10 M
  have q9:=putsL_length 8 s.2.2.2.2.2.2.1 (putL (IntKind.wrap .u64 (IntKind.wrap .i64 (s.2.2.2.2.1-1))) 10 M)
  have htl:=taps_loop (t:=s.2.2.2.2.2.2.1) (n:=n) (wd:=((widthN s.2.2.2.2.2.2.2.2.1:Nat):Int)) (s:=s) ht 3 0 (putL (IntKind.wrap .u64 (IntKind.wrap .i64 (s.2.2.2.2.1-1))) 10 M) (by omega) (by omega)
  simp only [Int.natCast_zero,List.drop_zero] at hsl htl
  have k2:F_bits_Writer_Put (wL M,(IntKind.wrap .u64 s.2.2.1,(3:Int)))=some (putE (IntKind.wrap .u64 s.2.2.1) 3,wL (putL (IntKind.wrap .u64 s.2.2.1) 3 M)):=Put_eq (n:=3) (by omega) (by omega)
  have k4:F_bits_Writer_Put (wL M,(IntKind.wrap .u64 (IntKind.wrap .i64 (s.2.2.2.2.1-1)),(10:Int)))=some (putE (IntKind.wrap .u64 (IntKind.wrap .i64 (s.2.2.2.2.1-1))) 10,wL (putL (IntKind.wrap .u64 (IntKind.wrap .i64 (s.2.2.2.2.1-1))) 10 M)):=Put_eq (n:=10) (by omega) (by omega)
  have k5:F_bits_Writer_Put (wL M,(IntKind.wrap .u64 ((s.2.2.2.2.2.2.2.1.length:Nat):Int),(2:Int)))=some (putE (IntKind.wrap .u64 ((s.2.2.2.2.2.2.2.1.length:Nat):Int)) 2,wL (putL (IntKind.wrap .u64 ((s.2.2.2.2.2.2.2.1.length:Nat):Int)) 2 M)):=Put_eq (n:=2) (by omega) (by omega)
  have c3:=putCoefs_eq (s:=s) h.coefs (L:=M) (by omega)
  have c4:=putCoefs_eq (s:=s) h.coefs (L:=putsL 8 s.2.2.2.2.2.2.1 (putL (IntKind.wrap .u64 (IntKind.wrap .i64 (s.2.2.2.2.1-1))) 10 M)) (by omega)
  simp only [Bool.not_true,cond_false,sample_Width_eq hsw,Option.bind_some,p1,p2,ew,p3]
  generalize hPM:putsL (widthN s.2.2.2.2.2.2.2.2.1) s.2.2.2.2.2.2.2.2.1 (kindL s M)=PM at hwl q6

  have tail:∀ (hk01:s.1≠0∧s.1≠1),∃ zn,PartsOk s.2.2.2.2.2.2.2.2.2.1 n ((s.2.2.2.2.2.2.2.2.1.length:Nat):Int) s.2.2.2.2.2.2.2.2.2.2.1 zn:=fun hk01=>by
   obtain ⟨g1,g2⟩:=hparts hk01
   rw [←hlen] at g1 g2
   exact PartsOk.of g2 g1 hrw (by omega)
  rcases hkind with k|k|k|k|k|k
  ·have kl:kindL s M=M:=by unfold kindL;simp [k]
   rw [kl] at hwl
   refine ⟨0,PM,?_,.inl rfl,by omega,fun _=>⟨rfl,[],by unfold putSubL;rw [if_pos (by omega),hM,hPM],fun h=>absurd k (by omega)⟩,fun h=>by cases h⟩
   ·simp only [k,show ((0:Int)==2)=false from rfl,show ((0:Int)==4)=false from rfl,show ((0:Int)==3)=false from rfl,show ((0:Int)==5)=false from rfl,cond_false,Option.bind_some,hwl,rested_eq]
    simp
  ·have kl:kindL s M=M:=by unfold kindL;simp [k]
   rw [kl] at hwl
   refine ⟨0,PM,?_,.inl rfl,by omega,fun _=>⟨rfl,[],by unfold putSubL;rw [if_pos (by omega),hM,hPM],fun h=>absurd k (by omega)⟩,fun h=>by cases h⟩
   ·simp only [k,show ((1:Int)==2)=false from rfl,show ((1:Int)==4)=false from rfl,show ((1:Int)==3)=false from rfl,show ((1:Int)==5)=false from rfl,cond_false,Option.bind_some,hwl,rested_eq]
    simp
  all_goals
   obtain ⟨zn,hz⟩:=tail (by omega)
   have t1:=parts_Put_eq (L:=PM) hz (by omega)
   have t3:(partsPutL s.2.2.2.2.2.2.2.2.2.1 zn s.2.2.2.2.2.2.2.2.2.2.1 PM).length≤L.length+700000:=by
    have z1:=putL_length (IntKind.wrap .u64 s.2.2.2.2.2.2.2.2.2.1.1) 4 PM
    have z2:=partsL_length zn s.2.2.2.2.2.2.2.2.2.1.2.1 s.2.2.2.2.2.2.2.2.2.2.1 (putL (IntKind.wrap .u64 s.2.2.2.2.2.2.2.2.2.1.1) 4 PM) hz.all
    have z3:=hz.len
    unfold partsPutL
    omega
   refine ⟨0,partsPutL s.2.2.2.2.2.2.2.2.2.1 zn s.2.2.2.2.2.2.2.2.2.2.1 PM,?_,.inl rfl,t3,fun _=>⟨rfl,zn,by unfold putSubL;rw [if_neg (by omega),hM,hPM],fun _=>hz⟩,fun h=>by cases h⟩
  ·have kl:kindL s M=putL (IntKind.wrap .u64 s.2.2.1) 3 M:=by unfold kindL;simp [k]
   rw [kl] at hwl
   simp only [k,show ((2:Int)==2)=true from rfl,cond_true,k2,Option.bind_some,hwl,rested_eq]
   simp [t1]
  ·have kl:kindL s M=coefsL s M:=by unfold kindL;simp [k]
   rw [kl] at hwl
   simp only [k,show ((3:Int)==2)=false from rfl,show ((3:Int)==4)=false from rfl,show ((3:Int)==3)=true from rfl,cond_true,cond_false,c3,Option.bind_some,hwl,rested_eq]
   simp [t1]
  ·have kl:kindL s M=coefsL s (putsL 8 s.2.2.2.2.2.2.1 (putL (IntKind.wrap .u64 (IntKind.wrap .i64 (s.2.2.2.2.1-1))) 10 M)):=by unfold kindL;simp [k]
   rw [kl] at hwl
   simp only [k,show ((4:Int)==2)=false from rfl,show ((4:Int)==4)=true from rfl,cond_true,cond_false,k4,htl,c4,Option.bind_some,hwl,rested_eq]
   simp [t1]
  ·have kl:kindL s M=stagesL s.2.2.2.2.2.2.2.1 (putL (IntKind.wrap .u64 ((s.2.2.2.2.2.2.2.1.length:Nat):Int)) 2 M):=by unfold kindL;simp [k]
   rw [kl] at hwl
   simp only [k,show ((5:Int)==2)=false from rfl,show ((5:Int)==4)=false from rfl,show ((5:Int)==3)=false from rfl,show ((5:Int)==5)=true from rfl,cond_true,cond_false,k5,hsl,Option.bind_some,hwl,rested_eq]
   simp [t1]
theorem castZ_toNat (zn:List Nat):(castZ zn).map Int.toNat=zn:=by
 unfold castZ
 rw [List.map_map]
 have:Int.toNat∘(fun (a:Nat)=>(a:Int))=id:=by funext a;simp
 rw [this,List.map_id]
theorem zn_unique {p:Prt} {n warm:Int} {l:List Int} {z z':List Nat} (h:PartsOk p n warm l z) (h':PartsOk p n warm l z'):z=z':=by
 rw [←castZ_toNat z,←h.sizes,h'.sizes,castZ_toNat]
end Go.Ab
namespace Go.Ab
set_option maxRecDepth 100000 in
theorem known_true:F_l15_known ()=some true:=by kernel_rfl
end Go.Ab
namespace Go.Ab
def costI (s:Sub) (n:Int):Int:=
 if (subO s n).isSome=true then (((putSubL s ((sizesI s.2.2.2.2.2.2.2.2.2.1.1 n ((s.2.2.2.2.2.2.2.2.1.length:Nat):Int)).map Int.toNat) []).length:Nat):Int) else 0
theorem zn_same {s:Sub} {n:Int} {zn:List Nat} (hz:s.1≠0∧s.1≠1→PartsOk s.2.2.2.2.2.2.2.2.2.1 n ((s.2.2.2.2.2.2.2.2.1.length:Nat):Int) s.2.2.2.2.2.2.2.2.2.2.1 zn) (L:List Int):
  putSubL s zn L=putSubL s ((sizesI s.2.2.2.2.2.2.2.2.2.1.1 n ((s.2.2.2.2.2.2.2.2.1.length:Nat):Int)).map Int.toNat) L:=by
 by_cases hk:s.1=0∨s.1=1
 ·unfold putSubL
  rw [if_pos hk,if_pos hk]
 ·rw [(hz (not_or.1 hk)).sizes,castZ_toNat]
theorem cost_eq {s:Sub} (h:SmallS s) (n:Int):F_sub_Cost (s,n)=some (costI s n):=by
 obtain ⟨e,L',h1,-,-,h4,h5⟩:=sub_Put_ex h (n:=n) (L:=[]) (by simp)
 have hw:wL []=(([]:List Int),((0:Int),())):=rfl
 rw [hw] at h1
 obtain ⟨w1,-⟩:=wL_facts L'
 unfold F_sub_Cost costI
 simp only [h1,Option.bind_some,F_bits_Writer_Len]
 cases hs:(subO s n).isSome with
 |false=>
  obtain ⟨rfl,rfl⟩:=h5 hs
  rfl
 |true=>
  obtain ⟨rfl,zn,rfl,hz⟩:=h4 hs
  rw [if_pos rfl,←zn_same hz]
  simp only [w1,show ((0:Int) != 0)=false from rfl,cond_false]
end Go.Ab
namespace Go.Ab
end Go.Ab
namespace Go.Ab
def dif:List Int→List Int
 |a::b::r=>W (b-a)::dif (b::r)
 |_=>[]
theorem dif_length:∀ l:List Int,(dif l).length=l.length-1
 | []=>rfl
 | [_]=>rfl
 |a::b::r=>by simp [dif,dif_length (b::r)]
theorem dif_get:∀ (l:List Int) (i:Nat) (x y:Int),l[i]?=some x→l[i+1]?=some y→(dif l)[i]?=some (W (y-x))
 |a::b::r,0,x,y,h1,h2=>by simp at h1 h2;subst h1;subst h2;rfl
 |a::b::r,i+1,x,y,h1,h2=>by
  simp only [dif,List.getElem?_cons_succ] at h1 h2 ⊢
  exact dif_get (b::r) i x y h1 h2
 | [_],0,x,y,h1,h2=>by simp at h2
 | [_],i+1,x,y,h1,h2=>by simp at h1
 | [],i,x,y,h1,h2=>by simp at h1
def difN:Nat→List Int→List Int
 |0,l=>l
 |o+1,l=>dif (difN o l)
theorem difN_length (l:List Int):∀ o,(difN o l).length=l.length-o
 |0=>rfl
 |o+1=>by simp only [difN,dif_length,difN_length l o];omega
theorem difN_short {l:List Int} (h:short l) (o:Nat):short (difN o l):=by
 have h:l.length<1000000:=h
 show (difN o l).length<1000000
 rw [difN_length];omega
def mixD (l:List Int) (i:Nat):List Int:=(dif l).take i++l.drop i
theorem mixD_length {l:List Int} {i:Nat} (h:i≤l.length-1):(mixD l i).length=l.length:=by
 simp only [mixD,List.length_append,List.length_take,List.length_drop,dif_length];omega
theorem mixD_getD {l:List Int} {i j:Nat} (h:i≤l.length-1) (hj:i≤j):(mixD l i).getD j 0=l.getD j 0:=by
 have e:((dif l).take i).length=i:=by rw [List.length_take,dif_length];omega
 rw [List.getD_eq_getElem?_getD,List.getD_eq_getElem?_getD,mixD,List.getElem?_append_right (by omega),e,List.getElem?_drop]
 congr 2
 omega
theorem mixD_set {l:List Int} {i:Nat} (h:i<l.length-1):(mixD l i).set i (W (l.getD (i+1) 0-l.getD i 0))=mixD l (i+1):=by
 have e:((dif l).take i).length=i:=by rw [List.length_take,dif_length];omega
 have h1:l[i]?=some l[i]:=List.getElem?_eq_getElem (by omega)
 have h2:l[i+1]?=some l[i+1]:=List.getElem?_eq_getElem (by omega)
 have hd:=dif_get l i _ _ h1 h2
 have hlt:i<(dif l).length:=by rw [dif_length];omega
 simp only [mixD]
 rw [List.set_append,if_neg (by omega),e,Nat.sub_self,List.drop_eq_getElem_cons (show i<l.length by omega),List.set_cons_zero,List.take_succ_eq_append_getElem hlt,List.append_assoc]
 have e2:(dif l)[i]=W (l.getD (i+1) 0-l.getD i 0):=by
  rw [List.getElem?_eq_getElem hlt] at hd
  rw [Option.some.inj hd,List.getD_eq_getElem?_getD,List.getD_eq_getElem?_getD,h1,h2]
  rfl
 rw [e2]
 rfl
theorem rest_inner {l:List Int} {o k:Int} (hs:short l) (h:1≤l.length):iter F_fixed_Rest_l0 ((0:Int),(o,(k,(l,()))))=some (o,(k,(mixD l (l.length-1),()))):=by
 have hs:l.length<1000000:=hs
 have h0:mixD l 0=l:=by simp [mixD]
 have:=iter_count (f:=F_fixed_Rest_l0) (fun i:Nat=>((i:Int),(o,(k,(mixD l i,()))))) (l.length-1) (b:=(o,(k,(mixD l (l.length-1),()))))
  (fun i hi=>by
   have w1:IntKind.wrap .i64 ((i:Int)+1)=((i+1:Nat):Int):=wrap_succ (by omega)
   have hl:=mixD_length (l:=l) (i:=i) (by omega)
   have d0:decide (((i+1:Nat):Int)<((l.length:Nat):Int))=true:=by simp;omega
   have d1:decide ((0:Int)≤((i+1:Nat):Int))=true:=by simp;omega
   have d2:decide ((0:Int)≤(i:Int))=true:=by simp
   have d3:decide ((i:Int)<((l.length:Nat):Int))=true:=by simp;omega
   have n1:Int.toNat ((i+1:Nat):Int)=i+1:=by omega
   have n2:Int.toNat (i:Int)=i:=by omega
   have st:=mixD_set (l:=l) (i:=i) (by omega)
   have g1:=mixD_getD (l:=l) (i:=i) (j:=i+1) (by omega) (by omega)
   have g2:=mixD_getD (l:=l) (i:=i) (j:=i) (by omega) (by omega)
   simp only [W] at st
   simp only [F_fixed_Rest_l0,w1,hl,d0,d1,d2,d3,n1,n2,g1,g2,st,Bool.and_self,cond_true])
  (by
   have hl:=mixD_length (l:=l) (i:=l.length-1) (by omega)
   have w1:IntKind.wrap .i64 (((l.length-1:Nat):Int)+1)=((l.length:Nat):Int):=by rw [wrap64 (by omega)];omega
   have d0:decide (((l.length:Nat):Int)<((l.length:Nat):Int))=false:=by simp
   simp only [F_fixed_Rest_l0,w1,hl,d0,cond_false])
 simp only [Int.natCast_zero,Int.cast_ofNat_Int,h0] at this
 exact this
theorem mixD_take {l:List Int}:(mixD l (l.length-1)).take (l.length-1)=dif l:=by
 have e:(dif l).take (l.length-1)=dif l:=List.take_of_length_le (by rw [dif_length];omega)
 rw [mixD,e,List.take_append_of_le_length (by rw [dif_length];omega),e]
theorem fixed_Rest_eq {l:List Int} {o:Nat} (ho:o≤4) (hn:o≤l.length) (hs:short l) (hw:l.all wideB=true):
  F_fixed_Rest (l,(o:Int))=some (bif (difN o l).all wideB then (difN o l,0) else ([],6)):=by
 have hs':l.length<1000000:=hs
 have loop:=iter_count (f:=F_fixed_Rest_l1) (fun k:Nat=>((o:Int),((k:Int),(difN k l,())))) o (b:=(difN o l,()))
  (fun k hk=>by
   have hk1:1≤(difN k l).length:=by rw [difN_length];omega
   have hks:(difN k l).length<1000000:=difN_short hs k
   have d0:decide ((k:Int)<(o:Int))=true:=by simp;omega
   have hm:=mixD_length (l:=difN k l) (i:=(difN k l).length-1) (by omega)
   have w1:IntKind.wrap .i64 ((((difN k l).length:Nat):Int)-1)=(((difN k l).length-1:Nat):Int):=by rw [wrap64 (by omega)];omega
   have w2:IntKind.wrap .i64 ((k:Int)+1)=((k+1:Nat):Int):=wrap_succ (by omega)
   have d1:decide ((0:Int)≤(((difN k l).length-1:Nat):Int))=true:=by simp
   have d2:decide ((((difN k l).length-1:Nat):Int)≤(((difN k l).length:Nat):Int))=true:=by simp
   have d3:decide ((difN k l).length-1≤(difN k l).length)=true:=by simp
   have n1:Int.toNat (((difN k l).length-1:Nat):Int)=(difN k l).length-1:=by omega
   simp only [F_fixed_Rest_l1,d0,cond_true,rest_inner (difN_short hs k) hk1,Option.bind_some,hm,w1,w2,d1,d2,d3,n1,Bool.and_self,mixD_take,difN])
  (by
   have d0:decide ((o:Int)<(o:Int))=false:=by simp
   simp only [F_fixed_Rest_l1,d0,cond_false])
 have c1:decide ((o:Int)<0)=false:=by simp
 have c2:decide ((o:Int) > 4)=false:=by simp;omega
 have c3:decide (((l.length:Nat):Int)<(o:Int))=false:=by simp;omega
 have c4:lim l.length=true:=lim_of (by omega)
 simp only [Int.natCast_zero,Int.cast_ofNat_Int] at loop
 have e0:difN 0 l=l:=rfl
 rw [e0] at loop
 unfold F_fixed_Rest
 simp only [c1,c2,c3,c4,cond_false,cond_true,Option.bind_some,fixed_wide_eq hs,hw,Bool.not_true,loop,fixed_wide_eq (difN_short hs o)]
 cases (difN o l).all wideB<;>rfl
def ex:Nat→(Nat→Int)→Nat→Int
 |0,f,i=>f i
 |o+1,f,i=>ex o f (i+1)-ex o f i
theorem difN_get {l:List Int} (hw:l.all wideB=true):∀ (o i:Nat),i+o<l.length→(difN o l)[i]?=some (W (ex o (fun j=>l.getD j 0) i))
 |0,i,h=>by
  have h:i<l.length:=by omega
  have e:l.getD i 0=l[i]:=by simp [List.getD_eq_getElem?_getD,h]
  simp only [difN,ex,e]
  rw [List.getElem?_eq_getElem h,W_of_wide (List.all_eq_true.1 hw _ (List.getElem_mem h))]
 |o+1,i,h=>by
  have h1:=difN_get hw o i (by omega)
  have h2:=difN_get hw o (i+1) (by omega)
  simp only [difN,ex]
  rw [dif_get _ i _ _ h1 h2]
  simp only [W,wrap_bmod,Int.sub_bmod_bmod,Int.bmod_sub_bmod]
theorem back_step {l:List Int} (hw:l.all wideB=true) {o j:Nat} (ho:o≤4) (h:o+j<l.length):W (W (ex o (fun j=>l.getD j 0) j)+fixG o (l.take (o+j)))=l.getD (o+j) 0:=by
 have hwide:wideB (l.getD (o+j) 0)=true:=by
  have e:l.getD (o+j) 0=l[o+j]:=by simp [List.getD_eq_getElem?_getD,h]
  rw [e]
  exact List.all_eq_true.1 hw _ (List.getElem_mem h)
 have at_eq:∀ i:Nat,1≤i→i≤o→atB (l.take (o+j)) i=l.getD (o+j-i) 0:=fun i h1 h2=>by
  simp only [atB,List.length_take,Nat.min_eq_left (Nat.le_of_lt h),List.getD_eq_getElem?_getD,List.getElem?_take]
  rw [if_pos (by omega)]
 have key:ex o (fun j=>l.getD j 0) j+fixG o (l.take (o+j))=l.getD (o+j) 0:=by
  have h5:o=0∨o=1∨o=2∨o=3∨o=4:=by omega
  rcases h5 with rfl|rfl|rfl|rfl|rfl
  ·simp [ex,fixG]
  ·simp only [ex,fixG,at_eq 1 (by omega) (by omega)]
   have e1:1+j-1=j:=by omega
   have e2:j+1=1+j:=by omega
   rw [e1,e2];omega
  ·simp only [ex,fixG,at_eq 1 (by omega) (by omega),at_eq 2 (by omega) (by omega)]
   have e1:2+j-1=j+1:=by omega
   have e2:2+j-2=j:=by omega
   have e3:j+1+1=2+j:=by omega
   rw [e1,e2,e3];omega
  ·simp only [ex,fixG,at_eq 1 (by omega) (by omega),at_eq 2 (by omega) (by omega),at_eq 3 (by omega) (by omega)]
   have e1:3+j-1=j+1+1:=by omega
   have e2:3+j-2=j+1:=by omega
   have e3:3+j-3=j:=by omega
   have e4:j+1+1+1=3+j:=by omega
   rw [e1,e2,e3,e4];omega
  ·simp only [ex,fixG,at_eq 1 (by omega) (by omega),at_eq 2 (by omega) (by omega),at_eq 3 (by omega) (by omega),at_eq 4 (by omega) (by omega)]
   have e1:4+j-1=j+1+1+1:=by omega
   have e2:4+j-2=j+1+1:=by omega
   have e3:4+j-3=j+1:=by omega
   have e4:4+j-4=j:=by omega
   have e5:j+1+1+1+1=4+j:=by omega
   rw [e1,e2,e3,e4,e5];omega
 have:W (W (ex o (fun j=>l.getD j 0) j)+fixG o (l.take (o+j)))=W (ex o (fun j=>l.getD j 0) j+fixG o (l.take (o+j))):=by
  simp only [W,wrap_bmod,Int.bmod_add_bmod]
 rw [this,key,W_of_wide hwide]
theorem back_dif {l:List Int} (hw:l.all wideB=true) {o:Nat} (ho:o≤4):∀ (k j:Nat),o+j+k=l.length→backO (fixG o) ((difN o l).drop j) (l.take (o+j))=some l
 |0,j,h=>by
  rw [List.drop_of_length_le (by rw [difN_length];omega),List.take_of_length_le (by omega)]
  rfl
 |k+1,j,h=>by
  have hlt:j<(difN o l).length:=by rw [difN_length];omega
  have hg:=difN_get hw o j (by omega)
  rw [List.getElem?_eq_getElem hlt] at hg
  have e:=Option.some.inj hg
  have e2:l.getD (o+j) 0=l[o+j]:=by simp [List.getD_eq_getElem?_getD,show o+j<l.length by omega]
  have st:=back_step hw ho (show o+j<l.length by omega)
  rw [e2] at st
  rw [List.drop_eq_getElem_cons hlt,e]
  simp only [backO,st,List.all_eq_true.1 hw _ (List.getElem_mem (show o+j<l.length by omega)),cond_true]
  have et:l.take (o+j)++[l[o+j]]=l.take (o+(j+1)):=by
   rw [show o+(j+1)=(o+j)+1 by omega]
   simp
  rw [et]
  exact back_dif hw ho k (j+1) (by omega)
end Go.Ab
namespace Go.Ab
theorem iter_ex {σ β:Type} {f:σ→Option (σ ⊕ β)} (I:Nat→σ→Prop) (Q:β→Prop) (n:Nat) (hstep:∀ i s,i<n→I i s→∃ s',f s=some (.inl s')∧I (i+1) s')
  (hexit:∀ s,I n s→∃ b,f s=some (.inr b)∧Q b):∀ (k i:Nat) (s:σ),i+k=n→I i s→∃ b,iter f s=some b∧Q b
 |0,i,s,h,hi=>by
  obtain rfl:i=n:=by omega
  obtain ⟨b,h1,h2⟩:=hexit s hi
  exact ⟨b,iter_done h1,h2⟩
 |k+1,i,s,h,hi=>by
  obtain ⟨s',h1,h2⟩:=hstep i s (by omega) hi
  rw [iter_step h1]
  exact iter_ex I Q n hstep hexit k (i+1) s' (by omega) h2
theorem wrapu_range (y:Int):0≤IntKind.wrap .u64 y∧IntKind.wrap .u64 y<18446744073709551616:=by
 simp only [IntKind.wrap,IntKind.bits,IntKind.signed]
 simp
 omega
def downB (n:Int) (x:Int):Bool:=wideB x&&!(Int.tmod x (gshl .i64 1 n) != 0)
def downStep {β:Type} (n:Int) (bad:β) (out:List Int) (x:Int):List Int ⊕ β:=bif downB n x then .inl (out++[gshr .i64 x n]) else .inr bad
def downO (n:Int) (l:List Int):Option (List Int):=bif l.all (downB n) then some (l.map fun x=>gshr .i64 x n) else none
theorem endE_downStep {β:Type} (n:Int) (bad:β) (fin:List Int→β):∀ (l out:List Int),endE fin (foldE (downStep n bad) l out)=match downO n l with|some r=>fin (out++r)|none=>bad
 | [],out=>by simp [foldE,endE,downO]
 |x::l,out=>by
  simp only [foldE,downStep,downO,List.all_cons]
  cases hx:downB n x with
  |true=>
   simp only [cond_true,Bool.true_and]
   rw [endE_downStep n bad fin l _]
   simp only [downO]
   cases l.all (downB n) with
   |true=>simp
   |false=>rfl
  |false=>rfl
theorem shl1 {o:Nat} (h:o≤30):gshl .i64 1 (o:Int)=((2^o:Nat):Int):=by
 have h2:2^o≤2^30:=Nat.pow_le_pow_right (by omega) h
 have:=gshl_nat (N:=1) (o:=o) (by omega) (by omega)
 simpa using this
theorem sample_Down_eq {l:List Int} {o:Nat} (h1:o≤30) (hr:l.length<100000):F_sample_Down (l,(o:Int))=some (resB (downO (o:Int) l)):=by
 have hsr:short l:=by unfold short;omega
 have g1:¬ (o:Int)<0:=by omega
 have g2:¬ (o:Int) > 30:=by omega
 have g3:(gshl .i64 (1:Int) (o:Int)==0)=false:=by
  rw [shl1 h1]
  have:0<2^o:=Nat.two_pow_pos o
  simp only [beq_eq_false_iff_ne,ne_eq]
  omega
 unfold F_sample_Down
 simp only [g1,g2,decide_false,cond_false,Option.bind_some]
 have:=iter_list (f:=F_sample_Down_l0) l (fun i out=>((o:Int),(l,((l.length:Int),((i:Int),(out,())))))) (downStep (o:Int) (Sum.inr ((6:Int),(([]:List Int),()))))
  (fun i out=>out.length=i) (fun out=>Sum.inl (out,()))
  (fun i h out hI=>by
   have hlt:i<1000000:=by omega
   simp only [F_sample_Down_l0,dlt h,cond_true,gidx_get h,Option.bind_some,sample_wide_eq,downStep,downB,g1,g3,decide_false,cond_false]
   cases hb:wideB l[i] with
   |true=>
    cases hb2:(Int.tmod l[i] (gshl .i64 1 (o:Int)) != 0) with
    |false=>
     simp only [cond_true,Bool.not_true,cond_false,Option.bind_some,g1,decide_false,lim_short (show out.length+1<1000000 by omega),wrap_succ hlt,Bool.and_self,Bool.not_false,hb2]
     refine ⟨fun a' ha=>?_,fun b hb=>(by cases hb)⟩
     simp only [Sum.inl.injEq] at ha
     subst ha
     exact ⟨rfl,by simp;omega⟩
    |true=>
     refine ⟨fun a' ha=>(by simp at ha),fun b hb=>?_⟩
     simp only [Bool.true_and,Bool.not_true,cond_false,Sum.inr.injEq] at hb
     subst hb
     simp [hb2]
   |false=>
    refine ⟨fun a' ha=>(by simp at ha),fun b hb=>?_⟩
    simp only [Bool.false_and,cond_false,Sum.inr.injEq] at hb
    subst hb
    rfl)
  (fun out _=>by simp [F_sample_Down_l0]) (a:=[]) rfl
 simp only [Int.natCast_zero,endE_downStep,List.nil_append] at this
 rw [this]
 cases downO (o:Int) l<;>rfl
theorem down_one {o:Nat} (h:o≤30) {x:Int} (hx:downB (o:Int) x=true):wideB (gshr .i64 x (o:Int))=true∧gshl .i64 (gshr .i64 x (o:Int)) (o:Int)=x∧wideB x=true:=by
 simp only [downB,shl1 h,Bool.and_eq_true,Bool.not_eq_true',bne_eq_false_iff_eq] at hx
 obtain ⟨hw,hm⟩:=hx
 obtain ⟨c,rfl⟩:=Int.dvd_of_tmod_eq_zero hm
 have hw':=wideB_iff.1 hw
 have e:min (Int.toNat (o:Int)) (IntKind.bits .i64)=o:=by simp only [Int.toNat_natCast,IntKind.bits];omega
 have hp:(0:Int)<2^o:=Int.pow_pos (by omega)
 have ep:((2^o:Nat):Int)=2^o:=by simp
 rw [ep] at hw' hw ⊢
 have e1:gshr .i64 (2^o*c) (o:Int)=c:=by
  unfold gshr
  rw [e]
  exact Int.mul_fdiv_cancel_left _ (by omega)
 rw [e1]
 refine ⟨wideB_iff.2 ?_,?_,hw⟩
 ·generalize (2:Int)^o=p at hp hw'
  have hs:p*c=(p-1)*c+c:=by rw [Int.sub_mul];omega
  by_cases hc:0≤c
  ·have:=Int.mul_nonneg (show 0≤p-1 by omega) hc
   omega
  ·have:=Int.mul_nonneg (show 0≤p-1 by omega) (show 0≤-c by omega)
   rw [Int.mul_neg] at this
   omega
 ·unfold gshl
  rw [e,Int.mul_comm]
  exact wrap64 (by omega)
theorem down_up {o:Nat} (h:o≤30) {l d:List Int} (hd:downO (o:Int) l=some d):d.all wideB=true∧d.length=l.length∧upO (o:Int) d=some l:=by
 unfold downO at hd
 cases ha:l.all (downB (o:Int)) with
 |false=>rw [ha] at hd;cases hd
 |true=>
  rw [ha] at hd
  simp only [cond_true,sj] at hd
  subst hd
  have hall:=List.all_eq_true.1 ha
  refine ⟨?_,by simp,?_⟩
  ·simp only [List.all_map]
   exact List.all_eq_true.2 fun x hx=>(down_one h (hall x hx)).1
  ·have e1:(l.map fun x=>gshr .i64 x (o:Int)).all (fun x=>wideB x&&wideB (gshl .i64 x (o:Int)))=true:=by
    simp only [List.all_map]
    refine List.all_eq_true.2 fun x hx=>?_
    obtain ⟨h1,h2,h3⟩:=down_one h (hall x hx)
    simp only [Function.comp,h1,h2,h3,Bool.and_self]
   unfold upO
   rw [e1]
   simp only [cond_true,sj,List.map_map]
   have em:l.map ((fun x=>gshl .i64 x (o:Int))∘fun x=>gshr .i64 x (o:Int))=l.map id:=List.map_congr_left (fun x hx=>(down_one h (hall x hx)).2.1)
   rw [em,List.map_id]
end Go.Ab
namespace Go.Ab
theorem sizes_zero {n warm:Int} (h:rowB n warm=true):(sizesI 0 n warm).length≠0:=by
 have h':=h
 simp only [rowB,Bool.and_eq_true,decide_eq_true_eq] at h'
 unfold sizesI sizesN
 have e:((n.toNat / 2^(0:Int).toNat:Nat):Int)=n:=by simp;omega
 have e2:n.toNat%2^(0:Int).toNat=0:=by simp;omega
 simp only [h,e,e2]
 simp [h'.2.2.2]
end Go.Ab
namespace Go.Ab
theorem putL_len {N n:Nat} (hn:n≤63) (h:N<2^n) (L:List Int):(putL (N:Int) n L).length=L.length+n:=by
 unfold putL
 rw [gshru_nat (N:=N) (o:=n) (by omega),Nat.div_eq_of_lt h]
 simp [pb_length]
def riceC (k:Nat) (x:Int):Nat:=if foldN x / 2^k<32 then foldN x / 2^k+1+k else 65
theorem riceC_le {k:Nat} (hk:k≤25) (x:Int):riceC k x≤65:=by
 unfold riceC
 split
 ·rename_i h
  generalize foldN x / 2^k=q at h
  omega
 ·omega
theorem riceL_len {k:Nat} (hk:k≤25) {x:Int} (hw:wideB x=true) (L:List Int):(riceL k x L).length=L.length+riceC k x:=by
 unfold riceL riceC
 have hp:0<2^k:=Nat.two_pow_pos k
 have hm:foldN x%2^k<2^k:=Nat.mod_lt _ hp
 have hf:=foldN_lt hw
 split
 ·rw [putL_len (by omega) hm,unL_length];omega
 ·rw [putL_len (n:=32) (by omega) (by omega),unL_length]
theorem ricesL_len {k:Nat} (hk:k≤25):∀ (l L:List Int),l.all wideB=true→(ricesL k l L).length=L.length+(l.map (riceC k)).sum
 | [],L,_=>by simp [ricesL]
 |x::l,L,h=>by
  simp only [List.all_cons,Bool.and_eq_true] at h
  have e:ricesL k (x::l) L=ricesL k l (riceL k x L):=rfl
  rw [e,ricesL_len hk l _ h.2,riceL_len hk h.1,List.map_cons,List.sum_cons]
  omega
theorem rice_Cost_eq {k:Nat} (hk:k≤25) {x:Int} (hw:wideB x=true):F_rice_Cost ((k:Int),x)=some ((riceC k x:Nat):Int):=by
 have hy:=foldN_lt hw
 have eq:gshr .u64 ((foldN x:Nat):Int) (k:Int)=((foldN x / 2^k:Nat):Int):=gshru_nat (by omega)
 have ew:IntKind.wrap .i64 ((foldN x / 2^k:Nat):Int)=((foldN x / 2^k:Nat):Int):=wrap_nat (Nat.lt_of_le_of_lt (Nat.div_le_self _ _) hy)
 have hk0:decide ((k:Int)<0)=false:=by simp
 unfold F_rice_Cost riceC
 simp only [rice_parameter_eq hk,rice_wide_eq,hw,Option.bind_some,Bool.not_true,cond_false,rice_Fold_eq hw,hk0,eq,ew]
 generalize foldN x / 2^k=q
 by_cases hq:q<32
 ·have hd:decide ((q:Int)<32)=true:=decide_eq_true (by omega)
  simp only [hd,cond_true,if_pos hq]
  rw [wrap64 (n:=(q:Int)+1) (by omega),wrap64 (by omega)]
  rfl
 ·have hd:decide ((q:Int)<32)=false:=decide_eq_false (by omega)
  simp only [hd,cond_false,if_neg hq]
  rfl
theorem sum_le {f:Int→Nat} {M:Nat} (h:∀ x,f x≤M):∀ l:List Int,(l.map f).sum≤M*l.length
 | []=>by simp
 |x::l=>by
  have:=h x
  have:=sum_le h l
  rw [List.map_cons,List.sum_cons,List.length_cons,Nat.mul_add,Nat.mul_one];omega
theorem sum_take {f:Int→Nat} {l:List Int} {i:Nat} (h:i<l.length):((l.take (i+1)).map f).sum=((l.take i).map f).sum+f l[i]:=by
 rw [List.take_succ_eq_append_getElem h,List.map_append,List.sum_append]
 simp only [List.map_cons,List.map_nil,List.sum_cons,List.sum_nil,Nat.add_zero]
theorem rice_Sum_eq {k:Nat} (hk:k≤25) {l:List Int} (hw:l.all wideB=true) (hl:l.length<10000):F_rice_Sum ((k:Int),l)=some (((l.map (riceC k)).sum:Nat):Int):=by
 have:=iter_count (f:=F_rice_Sum_l0) (fun i:Nat=>((k:Int),(((((l.take i).map (riceC k)).sum:Nat):Int),(l,((l.length:Int),((i:Int),())))))) l.length (b:=((((l.map (riceC k)).sum:Nat):Int),()))
  (fun i hi=>by
   have hc:=rice_Cost_eq hk (List.all_eq_true.1 hw _ (List.getElem_mem hi))
   have h1:=sum_le (riceC_le hk) (l.take (i+1))
   rw [sum_take hi] at h1
   rw [List.length_take] at h1
   have e:IntKind.wrap .i64 (((((l.take i).map (riceC k)).sum:Nat):Int)+((riceC k l[i]:Nat):Int))=((((l.take (i+1)).map (riceC k)).sum:Nat):Int):=by
    rw [sum_take hi,wrap64 (by omega)];omega
   simp only [F_rice_Sum_l0,dlt hi,cond_true,gidx_get hi,Option.bind_some,hc,e,wrap_succ (show i<1000000 by omega)])
  (by simp only [F_rice_Sum_l0,dge,cond_false,List.take_length])
 unfold F_rice_Sum
 have e0:(((l.take 0).map (riceC k)).sum:Nat)=0:=rfl
 simp only [e0,Int.natCast_zero] at this
 simp only [this,Option.bind_some]
theorem mask_nat (x:Int) {n:Nat} (hn:n≤62):∃ N:Nat,maskS x n=(N:Int)∧N<2^n:=by
 obtain ⟨h1,h2⟩:=wrapu_range x
 obtain ⟨y,hy⟩:=Int.eq_ofNat_of_zero_le h1
 have hp:0<2^n:=Nat.two_pow_pos n
 refine ⟨y%2^n,?_,Nat.mod_lt _ hp⟩
 unfold maskS
 rw [hy]
 exact and_mask (by omega) hn
theorem putsL_len {n:Nat} (hn:n≤62):∀ (l L:List Int),(putsL n l L).length=L.length+n*l.length
 | [],L=>by simp [putsL]
 |x::l,L=>by
  have e:putsL n (x::l) L=putsL n l (putL (maskS x n) n L):=rfl
  obtain ⟨N,h1,h2⟩:=mask_nat x hn
  rw [e,putsL_len hn l,h1,putL_len (by omega) h2,List.length_cons,Nat.mul_add,Nat.mul_one]
  omega
theorem fits31 {x:Int} (h:wideB x=true):fitsS x ((31:Nat):Int)=true:=by
 have:=wideB_iff.1 h
 have e1:gshl .i64 (-1) (((31:Nat):Int)-1)=-1073741824:=by decide
 have e2:IntKind.wrap .i64 (gshl .i64 1 (((31:Nat):Int)-1)-1)=1073741823:=by decide
 unfold fitsS
 rw [e1,e2]
 simp only [Bool.and_eq_true,decide_eq_true_eq]
 omega
theorem growN_wide {x:Int} (h:wideB x=true):∀ (k w:Nat),w+k=32→1≤k→growN x k w≤31
 |k+1,w,hk,_=>by
  simp only [growN]
  by_cases h31:w=31
  ·subst h31
   rw [fits31 h]
   simp
  ·cases (x != 0)&&!fitsS x w with
   |true=>exact growN_wide h k (w+1) (by omega) (by omega)
   |false=>simp only [cond_false];omega
theorem width_fold_wide:∀ (l:List Int) (w:Nat),l.all wideB=true→w≤31→l.foldl (fun w x=>growN x (32-w) w) w≤31
 | [],w,_,h=>h
 |x::l,w,hl,h=>by
  simp only [List.all_cons,Bool.and_eq_true] at hl
  exact width_fold_wide l _ hl.2 (growN_wide hl.1 (32-w) w (by omega) (by omega))
theorem widthN_wide {l:List Int} (h:l.all wideB=true):widthN l≤31:=width_fold_wide l 0 h (by omega)
theorem parts_raw_eq {l:List Int} (hl:l.length<10000):F_parts_raw l=some (((5+widthN l*l.length:Nat)):Int):=by
 have hw:=widthN_le l
 have hm:widthN l*l.length≤32*l.length:=Nat.mul_le_mul_right _ hw
 unfold F_parts_raw
 simp only [sample_Width_eq (show short l by unfold short;omega),Option.bind_some]
 have e:((widthN l:Nat):Int)*((l.length:Nat):Int)=((widthN l*l.length:Nat):Int):=by simp
 rw [e,wrap64 (n:=((widthN l*l.length:Nat):Int)) (by omega),wrap64 (by omega)]
 congr 1
def partC (k:Int) (part:List Int):Nat:=5+(if k=31 then 5+widthN part*part.length else (part.map (riceC k.toNat)).sum)
def partsC:List Nat→List Int→List Int→Nat
 |z::zs,k::ks,l=>partC k (l.take z)+partsC zs ks (l.drop z)
 |_,_,_=>0
theorem wrapu_nat {q:Nat} (h:q<2147483648):IntKind.wrap .u64 (q:Int)=(q:Int):=wrapu64 (by omega)
theorem partL_len {k:Int} (hk:kB k=true) {part:List Int} (hw:part.all wideB=true) (L:List Int):(partL k part L).length=L.length+partC k part:=by
 simp only [kB,Bool.or_eq_true,Bool.and_eq_true,decide_eq_true_eq,beq_iff_eq] at hk
 obtain ⟨K,rfl⟩:=Int.eq_ofNat_of_zero_le (show 0≤k by omega)
 have hK:K≤31:=by omega
 have h1:=putL_len (N:=K) (n:=5) (by omega) (by omega) L
 have hwd:=widthN_wide hw
 unfold partL partC
 rw [wrapu_nat (by omega)]
 split
 ·rw [putsL_len (by omega),putL_len (n:=5) (by omega) (by omega),h1];omega
 ·rw [ricesL_len (by omega) _ _ hw,h1];omega
theorem partsL_len:∀ (zs:List Nat) (ks l L:List Int),ks.all kB=true→l.all wideB=true→(partsL zs ks l L).length=L.length+partsC zs ks l
 |z::zs,k::ks,l,L,h,hw=>by
  simp only [List.all_cons,Bool.and_eq_true] at h
  have hwp:(l.take z).all wideB=true:=List.all_eq_true.2 fun x hx=>List.all_eq_true.1 hw x (List.mem_of_mem_take hx)
  have hwr:(l.drop z).all wideB=true:=List.all_eq_true.2 fun x hx=>List.all_eq_true.1 hw x (List.mem_of_mem_drop hx)
  simp only [partsL,partsC]
  rw [partsL_len zs ks _ _ h.2 hwr,partL_len h.1 hwp]
  omega
 | [],_,_,_,_,_=>by simp [partsL,partsC]
 |_::_,[],_,_,_,_=>by simp [partsL,partsC]
theorem partC_le {k:Int} (hk:kB k=true) (part:List Int):partC k part≤10+65*part.length:=by
 simp only [kB,Bool.or_eq_true,Bool.and_eq_true,decide_eq_true_eq,beq_iff_eq] at hk
 unfold partC
 split
 ·have hm:widthN part*part.length≤32*part.length:=Nat.mul_le_mul_right _ (widthN_le part)
  omega
 ·have:=sum_le (riceC_le (k:=k.toNat) (by omega)) part
  omega
theorem parts_cost_exact {zn:List Nat} {p:Prt} (hk:p.2.1.length=zn.length) (hall:p.2.1.all kB=true) (hz:zn.length≤256):∀ (j i:Nat) (l:List Int) (c:Nat),i+j=zn.length→(zn.drop i).sum=l.length→l.all wideB=true→l.length≤5000→c+10*j+65*l.length<1000000→
  iter F_parts_Cost_l0 (l,((c:Int),((zn.length:Int),((i:Int),(castZ zn,(p,()))))))=some (((c+partsC (zn.drop i) (p.2.1.drop i) l:Nat):Int),())
 |0,i,l,c,hi,_,_,_,_=>by
  obtain rfl:i=zn.length:=by omega
  rw [List.drop_length]
  exact iter_done (by simp [F_parts_Cost_l0,partsC])
 |j+1,i,l,c,hi,hsum,hw,hl5,hb=>by
  have hlt:i<zn.length:=by omega
  have hki:i<p.2.1.length:=by omega
  have hkb:=List.all_eq_true.1 hall _ (List.getElem_mem hki)
  rw [sum_drop hlt] at hsum
  have h0:decide ((0:Int)≤(i:Int))=true:=by simp
  have h1:decide ((i:Int)<(((castZ zn).length:Nat):Int))=true:=by rw [castZ_length];simp;omega
  have h2:decide ((0:Int)≤((zn[i]:Nat):Int))=true:=by simp
  have h3:decide (((zn[i]:Nat):Int)≤((l.length:Nat):Int))=true:=by simp;omega
  have hpart:(l.take zn[i]).length=zn[i]:=by rw [List.length_take];omega
  have hrest:(l.drop zn[i]).length=(zn.drop (i+1)).sum:=by rw [List.length_drop];omega
  have hwp:(l.take zn[i]).all wideB=true:=List.all_eq_true.2 fun x hx=>List.all_eq_true.1 hw x (List.mem_of_mem_take hx)
  have hwr:(l.drop zn[i]).all wideB=true:=List.all_eq_true.2 fun x hx=>List.all_eq_true.1 hw x (List.mem_of_mem_drop hx)
  have hle:=partC_le hkb (l.take zn[i])
  rw [hpart] at hle
  have goal:F_parts_Cost_l0 (l,((c:Int),((zn.length:Int),((i:Int),(castZ zn,(p,()))))))=some (.inl (l.drop zn[i],(((c+partC p.2.1[i] (l.take zn[i]):Nat):Int),((zn.length:Int),(((i+1:Nat):Int),(castZ zn,(p,()))))))):=by
   by_cases h31:p.2.1[i]=31
   ·have hne:(p.2.1[i]==31)=true:=by rw [h31];rfl
    have hr:=parts_raw_eq (l:=l.take zn[i]) (by omega)
    have ec:partC p.2.1[i] (l.take zn[i])=5+(5+widthN (l.take zn[i])*(l.take zn[i]).length):=by unfold partC;rw [if_pos h31]
    rw [ec] at hle ⊢
    generalize 5+widthN (l.take zn[i])*(l.take zn[i]).length=r at hr hle ⊢
    have e1:IntKind.wrap .i64 (5+(r:Int))=5+(r:Int):=wrap64 (by omega)
    have e2:IntKind.wrap .i64 ((c:Int)+(5+(r:Int)))=((c+(5+r):Nat):Int):=by rw [wrap64 (by omega)];omega
    simp only [F_parts_Cost_l0,dlt hlt,h0,h1,castZ_get hlt,h2,h3,cond_true,Bool.and_self,Int.toNat_natCast,gidx_get hki,Option.bind_some,hne,hr,e1,e2,List.take_length,wrap_succ (show i<1000000 by omega)]
   ·have hne:(p.2.1[i]==31)=false:=by simp [h31]
    have hkb':=hkb
    simp only [kB,Bool.or_eq_true,Bool.and_eq_true,decide_eq_true_eq,beq_iff_eq] at hkb'
    obtain ⟨K,hK⟩:=Int.eq_ofNat_of_zero_le (show 0≤p.2.1[i] by omega)
    have hr:=rice_Sum_eq (k:=K) (by omega) hwp (by omega)
    have ec:partC p.2.1[i] (l.take zn[i])=5+((l.take zn[i]).map (riceC K)).sum:=by unfold partC;rw [if_neg h31,hK];rfl
    rw [←hK] at hr
    rw [ec] at hle ⊢
    generalize ((l.take zn[i]).map (riceC K)).sum=r at hr hle ⊢
    have e1:IntKind.wrap .i64 (5+(r:Int))=5+(r:Int):=wrap64 (by omega)
    have e2:IntKind.wrap .i64 ((c:Int)+(5+(r:Int)))=((c+(5+r):Nat):Int):=by rw [wrap64 (by omega)];omega
    simp only [F_parts_Cost_l0,dlt hlt,h0,h1,castZ_get hlt,h2,h3,cond_true,cond_false,Bool.and_self,Int.toNat_natCast,gidx_get hki,Option.bind_some,hne,hr,e1,e2,List.take_length,wrap_succ (show i<1000000 by omega)]
  rw [iter_step goal,parts_cost_exact hk hall hz j (i+1) (l.drop zn[i]) _ (by omega) hrest.symm hwr (by rw [List.length_drop];omega) (by rw [List.length_drop];omega)]
  rw [List.drop_eq_getElem_cons hlt,List.drop_eq_getElem_cons hki]
  simp only [partsC]
  congr 3
  omega
theorem parts_Cost_eq {p:Prt} {n warm:Int} {l:List Int} {zn:List Nat} (h:PartsOk p n warm l zn):F_parts_Cost (p,(n,(warm,l)))=some ((4+partsC zn p.2.1 l:Nat):Int):=by
 have hk:Go.Ab.short p.2.1:=by have:=h.ks;have:=h.len;unfold Go.Ab.short;omega
 have h5:=h.short
 have hz:=h.len
 have h1:=parts_cost_exact h.ks h.all h.len zn.length 0 l 4 (by omega) (by rw [List.drop_zero];exact h.sum) h.wide h.short (by omega)
 simp only [Int.natCast_zero,Int.cast_ofNat_Int,List.drop_zero] at h1
 unfold F_parts_Cost
 simp only [parts_May_eq hk,h.may,parts_right_eq h.row h.rest h.wide h.short,Option.bind_some,Bool.not_true,cond_false,parts_Sizes_eq,h.sizes,castZ_length,h1]
theorem partsPutL_len {p:Prt} {n warm:Int} {l:List Int} {zn:List Nat} (h:PartsOk p n warm l zn) (L:List Int):(partsPutL p zn l L).length=L.length+(4+partsC zn p.2.1 l):=by
 obtain ⟨o,ho⟩:=Int.eq_ofNat_of_zero_le h.order.1
 have h2:=h.order.2
 unfold partsPutL
 rw [partsL_len _ _ _ _ h.all h.wide,ho,wrapu_nat (by omega),putL_len (by omega) (by omega)]
 omega
end Go.Ab
namespace Go.Ab
def zeroO (o:Int):Sub:=((0:Int),((0:Int),(o,((0:Int),((0:Int),(([]:List Int),(List.replicate 3 (0:Int),(([]:List Stg),(([]:List Int),(((0:Int),(([]:List Int),())),(([]:List Int),())))))))))))
theorem small_zeroO (o:Int):SmallS (zeroO o):=⟨by simp [zeroO],by simp [zeroO],by simp [zeroO],by simp [zeroO],by simp [zeroO],by simp [zeroO]⟩
end Go.Ab
namespace Go.Ab
end Go.Ab
namespace Go.Ab
theorem clamp_same {x:Int} (h:-1048576≤x∧x≤1048575):imin (imax x (-1048576)) 1048575=x:=by
 unfold imin imax
 have h1:decide ((-1048576:Int) > x)=false:=decide_eq_false (by omega)
 have h2:decide ((1048575:Int)<x)=false:=decide_eq_false (by omega)
 simp only [h1,cond_false,h2]
theorem shr10 {x:Int} (h:wideB x=true):-1048576≤gshr .i64 x ((10:Nat):Int)∧gshr .i64 x ((10:Nat):Int)≤1048575:=by
 have hx:=wideB_iff.1 h
 have e:gshr .i64 x ((10:Nat):Int)=x / 1024:=by
  show Int.fdiv x 1024=_
  exact Int.fdiv_eq_ediv_of_nonneg _ (by decide)
 rw [e]
 omega
theorem scale_one {x:Int} (hx:wideB x=true) {a l:List Int} {n i:Int}:∀ (k s:Nat),s+k=10→∃ s':Nat,s'≤10∧iter F_linear_scaled_l0 (a,((s:Int),(x,(l,(n,(i,()))))))=some (a,((s':Int),(l,(n,(i,())))))
 |0,s,h=>by
  obtain rfl:s=10:=by omega
  have d0:decide (((10:Nat):Int)<0)=false:=by decide
  have hs:=clamp_same (shr10 hx)
  refine ⟨10,Nat.le_refl _,iter_done ?_⟩
  simp only [F_linear_scaled_l0,d0,cond_false,F_linear_clamp,Option.bind_some,hs,bne_self_eq_false]
 |k+1,s,h=>by
  have d0:decide ((s:Int)<0)=false:=decide_eq_false (by omega)
  cases hc:(imin (imax (gshr .i64 x (s:Int)) (-1048576)) 1048575 != gshr .i64 x (s:Int)) with
  |false=>exact ⟨s,by omega,iter_done (by simp only [F_linear_scaled_l0,d0,cond_false,F_linear_clamp,Option.bind_some,hc])⟩
  |true=>
   obtain ⟨s',h1,h2⟩:=scale_one hx (a:=a) (l:=l) (n:=n) (i:=i) k (s+1) (by omega)
   refine ⟨s',h1,?_⟩
   rw [iter_step (s':=(a,(((s+1:Nat):Int),(x,(l,(n,(i,()))))))) (by simp only [F_linear_scaled_l0,d0,cond_false,F_linear_clamp,Option.bind_some,hc,cond_true,wrap_succ (show s<1000000 by omega)])]
   exact h2
theorem scaled_some {l:List Int} (hw:l.all wideB=true) (hl:l.length<100000):∃ r,F_linear_scaled l=some r∧r.length=l.length:=by
 obtain ⟨b,h1,s,h2,h3⟩:=iter_ex (f:=F_linear_scaled_l1) (fun i st=>∃ s:Nat,s≤10∧st=(l,((s:Int),(l,((l.length:Int),((i:Int),())))))) (fun b=>∃ s:Nat,s≤10∧b=(l,((s:Int),()))) l.length
  (fun i st hi h=>by
   obtain ⟨s,hs,rfl⟩:=h
   obtain ⟨s',hs',e⟩:=scale_one (List.all_eq_true.1 hw _ (List.getElem_mem hi)) (a:=l) (l:=l) (n:=(l.length:Int)) (i:=(i:Int)) (10-s) s (by omega)
   exact ⟨_,by simp only [F_linear_scaled_l1,dlt hi,cond_true,gidx_get hi,Option.bind_some,e,wrap_succ (show i<1000000 by omega)]<;>rfl,s',hs',rfl⟩)
  (fun st h=>by
   obtain ⟨s,hs,rfl⟩:=h
   exact ⟨_,by simp only [F_linear_scaled_l1,dge,cond_false]<;>rfl,s,hs,rfl⟩) l.length 0 _ (by omega) ⟨0,by omega,rfl⟩
 subst h3
 obtain ⟨c,g1,o,g2,g3⟩:=iter_ex (f:=F_linear_scaled_l2) (fun i st=>∃ o:List Int,st=((s:Int),(l,((l.length:Int),((i:Int),(o,())))))∧o.length=l.length) (fun b=>∃ o:List Int,b=(o,())∧o.length=l.length) l.length
  (fun i st hi h=>by
   obtain ⟨o,rfl,ho⟩:=h
   have d0:decide ((s:Int)<0)=false:=decide_eq_false (by omega)
   have d1:decide ((0:Int)≤(i:Int))=true:=by simp
   have d2:decide ((i:Int)<((o.length:Nat):Int))=true:=decide_eq_true (by omega)
   exact ⟨_,by simp only [F_linear_scaled_l2,dlt hi,cond_true,gidx_get hi,Option.bind_some,d0,cond_false,d1,d2,Bool.and_self,wrap_succ (show i<1000000 by omega)]<;>rfl,_,rfl,by simp [ho]⟩)
  (fun st h=>by
   obtain ⟨o,rfl,ho⟩:=h
   exact ⟨_,by simp only [F_linear_scaled_l2,dge,cond_false]<;>rfl,o,rfl,ho⟩) l.length 0 _ (by omega) ⟨List.replicate l.length 0,rfl,by simp⟩
 subst g2
 refine ⟨o,?_,g3⟩
 have d0:decide ((0:Int)≤((l.length:Nat):Int))=true:=by simp
 have d1:decide (((l.length:Nat):Int)≤((l.length:Nat):Int))=true:=by simp
 have d2:lim l.length=true:=lim_short (by omega)
 simp only [Int.natCast_zero] at h1 g1
 unfold F_linear_scaled
 simp only [h1,Option.bind_some,d0,d1,d2,Int.toNat_natCast,Bool.and_self,cond_true,g1]
theorem halve_some:∀ (N:Nat) (num den:Int),den.toNat≤N→∃ a b,iter F_linear_reflection_l1 (num,(den,()))=some (a,(b,()))
 |N,num,den,h=>by
  by_cases hd:den≥1099511627776
  ·have d0:decide (den≥(1099511627776:Int))=true:=decide_eq_true hd
   have e:gshr .i64 den 1=den / 2:=by
    show Int.fdiv den 2=_
    exact Int.fdiv_eq_ediv_of_nonneg _ (by decide)
   rw [iter_step (s':=(gshr .i64 num 1,(den / 2,()))) (by simp only [F_linear_reflection_l1,d0,cond_true,e])]
   match N with
   |0=>omega
   |N+1=>exact halve_some N _ _ (by omega)
  ·have d0:decide (den≥(1099511627776:Int))=false:=decide_eq_false hd
   exact ⟨num,den,iter_done (by simp only [F_linear_reflection_l1,d0,cond_false])⟩
theorem reflection_some {f g:List Int} {m:Nat} (hm:1≤m) (hg:g.length=f.length) (hl:f.length<100000) (hm2:m<1000):∃ k,F_linear_reflection (f,(g,(m:Int)))=some k:=by
 obtain ⟨b,h1,num,den,h2⟩:=iter_ex (f:=F_linear_reflection_l0) (fun i st=>∃ num den:Int,st=(f,(g,(num,(den,(((m+i:Nat):Int),())))))) (fun b=>∃ num den:Int,b=(num,(den,()))) (f.length-m)
  (fun i st hi h=>by
   obtain ⟨num,den,rfl⟩:=h
   have hlt:m+i<f.length:=by omega
   have e:IntKind.wrap .i64 (((m+i:Nat):Int)-1)=((m+i-1:Nat):Int):=by rw [wrap64 (by omega)];omega
   exact ⟨_,by simp only [F_linear_reflection_l0,dlt hlt,cond_true,gidx_get hlt,e,gidx_get (show m+i-1<g.length by omega),Option.bind_some,wrap_succ (show m+i<1000000 by omega)]<;>rfl,_,_,rfl⟩)
  (fun st h=>by
   obtain ⟨num,den,rfl⟩:=h
   have d0:decide (((m+(f.length-m):Nat):Int)<((f.length:Nat):Int))=false:=decide_eq_false (by omega)
   exact ⟨_,by simp only [F_linear_reflection_l0,d0,cond_false]<;>rfl,_,_,rfl⟩) (f.length-m) 0 (f,(g,(0,(0,((m:Int),()))))) (by omega) ⟨0,0,rfl⟩
 subst h2
 obtain ⟨a,c,h3⟩:=halve_some den.toNat num den (Nat.le_refl _)
 unfold F_linear_reflection
 simp only [h1,Option.bind_some,h3]
 cases hc:(c==0) with
 |true=>exact ⟨0,rfl⟩
 |false=>
  simp only [cond_false]
  cases decide ((gshl .i64 a 15).tmod c<0)<;>exact ⟨_,rfl⟩
theorem reflect_inner {f g ks:List Int} {m:Nat} {order k:Int} (hm:1≤m) (hg:g.length=f.length) (hl:f.length<100000) (hm2:m<1000):
  ∃ f' g':List Int,iter F_linear_Reflect_l0 (order,((m:Int),(k,(((f.length:Nat):Int)-1,(f,(g,(ks,())))))))=some (order,((m:Int),(f',(g',(ks,())))))∧f'.length=f.length∧g'.length=f.length:=by
 obtain ⟨b,h1,f',g',h2,h3⟩:=iter_ex (f:=F_linear_Reflect_l0) (fun i st=>∃ f' g':List Int,st=(order,((m:Int),(k,(((f.length:Nat):Int)-1-(i:Int),(f',(g',(ks,())))))))∧f'.length=f.length∧g'.length=f.length)
  (fun b=>∃ f' g':List Int,b=(order,((m:Int),(f',(g',(ks,())))))∧f'.length=f.length∧g'.length=f.length) (f.length-m)
  (fun i st hi h=>by
   obtain ⟨f',g',rfl,hf',hg'⟩:=h
   have d0:decide (((f.length:Nat):Int)-1-(i:Int)≥(m:Int))=true:=decide_eq_true (by omega)
   have d1:decide ((0:Int)≤((f.length:Nat):Int)-1-(i:Int))=true:=decide_eq_true (by omega)
   have d2:decide (((f.length:Nat):Int)-1-(i:Int)<((f'.length:Nat):Int))=true:=decide_eq_true (by omega)
   have d3:decide (((f.length:Nat):Int)-1-(i:Int)<((g'.length:Nat):Int))=true:=decide_eq_true (by omega)
   have e:IntKind.wrap .i64 (((f.length:Nat):Int)-1-(i:Int)-1)=((f.length:Nat):Int)-1-((i+1:Nat):Int):=by rw [wrap64 (by omega)];omega
   have d4:decide ((0:Int)≤((f.length:Nat):Int)-1-((i+1:Nat):Int))=true:=decide_eq_true (by omega)
   have d5:decide (((f.length:Nat):Int)-1-((i+1:Nat):Int)<((g'.length:Nat):Int))=true:=decide_eq_true (by omega)
   exact ⟨_,by simp only [F_linear_Reflect_l0,d0,d1,d2,d3,e,d4,d5,cond_true,Bool.and_self,F_linear_clamp,Option.bind_some]<;>rfl,_,_,rfl,by simp [hf'],by simp [hg']⟩)
  (fun st h=>by
   obtain ⟨f',g',rfl,hf',hg'⟩:=h
   have d0:decide (((f.length:Nat):Int)-1-((f.length-m:Nat):Int)≥(m:Int))=false:=decide_eq_false (by omega)
   exact ⟨_,by simp only [F_linear_Reflect_l0,d0,cond_false]<;>rfl,f',g',rfl,hf',hg'⟩) (f.length-m) 0 _ (by omega) ⟨f,g,rfl,rfl,hg⟩
 subst h2
 simp only [Int.natCast_zero,Int.sub_zero] at h1
 exact ⟨f',g',h1,h3⟩
theorem reflect_loop {f g:List Int} {o:Nat} (ho:o≤32) (hg:g.length=f.length) (hl:f.length<100000):∃ ks:List Int,iter F_linear_Reflect_l1 ((o:Int),((1:Int),(f,(g,(([]:List Int),())))))=some (ks,())∧ks.length=o:=by
 obtain ⟨b,h1,ks,h2,h3⟩:=iter_ex (f:=F_linear_Reflect_l1) (fun i st=>∃ f' g' ks:List Int,st=((o:Int),(((i+1:Nat):Int),(f',(g',(ks,())))))∧f'.length=f.length∧g'.length=f.length∧ks.length=i)
  (fun b=>∃ ks:List Int,b=(ks,())∧ks.length=o) o
  (fun i st hi h=>by
   obtain ⟨f',g',ks,rfl,hf',hg',hk⟩:=h
   have d0:decide (((i+1:Nat):Int)≤(o:Int))=true:=decide_eq_true (by omega)
   obtain ⟨k,hk2⟩:=reflection_some (f:=f') (g:=g') (m:=i+1) (by omega) (by omega) (by omega) (by omega)
   have e:IntKind.wrap .i64 (((f'.length:Nat):Int)-1)=((f'.length:Nat):Int)-1:=wrap64 (by omega)
   obtain ⟨f2,g2,h1,h2,h3⟩:=reflect_inner (f:=f') (g:=g') (ks:=ks++[k]) (m:=i+1) (order:=(o:Int)) (k:=k) (by omega) (by omega) (by omega) (by omega)
   have hlim:lim (ks.length+1)=true:=lim_short (by omega)
   exact ⟨_,by simp only [F_linear_Reflect_l1,d0,cond_true,hk2,Option.bind_some,hlim,e,List.append_eq,h1,wrap_succ (show i+1<1000000 by omega)]<;>rfl,f2,g2,ks++[k],rfl,by omega,by omega,by simp [hk]⟩)
  (fun st h=>by
   obtain ⟨f',g',ks,rfl,hf',hg',hk⟩:=h
   have d0:decide (((o+1:Nat):Int)≤(o:Int))=false:=decide_eq_false (by omega)
   exact ⟨_,by simp only [F_linear_Reflect_l1,d0,cond_false]<;>rfl,ks,rfl,hk⟩) o 0 _ (by omega) ⟨f,g,[],rfl,rfl,hg,rfl⟩
 subst h2
 exact ⟨ks,h1,h3⟩
theorem Reflect_some {l:List Int} (hw:l.all wideB=true) (hl:l.length≤4096) {o:Nat} (h1:1≤o) (h2:o≤32):∃ ks:List Int,F_linear_Reflect (l,(o:Int))=some (ks,0)∧ks.length=o:=by
 have hs:short l:=by unfold short;omega
 obtain ⟨r,e1,e2⟩:=scaled_some hw (by omega)
 have hr:short r:=by unfold short;omega
 obtain ⟨ks,e3,e4⟩:=reflect_loop (f:=r) (g:=r) h2 rfl (by omega)
 have c1:decide ((o:Int)<1)=false:=decide_eq_false (by omega)
 have c2:decide ((o:Int) > 32)=false:=decide_eq_false (by omega)
 have c3:decide (((l.length:Nat):Int) > 4096)=false:=decide_eq_false (by omega)
 have c4:decide ((0:Int)≤(o:Int))=true:=by simp
 have c5:lim o=true:=lim_short (by omega)
 refine ⟨ks,?_,e4⟩
 unfold F_linear_Reflect
 simp only [c1,c2,c3,c4,c5,cond_false,cond_true,Option.bind_some,linear_allWide_eq hs,hw,Bool.not_true,e1,clone_eq hr,Int.toNat_natCast,Bool.and_self,e3]
end Go.Ab
namespace Go.Ab
theorem iter_ex2 {σ β:Type} {f:σ→Option (σ ⊕ β)} (I:Nat→σ→Prop) (Q:β→Prop) (n:Nat) (hstep:∀ i s,i<n→I i s→(∃ s',f s=some (.inl s')∧I (i+1) s')∨(∃ b,f s=some (.inr b)∧Q b))
  (hexit:∀ s,I n s→∃ b,f s=some (.inr b)∧Q b):∀ (k i:Nat) (s:σ),i+k=n→I i s→∃ b,iter f s=some b∧Q b
 |0,i,s,h,hi=>by
  obtain rfl:i=n:=by omega
  obtain ⟨b,h1,h2⟩:=hexit s hi
  exact ⟨b,iter_done h1,h2⟩
 |k+1,i,s,h,hi=>by
  rcases hstep i s (by omega) hi with ⟨s',h1,h2⟩|⟨b,h1,h2⟩
  ·rw [iter_step h1]
   exact iter_ex2 I Q n hstep hexit k (i+1) s' (by omega) h2
  ·exact ⟨b,iter_done h1,h2⟩
theorem climb_check {ks:List Int} (hl:ks.length≤32):∃ b,iter F_linear_Climb_l0 (ks,(ks,((ks.length:Int),((0:Int),()))))=some b∧(b=.inl (ks,())∨b=.inr (([]:List Int),((1:Int),()))):=
 iter_ex2 (f:=F_linear_Climb_l0) (fun i s=>s=(ks,(ks,((ks.length:Int),((i:Int),()))))) (fun b=>b=.inl (ks,())∨b=.inr (([]:List Int),((1:Int),()))) ks.length
  (fun i s hi h=>by
   subst h
   cases h1:decide (ks[i]<(-16383:Int)) with
   |true=>exact Or.inr ⟨_,by simp only [F_linear_Climb_l0,dlt hi,cond_true,gidx_get hi,Option.bind_some,h1]<;>rfl,Or.inr rfl⟩
   |false=>
    cases h2:decide (ks[i] > (16383:Int)) with
    |true=>exact Or.inr ⟨_,by simp only [F_linear_Climb_l0,dlt hi,cond_true,cond_false,gidx_get hi,Option.bind_some,h1,h2]<;>rfl,Or.inr rfl⟩
    |false=>exact Or.inl ⟨_,by simp only [F_linear_Climb_l0,dlt hi,cond_true,cond_false,gidx_get hi,Option.bind_some,h1,h2,wrap_succ (show i<1000000 by omega)]<;>rfl,rfl⟩)
  (fun s h=>by
   subst h
   exact ⟨_,by simp only [F_linear_Climb_l0,dge,cond_false]<;>rfl,Or.inl rfl⟩) ks.length 0 _ (by omega) rfl
theorem climb_inner {c a:List Int} {i:Nat} {k n:Int} (hc:c.length=i) (hi:i≤32):
  ∃ nx:List Int,iter F_linear_Climb_l1 (c,((i:Int),(k,(a,(n,((i:Int),(c,((c.length:Int),((0:Int),(([]:List Int),()))))))))))=some (k,(a,(n,((i:Int),(nx,())))))∧nx.length=i:=by
 obtain ⟨b,h1,nx,h2,h3⟩:=iter_ex (f:=F_linear_Climb_l1) (fun j s=>∃ nx:List Int,s=(c,((i:Int),(k,(a,(n,((i:Int),(c,((c.length:Int),((j:Int),(nx,()))))))))))∧nx.length=j)
  (fun b=>∃ nx:List Int,b=(k,(a,(n,((i:Int),(nx,())))))∧nx.length=c.length) c.length
  (fun j s hj h=>by
   obtain ⟨nx,rfl,hn⟩:=h
   have e1:IntKind.wrap .i64 ((i:Int)-1)=(i:Int)-1:=wrap64 (by omega)
   have e2:IntKind.wrap .i64 ((i:Int)-1-(j:Int))=((i-1-j:Nat):Int):=by rw [wrap64 (by omega)];omega
   have hlim:lim (nx.length+1)=true:=lim_short (by omega)
   exact ⟨_,by simp only [F_linear_Climb_l1,dlt hj,cond_true,gidx_get hj,Option.bind_some,e1,e2,gidx_get (show i-1-j<c.length by omega),hlim,wrap_succ (show j<1000000 by omega),List.append_eq]<;>rfl,_,rfl,by simp [hn]⟩)
  (fun s h=>by
   obtain ⟨nx,rfl,hn⟩:=h
   exact ⟨_,by simp only [F_linear_Climb_l1,dge,cond_false]<;>rfl,nx,rfl,hn⟩) c.length 0 _ (by omega) ⟨[],rfl,rfl⟩
 subst h2
 exact ⟨nx,h1,by omega⟩
theorem Climb_some {ks:List Int} (h1:1≤ks.length) (hl:ks.length≤32):∃ c e,F_linear_Climb ks=some (c,e)∧(e=0→c.length=ks.length):=by
 obtain ⟨b,g1,g2⟩:=climb_check hl
 have c1:decide (((ks.length:Nat):Int)<1)=false:=decide_eq_false (by omega)
 have c2:decide (((ks.length:Nat):Int) > 32)=false:=decide_eq_false (by omega)
 unfold F_linear_Climb
 simp only [c1,c2,cond_false,Option.bind_some,g1]
 rcases g2 with rfl|rfl
 ·obtain ⟨r,h2,c,h3,h4⟩:=iter_ex (f:=F_linear_Climb_l2) (fun i s=>∃ c:List Int,s=(c,(ks,((ks.length:Int),((i:Int),()))))∧c.length=i) (fun r=>∃ c:List Int,r=(c,())∧c.length=ks.length) ks.length
   (fun i s hi h=>by
    obtain ⟨c,rfl,hc⟩:=h
    have e1:IntKind.wrap .i64 ((i:Int)+1)=((i+1:Nat):Int):=wrap_succ (by omega)
    have d1:decide ((0:Int)≤((i+1:Nat):Int))=true:=by simp;omega
    have l1:lim (i+1)=true:=lim_short (by omega)
    obtain ⟨nx,n1,n2⟩:=climb_inner (c:=c) (a:=ks) (i:=i) (k:=ks[i]) (n:=(ks.length:Int)) hc (by omega)
    have l2:lim (nx.length+1)=true:=lim_short (by omega)
    exact ⟨_,by simp only [F_linear_Climb_l2,dlt hi,cond_true,gidx_get hi,Option.bind_some,e1,d1,Int.toNat_natCast,l1,Bool.and_self,n1,l2,List.append_eq]<;>rfl,_,rfl,by simp [n2]⟩)
   (fun s h=>by
    obtain ⟨c,rfl,hc⟩:=h
    exact ⟨_,by simp only [F_linear_Climb_l2,dge,cond_false]<;>rfl,c,rfl,hc⟩) ks.length 0 _ (by omega) ⟨[],rfl,rfl⟩
  subst h3
  simp only [Int.natCast_zero] at h2
  exact ⟨c,0,by simp only [h2,Option.bind_some],fun _=>h4⟩
 ·exact ⟨[],1,rfl,fun h=>absurd h (by decide)⟩
theorem round_inner {c:List Int} {s:Nat} {w:Nat} {half:Int} (hc:c.length≤32) (hw:w≤32):
  ∃ out:List Int,iter F_linear_Round_l1 (c,((w:Int),((s:Int),(half,(c,((c.length:Int),((0:Int),(([]:List Int),()))))))))=some (c,((w:Int),((s:Int),(out,())))):=by
 obtain ⟨b,h1,out,h2⟩:=iter_ex2 (f:=F_linear_Round_l1) (fun j st=>∃ out:List Int,st=(c,((w:Int),((s:Int),(half,(c,((c.length:Int),((j:Int),(out,()))))))))∧out.length=j)
  (fun b=>∃ out:List Int,b=(c,((w:Int),((s:Int),(out,()))))) c.length
  (fun j st hj h=>by
   obtain ⟨out,rfl,ho⟩:=h
   have d0:decide ((s:Int)<0)=false:=decide_eq_false (by omega)
   have hlim:lim (out.length+1)=true:=lim_short (by omega)
   cases hf:fitsS (gshr .i64 (IntKind.wrap .i64 (c[j]+half)) (s:Int)) (w:Int) with
   |true=>exact Or.inl ⟨_,by simp only [F_linear_Round_l1,dlt hj,cond_true,gidx_get hj,Option.bind_some,d0,cond_false,sample_Fits_eq hw,hf,Bool.not_true,hlim,wrap_succ (show j<1000000 by omega),List.append_eq]<;>rfl,_,rfl,by simp [ho]⟩
   |false=>exact Or.inr ⟨_,by simp only [F_linear_Round_l1,dlt hj,cond_true,gidx_get hj,Option.bind_some,d0,cond_false,sample_Fits_eq hw,hf,Bool.not_false]<;>rfl,out,rfl⟩)
  (fun st h=>by
   obtain ⟨out,rfl,ho⟩:=h
   exact ⟨_,by simp only [F_linear_Round_l1,dge,cond_false]<;>rfl,out,rfl⟩) c.length 0 _ (by omega) ⟨[],rfl,rfl⟩
 subst h2
 exact ⟨out,h1⟩
end Go.Ab
namespace Go.Ab
theorem round_check {c:List Int} {w:Int} (hl:c.length≤32):∃ b,iter F_linear_Round_l0 (c,(w,(c,((c.length:Int),((0:Int),())))))=some b∧(b=.inl (c,(w,()))∨b=.inr ((0:Int),((1:Int),(([]:List Int),())))):=
 iter_ex2 (f:=F_linear_Round_l0) (fun i s=>s=(c,(w,(c,((c.length:Int),((i:Int),())))))) (fun b=>b=.inl (c,(w,()))∨b=.inr ((0:Int),((1:Int),(([]:List Int),())))) c.length
  (fun i s hi h=>by
   subst h
   cases h1:decide (c[i]<(-35184372088832:Int)) with
   |true=>exact Or.inr ⟨_,by simp only [F_linear_Round_l0,dlt hi,cond_true,gidx_get hi,Option.bind_some,h1]<;>rfl,Or.inr rfl⟩
   |false=>
    cases h2:decide (c[i] > (35184372088832:Int)) with
    |true=>exact Or.inr ⟨_,by simp only [F_linear_Round_l0,dlt hi,cond_true,cond_false,gidx_get hi,Option.bind_some,h1,h2]<;>rfl,Or.inr rfl⟩
    |false=>exact Or.inl ⟨_,by simp only [F_linear_Round_l0,dlt hi,cond_true,cond_false,gidx_get hi,Option.bind_some,h1,h2,wrap_succ (show i<1000000 by omega)]<;>rfl,rfl⟩)
  (fun s h=>by
   subst h
   exact ⟨_,by simp only [F_linear_Round_l0,dge,cond_false]<;>rfl,Or.inl rfl⟩) c.length 0 _ (by omega) rfl
theorem Round_some {c:List Int} {w:Nat} (h1:1≤c.length) (hl:c.length≤32) (hw:2≤w∧w≤16):∃ o sh e,F_linear_Round (c,(w:Int))=some (o,(sh,e))∧(e=0→o.length=c.length):=by
 obtain ⟨b,g1,g2⟩:=round_check (w:=(w:Int)) hl
 have c1:decide (((c.length:Nat):Int)<1)=false:=decide_eq_false (by omega)
 have c2:decide (((c.length:Nat):Int) > 32)=false:=decide_eq_false (by omega)
 have c3:decide ((w:Int)<2)=false:=decide_eq_false (by omega)
 have c4:decide ((w:Int) > 16)=false:=decide_eq_false (by omega)
 unfold F_linear_Round
 simp only [c1,c2,c3,c4,cond_false,Option.bind_some,g1]
 rcases g2 with rfl|rfl
 ·obtain ⟨r,h2,h3⟩:=iter_ex2 (f:=F_linear_Round_l2) (fun i s=>s=(c,((w:Int),((i:Int),())))) (fun r=>r=.inl ()∨∃ (sh:Int) (o:List Int),r=.inr (sh,((0:Int),(o,())))∧o.length=c.length) 15
   (fun i s hi h=>by
    subst h
    have d0:decide ((i:Int)≤14)=true:=decide_eq_true (by omega)
    have d1:decide ((0:Int)≤((c.length:Nat):Int))=true:=by simp
    have l1:lim c.length=true:=lim_short (by omega)
    have step:∀ half:Int,∃ o:List Int,iter F_linear_Round_l1 (c,((w:Int),((i:Int),(half,(c,((c.length:Int),((0:Int),(([]:List Int),()))))))))=some (c,((w:Int),((i:Int),(o,())))):=fun half=>round_inner hl (by omega)
    by_cases hp:(i:Int) > 0
    ·have e1:IntKind.wrap .i64 ((i:Int)-1)=(i:Int)-1:=wrap64 (by omega)
     have d2:decide ((i:Int)-1<0)=false:=decide_eq_false (by omega)
     obtain ⟨o,ho⟩:=step (gshl .i64 1 ((i:Int)-1))
     cases hc:((((o.length:Nat):Int))==((c.length:Nat):Int)) with
     |true=>exact Or.inr ⟨_,by simp only [F_linear_Round_l2,d0,cond_true,hp,decide_true,e1,d2,cond_false,Option.bind_some,d1,Int.toNat_natCast,l1,Bool.and_self,ho,hc]<;>rfl,Or.inr ⟨_,o,rfl,by have:=beq_iff_eq.1 hc;omega⟩⟩
     |false=>exact Or.inl ⟨_,by simp only [F_linear_Round_l2,d0,cond_true,hp,decide_true,e1,d2,cond_false,Option.bind_some,d1,Int.toNat_natCast,l1,Bool.and_self,ho,hc,wrap_succ (show i<1000000 by omega)]<;>rfl,rfl⟩
    ·obtain ⟨o,ho⟩:=step 0
     cases hc:((((o.length:Nat):Int))==((c.length:Nat):Int)) with
     |true=>exact Or.inr ⟨_,by simp only [F_linear_Round_l2,d0,cond_true,hp,decide_false,cond_false,Option.bind_some,d1,Int.toNat_natCast,l1,Bool.and_self,ho,hc]<;>rfl,Or.inr ⟨_,o,rfl,by have:=beq_iff_eq.1 hc;omega⟩⟩
     |false=>exact Or.inl ⟨_,by simp only [F_linear_Round_l2,d0,cond_true,hp,decide_false,cond_false,Option.bind_some,d1,Int.toNat_natCast,l1,Bool.and_self,ho,hc,wrap_succ (show i<1000000 by omega)]<;>rfl,rfl⟩)
   (fun s h=>by
    subst h
    have d0:decide (((15:Nat):Int)≤14)=false:=by decide
    exact ⟨_,by simp only [F_linear_Round_l2,d0,cond_false]<;>rfl,Or.inl rfl⟩) 15 0 (c,((w:Int),((0:Int),()))) (by omega) rfl
  rcases h3 with rfl|⟨sh,o,rfl,ho⟩
  ·exact ⟨[],0,6,by simp only [h2,Option.bind_some],fun h=>absurd h (by decide)⟩
  ·exact ⟨o,sh,0,by simp only [h2,Option.bind_some],fun _=>ho⟩
 ·exact ⟨[],0,1,rfl,fun h=>absurd h (by decide)⟩
theorem Find_some {l:List Int} (hw:l.all wideB=true) (hl:l.length≤4096) {o w:Nat} (h1:1≤o) (h2:o≤32) (h3:2≤w∧w≤16):∃ c sh e,F_linear_Find (l,((o:Int),(w:Int)))=some (c,(sh,e))∧(e=0→c.length=o):=by
 obtain ⟨ks,e1,e2⟩:=Reflect_some hw hl h1 h2
 obtain ⟨c,e,g1,g2⟩:=Climb_some (ks:=ks) (by omega) (by omega)
 unfold F_linear_Find
 simp only [e1,Option.bind_some,show ((0:Int) != 0)=false from rfl,cond_false,g1]
 by_cases he:e=0
 ·subst he
  obtain ⟨o',sh,e',g3,g4⟩:=Round_some (c:=c) (w:=w) (by have:=g2 rfl;omega) (by have:=g2 rfl;omega) h3
  have:=g2 rfl
  exact ⟨o',sh,e',by simp only [show ((0:Int) != 0)=false from rfl,cond_false,g3,Option.bind_some],fun h=>by have:=g4 h;omega⟩
 ·have hne:(e != 0)=true:=by simpa using he
  exact ⟨[],0,e,by simp only [hne,cond_true],fun h=>absurd h he⟩
theorem weigh_some {l:List Int} {o:Nat} (hl:l.length<100000) (ho:o≤4):∃ v,F_fixed_weigh (l,(o:Int))=some v:=by
 obtain ⟨b,h1,v,h2⟩:=iter_ex (f:=F_fixed_weigh_l0) (fun i s=>∃ v:Int,s=((o:Int),(v,(l,((l.length:Int),((i:Int),())))))) (fun b=>∃ v:Int,b=(v,())) l.length
  (fun i s hi h=>by
   obtain ⟨v,rfl⟩:=h
   cases hc:decide (IntKind.wrap .i64 ((i:Int)+(o:Int))≥4) with
   |true=>exact ⟨_,by simp only [F_fixed_weigh_l0,dlt hi,cond_true,gidx_get hi,Option.bind_some,hc,wrap_succ (show i<1000000 by omega)]<;>rfl,_,rfl⟩
   |false=>exact ⟨_,by simp only [F_fixed_weigh_l0,dlt hi,cond_true,cond_false,gidx_get hi,Option.bind_some,hc,wrap_succ (show i<1000000 by omega)]<;>rfl,_,rfl⟩)
  (fun s h=>by
   obtain ⟨v,rfl⟩:=h
   exact ⟨_,by simp only [F_fixed_weigh_l0,dge,cond_false]<;>rfl,v,rfl⟩) l.length 0 ((o:Int),((0:Int),(l,((l.length:Int),((0:Int),()))))) (by omega) ⟨0,rfl⟩
 subst h2
 refine ⟨v,?_⟩
 unfold F_fixed_weigh
 simp only [h1,Option.bind_some]
theorem fixed_Rest_some {l:List Int} {o:Nat} (ho:o≤4) (hs:l.length<100000) (hw:l.all wideB=true):∃ r e,F_fixed_Rest (l,(o:Int))=some (r,e)∧r.length≤l.length:=by
 by_cases hn:o≤l.length
 ·rw [fixed_Rest_eq ho hn (by unfold short;omega) hw]
  cases (difN o l).all wideB with
  |true=>exact ⟨_,_,rfl,by rw [difN_length];omega⟩
  |false=>exact ⟨_,_,rfl,by simp⟩
 ·have c1:decide ((o:Int)<0)=false:=decide_eq_false (by omega)
  have c2:decide ((o:Int) > 4)=false:=decide_eq_false (by omega)
  have c3:decide (((l.length:Nat):Int)<(o:Int))=true:=decide_eq_true (by omega)
  exact ⟨[],1,by unfold F_fixed_Rest;simp only [c1,c2,c3,cond_false,cond_true,Option.bind_some],by simp⟩
theorem fixed_Best_some {l:List Int} (hs:l.length<100000) (hw:l.all wideB=true):∃ o:Nat,F_fixed_Best l=some (o:Int)∧o≤4:=by
 obtain ⟨b,h1,o,h2,h3⟩:=iter_ex (f:=F_fixed_Best_l0) (fun i s=>∃ (o:Nat) (v:Int),s=(l,((o:Int),(v,((i:Int),()))))∧o≤4) (fun b=>∃ o:Nat,b=((o:Int),())∧o≤4) 5
  (fun i s hi h=>by
   obtain ⟨o,v,rfl,ho⟩:=h
   have d0:decide ((i:Int)≤4)=true:=decide_eq_true (by omega)
   obtain ⟨r,e,g1,g2⟩:=fixed_Rest_some (o:=i) (by omega) hs hw
   obtain ⟨y,g3⟩:=weigh_some (l:=r) (o:=i) (by omega) (by omega)
   cases hc:(e != 0) with
   |true=>exact ⟨_,by simp only [F_fixed_Best_l0,d0,cond_true,g1,Option.bind_some,hc,wrap_succ (show i<1000000 by omega)]<;>rfl,o,v,rfl,ho⟩
   |false=>
    cases h4:decide (v<0) with
    |true=>exact ⟨_,by simp only [F_fixed_Best_l0,d0,cond_true,cond_false,g1,Option.bind_some,hc,g3,h4,wrap_succ (show i<1000000 by omega)]<;>rfl,i,y,rfl,by omega⟩
    |false=>
     cases h5:decide (y<v) with
     |true=>exact ⟨_,by simp only [F_fixed_Best_l0,d0,cond_true,cond_false,g1,Option.bind_some,hc,g3,h4,h5,wrap_succ (show i<1000000 by omega)]<;>rfl,i,y,rfl,by omega⟩
     |false=>exact ⟨_,by simp only [F_fixed_Best_l0,d0,cond_true,cond_false,g1,Option.bind_some,hc,g3,h4,h5,wrap_succ (show i<1000000 by omega)]<;>rfl,o,v,rfl,ho⟩)
  (fun s h=>by
   obtain ⟨o,v,rfl,ho⟩:=h
   have d0:decide (((5:Nat):Int)≤4)=false:=by decide
   exact ⟨_,by simp only [F_fixed_Best_l0,d0,cond_false]<;>rfl,o,rfl,ho⟩) 5 0 (l,((0:Int),((-1:Int),((0:Int),())))) (by omega) ⟨0,-1,rfl,by omega⟩
 subst h2
 refine ⟨o,?_,h3⟩
 unfold F_fixed_Best
 simp only [h1,Option.bind_some]
end Go.Ab
namespace Go.Ab
def restG (g:List Int→Int):List Int→List Int→List Int
 | [],_=>[]
 |x::r,done=>W (x-g done)::restG g r (done++[x])
theorem restG_length (g:List Int→Int):∀ r done,(restG g r done).length=r.length
 | [],_=>rfl
 |x::r,done=>by simp [restG,restG_length g r]
theorem W_back {x g:Int} (h:wideB x=true):W (W (x-g)+g)=x:=by
 have:=W_of_wide h
 simp only [W,wrap_bmod,Int.bmod_add_bmod] at *
 rw [show x-g+g=x from by omega]
 exact this
theorem back_restG (g:List Int→Int):∀ (r done:List Int),r.all wideB=true→backO g (restG g r done) done=some (done++r)
 | [],done,_=>by simp [restG,backO]
 |x::r,done,h=>by
  rw [List.all_cons,Bool.and_eq_true] at h
  simp only [restG,backO,W_back h.1,h.1,cond_true,back_restG g r (done++[x]) h.2,List.append_assoc,List.singleton_append]
def restO (g:List Int→Int) (r done:List Int):Option (List Int):=bif (restG g r done).all wideB then some (restG g r done) else none
def stepR {β:Type} (g:List Int→Int) (bad:β) (a:List Int×List Int) (x:Int):(List Int×List Int) ⊕ β:=
 bif wideB (W (x-g a.1)) then .inl (a.1++[x],a.2++[W (x-g a.1)]) else .inr bad
theorem endE_stepR {β:Type} (g:List Int→Int) (bad:β) (fin:List Int×List Int→β):∀ (r done acc:List Int),
  endE fin (foldE (stepR g bad) r (done,acc))=match restO g r done with|some e=>fin (done++r,acc++e)|none=>bad
 | [],done,acc=>by simp [foldE,endE,restO,restG]
 |x::r,done,acc=>by
  simp only [foldE,stepR]
  cases h:wideB (W (x-g done)) with
  |true=>
   simp only [cond_true]
   rw [endE_stepR g bad fin r]
   simp only [restO,restG,List.all_cons,h,Bool.true_and]
   cases (restG g r (done++[x])).all wideB<;>simp
  |false=>simp [endE,restO,restG,h]
theorem restO_some {g:List Int→Int} {r done e:List Int} (h:restO g r done=some e):e=restG g r done∧e.all wideB=true:=by
 unfold restO at h
 cases hc:(restG g r done).all wideB with
 |true=>simp only [hc,cond_true,sj] at h;subst h;exact ⟨rfl,hc⟩
 |false=>simp [hc] at h
theorem take_snoc {l:List Int} {i:Nat} (h:i<l.length):l.take i++[l[i]]=l.take (i+1):=by rw [List.take_append_getElem h]
theorem all_take {l:List Int} {p:Int→Bool} (h:l.all p=true) (i:Nat):(l.take i).all p=true:=by
 rw [List.all_eq_true] at h ⊢
 exact fun x hx=>h x (List.mem_of_mem_take hx)
theorem all_drop {l:List Int} {p:Int→Bool} (h:l.all p=true) (i:Nat):(l.drop i).all p=true:=by
 rw [List.all_eq_true] at h ⊢
 exact fun x hx=>h x (List.mem_of_mem_drop hx)
theorem iter_rest {σ β:Type} {f:σ→Option (σ ⊕ β)} (l:List Int) (k:Nat) (hk:k≤l.length) (S:Nat→List Int→σ) (g:List Int×List Int→Int→(List Int×List Int) ⊕ β) (fin:List Int→β)
  (hstep:∀ i (h:i<l.length) acc,k≤i→acc.length=i-k→(∀ a',g (l.take i,acc) l[i]=.inl a'→f (S i acc)=some (.inl (S (i+1) a'.2))∧a'.1=l.take (i+1)∧a'.2.length=i+1-k)∧(∀ b,g (l.take i,acc) l[i]=.inr b→f (S i acc)=some (.inr b)))
  (hexit:∀ acc,acc.length=l.length-k→f (S l.length acc)=some (.inr (fin acc))):iter f (S k [])=some (endE (fun a=>fin a.2) (foldE g (l.drop k) (l.take k,[]))):=by
 have h:=iter_list (f:=f) (l.drop k) (fun i a=>S (k+i) a.2) g (fun i a=>a.1=l.take (k+i)∧a.2.length=i) (fun a=>fin a.2)
  (fun i hi a ha=>by
   obtain ⟨a1,acc⟩:=a
   obtain ⟨h1,h2⟩:=ha
   simp only at h1 h2
   subst h1
   rw [List.length_drop] at hi
   have hlt:k+i<l.length:=by omega
   have e:(l.drop k)[i]'(by rw [List.length_drop];exact hi)=l[k+i]:=by rw [List.getElem_drop]
   rw [e]
   obtain ⟨g1,g2⟩:=hstep (k+i) hlt acc (by omega) (by omega)
   refine ⟨fun a' ha'=>?_,g2⟩
   obtain ⟨q1,q2,q3⟩:=g1 a' ha'
   exact ⟨q1,q2,by omega⟩)
  (fun a ha=>by
   rw [List.length_drop] at ha ⊢
   rw [show k+(l.length-k)=l.length from by omega]
   exact hexit a.2 ha.2) (a:=(l.take k,[])) ⟨by simp,rfl⟩
 exact h
def linRO (l c:List Int) (s:Int):Option (List Int):=bif l.all wideB then restO (linG c s) (l.drop c.length) (l.take c.length) else none
theorem linear_Rest_eq {l c:List Int} {s:Int} (hl:linB c s=true) (hc:c.length≤l.length) (hr:l.length<100000):
  F_linear_Rest (l,(c,s))=some (resB (linRO l c s)):=by
 have hs:short l:=by unfold short;omega
 have hcs:short c:=by unfold short;omega
 have h0:0≤s:=by simp only [linB,Bool.and_eq_true,decide_eq_true_eq] at hl;omega
 have e1:decide (((l.length:Nat):Int)<((c.length:Nat):Int))=false:=by simp;omega
 unfold F_linear_Rest linRO
 simp only [linear_May_eq hcs,hl,Option.bind_some,Bool.not_true,cond_false,e1,linear_allWide_eq hs]
 cases hw:l.all wideB with
 |false=>rfl
 |true=>
  have e2:IntKind.wrap .i64 (((l.length:Nat):Int)-((c.length:Nat):Int))=((l.length-c.length:Nat):Int):=by rw [wrap64 (by omega)];omega
  have e3:decide ((0:Int)≤((l.length-c.length:Nat):Int))=true:=by simp
  have e4:lim (l.length-c.length)=true:=lim_short (by omega)
  simp only [Bool.not_true,cond_false,cond_true,e2,e3,Int.toNat_natCast,e4,Bool.and_self]
  have:=iter_rest (f:=F_linear_Rest_l0) l c.length hc (fun i acc=>(l,(c,(s,((i:Int),(acc,())))))) (stepR (linG c s) (.inr ((6:Int),(([]:List Int),())))) (fun acc=>.inl (acc,()))
   (fun i hi acc hki hacc=>by
    have ht:short (l.take i):=by unfold short;rw [List.length_take];omega
    have h1:decide ((0:Int)≤(i:Int))=true:=by simp
    have h2:decide ((i:Int)≤((l.length:Nat):Int))=true:=by simp;omega
    have h3:lim (acc.length+1)=true:=lim_short (by omega)
    constructor
    ·intro a' ha'
     unfold stepR at ha'
     cases hq:wideB (W (l[i]-linG c s (l.take i))) with
     |false=>simp [hq] at ha'
     |true=>
      simp only [hq,cond_true,Sum.inl.injEq] at ha'
      subst ha'
      refine ⟨?_,take_snoc hi,by simp;omega⟩
      simp only [F_linear_Rest_l0,dlt hi,cond_true,gidx_get hi,Option.bind_some,h1,h2,Bool.and_self,Int.toNat_natCast,predict_eq ht hcs h0,linear_wide_eq,hq,Bool.not_true,cond_false,h3,wrap_succ (Nat.lt_trans hi hs),List.append_eq]
    ·intro b hb
     unfold stepR at hb
     cases hq:wideB (W (l[i]-linG c s (l.take i))) with
     |true=>simp [hq] at hb
     |false=>
      simp only [hq,cond_false,Sum.inr.injEq] at hb
      subst hb
      simp only [F_linear_Rest_l0,dlt hi,cond_true,gidx_get hi,Option.bind_some,h1,h2,Bool.and_self,Int.toNat_natCast,predict_eq ht hcs h0,linear_wide_eq,hq,Bool.not_false])
   (fun acc hacc=>by simp [F_linear_Rest_l0])
  rw [this,endE_stepR]
  cases restO (linG c s) (l.drop c.length) (l.take c.length)<;>rfl
theorem lin_back {l c r:List Int} {s:Int} (h:linRO l c s=some r):linO (l.take c.length) r c s=some l∧r.all wideB=true∧r.length=l.length-c.length:=by
 unfold linRO at h
 cases hw:l.all wideB with
 |false=>simp [hw] at h
 |true=>
  simp only [hw,cond_true] at h
  obtain ⟨e,hr⟩:=restO_some h
  refine ⟨?_,hr,by rw [e,restG_length,List.length_drop]⟩
  simp only [linO,all_take hw,hr,Bool.and_self,cond_true]
  rw [e,back_restG _ _ _ (all_drop hw _),List.take_append_drop]
def longRO (l:List Int) (lag:Int) (t:List Int):Option (List Int):=bif l.all wideB then restO (longG lag t) l [] else none
theorem long_Rest_eq {l t:List Int} {lag:Int} (hl:longB lag t=true) (ht:t.length=3) (hr:l.length<100000):
  F_long_Rest (l,(lag,t))=some (resB (longRO l lag t)):=by
 have hs:short l:=by unfold short;omega
 obtain ⟨h1,h2⟩:2≤lag∧lag≤1024:=by simp only [longB,Bool.and_eq_true,decide_eq_true_eq] at hl;omega
 unfold F_long_Rest longRO
 simp only [long_May_eq ht,hl,Option.bind_some,Bool.not_true,cond_false,long_allWide_eq hs]
 cases hw:l.all wideB with
 |false=>rfl
 |true=>
  have e3:decide ((0:Int)≤((l.length:Nat):Int))=true:=by simp
  have e4:lim l.length=true:=lim_short (by omega)
  simp only [Bool.not_true,cond_false,cond_true,e3,Int.toNat_natCast,e4,Bool.and_self]
  have:=iter_rest (f:=F_long_Rest_l0) l 0 (Nat.zero_le _) (fun i acc=>(l,(lag,(l,((l.length:Int),((i:Int),(acc,(t,())))))))) (stepR (longG lag t) (.inr ((6:Int),(([]:List Int),())))) (fun acc=>.inl (acc,()))
   (fun i hi acc hki hacc=>by
    have h3:lim (acc.length+1)=true:=lim_short (by omega)
    have hp:=long_predict_at (lag:=lag) (t:=t) (Nat.le_of_lt hi) hs ht h1 h2
    constructor
    ·intro a' ha'
     unfold stepR at ha'
     cases hq:wideB (W (l[i]-longG lag t (l.take i))) with
     |false=>simp [hq] at ha'
     |true=>
      simp only [hq,cond_true,Sum.inl.injEq] at ha'
      subst ha'
      refine ⟨?_,take_snoc hi,by simp;omega⟩
      simp only [F_long_Rest_l0,dlt hi,cond_true,gidx_get hi,Option.bind_some,hp,long_wide_eq,hq,Bool.not_true,cond_false,h3,wrap_succ (Nat.lt_trans hi hs),List.append_eq]
    ·intro b hb
     unfold stepR at hb
     cases hq:wideB (W (l[i]-longG lag t (l.take i))) with
     |true=>simp [hq] at hb
     |false=>
      simp only [hq,cond_false,Sum.inr.injEq] at hb
      subst hb
      simp only [F_long_Rest_l0,dlt hi,cond_true,gidx_get hi,Option.bind_some,hp,long_wide_eq,hq,Bool.not_false])
   (fun acc hacc=>by simp [F_long_Rest_l0])
  simp only [Int.natCast_zero] at this
  rw [this,endE_stepR,List.drop_zero,List.take_zero]
  cases restO (longG lag t) l []<;>rfl
theorem long_back {l t r:List Int} {lag:Int} (h:longRO l lag t=some r):longO r lag t=some l∧r.all wideB=true∧r.length=l.length:=by
 unfold longRO at h
 cases hw:l.all wideB with
 |false=>simp [hw] at h
 |true=>
  simp only [hw,cond_true] at h
  obtain ⟨e,hr⟩:=restO_some h
  refine ⟨?_,hr,by rw [e,restG_length]⟩
  simp only [longO,hr,cond_true]
  rw [e,back_restG _ _ _ hw,List.nil_append]
end Go.Ab
namespace Go.Ab
def rsG:List Int→Fil→List Int
 | [],_=>[]
 |x::r,f=>W (x-guessF f)::rsG r (tellF f x)
theorem rsG_length:∀ r f,(rsG r f).length=r.length
 | [],_=>rfl
 |x::r,f=>by simp [rsG,rsG_length r]
def rsO:List Int→List Int→Fil→Option (List Int)
 | [],done,_=>some done
 |x::r,done,f=>bif wideB (W (x-guessF f)) then rsO r (done++[W (x-guessF f)]) (tellF f x) else none
theorem rsO_eq:∀ (r done:List Int) (f:Fil),rsO r done f=bif (rsG r f).all wideB then some (done++rsG r f) else none
 | [],done,f=>by simp [rsO,rsG]
 |x::r,done,f=>by
  simp only [rsO,rsG,List.all_cons]
  cases wideB (W (x-guessF f)) with
  |false=>rfl
  |true=>simp only [cond_true,Bool.true_and,rsO_eq r,List.append_assoc,List.singleton_append]
theorem rs_back:∀ (r z:List Int) (f:Fil),r.all wideB=true→stO (rsG r f) z f=some (z++r)
 | [],z,f,_=>by simp [rsG,stO]
 |x::r,z,f,h=>by
  rw [List.all_cons,Bool.and_eq_true] at h
  have e:W (guessF f+W (x-guessF f))=x:=by rw [Int.add_comm];exact W_back h.1
  simp only [rsG,stO,e,h.1,cond_true,rs_back r _ _ h.2,List.append_assoc,List.singleton_append]
theorem learn_rest_from {row:List Int} {a:List Stg} {b c:Int} (hs:short row):∀ (k i:Nat) (done:List Int) (f:Fil),i+k=row.length→done.length=i→FilOk f→
  iter F_learn_Rest_l0 (a,(b,(c,((row.length:Int),((i:Int),(done++row.drop i,(f,())))))))=some (match rsO (row.drop i) done f with
   |some r=>.inl (a,(b,(c,(r,()))))
   |none=>.inr ((6:Int),(([]:List Int),())))
 |0,i,done,f,h,hd,hf=>by
  obtain rfl:i=row.length:=by omega
  rw [List.drop_length,List.append_nil]
  exact iter_done (b:=Sum.inl (a,(b,(c,(done,()))))) (by simp [F_learn_Rest_l0])
 |k+1,i,done,f,h,hd,hf=>by
  have hi:i<row.length:=by omega
  have hs':row.length<1000000:=hs
  have h0:decide ((0:Int)≤(i:Int))=true:=by simp
  have hl:(done++row.drop i).length=row.length:=by simp;omega
  have h1:decide ((i:Int)<(((done++row.drop i).length:Nat):Int))=true:=by rw [hl];simp;omega
  have hst:rsO (row.drop i) done f=bif wideB (W (row[i]-guessF f)) then rsO (row.drop (i+1)) (done++[W (row[i]-guessF f)]) (tellF f row[i]) else none:=by
   rw [List.drop_eq_getElem_cons hi];rfl
  rw [hst]
  cases hw:wideB (W (row[i]-guessF f)) with
  |true=>
   rw [iter_step (s':=(a,(b,(c,((row.length:Int),(((i+1:Nat):Int),((done++[W (row[i]-guessF f)])++row.drop (i+1),(tellF f row[i],())))))))) (by
    simp only [F_learn_Rest_l0,dlt hi,h0,h1,cond_true,Bool.and_self,learn_Guess_eq hf,Option.bind_some,Int.toNat_natCast,getD_done hd hi,learn_wide_eq,hw,Bool.not_true,cond_false,learn_Tell_eq hf,set_done hd hi,wrap_succ (show i<1000000 by omega)])]
   exact learn_rest_from hs k (i+1) _ _ (by omega) (by simp;omega) (tellF_ok hf _)
  |false=>
   exact iter_done (by
    simp only [F_learn_Rest_l0,dlt hi,h0,h1,cond_true,Bool.and_self,learn_Guess_eq hf,Option.bind_some,Int.toNat_natCast,getD_done hd hi,learn_wide_eq,hw,Bool.not_false]
    rfl)
def lRO:List Stg→List Int→Option (List Int)
 | [],row=>some row
 |s::r,row=>match rsO row [] (newF s) with
  |some row'=>lRO r row'
  |none=>none
theorem rsO_some {row d:List Int} {f:Fil} (h:rsO row [] f=some d):d=rsG row f∧d.all wideB=true:=by
 rw [rsO_eq] at h
 cases hc:(rsG row f).all wideB with
 |true=>simp only [hc,cond_true,List.nil_append,sj] at h;subst h;exact ⟨rfl,hc⟩
 |false=>simp [hc] at h
theorem lO_append:∀ (a b:List Stg) (row:List Int),lO (a++b) row=match lO a row with|some r=>lO b r|none=>none
 | [],b,row=>rfl
 |s::a,b,row=>by
  simp only [List.cons_append,lO]
  split
  ·exact lO_append a b _
  ·rfl
theorem lRO_back:∀ (st:List Stg) (row d:List Int),row.all wideB=true→lRO st row=some d→lO st.reverse d=some row∧d.all wideB=true∧d.length=row.length
 | [],row,d,hw,h=>by
  simp only [lRO,sj] at h
  subst h
  exact ⟨rfl,hw,rfl⟩
 |s::st,row,d,hw,h=>by
  simp only [lRO] at h
  split at h
  ·rename_i row' hr
   obtain ⟨e,hw'⟩:=rsO_some hr
   obtain ⟨h1,h2,h3⟩:=lRO_back st row' d hw' h
   refine ⟨?_,h2,by rw [h3,e,rsG_length]⟩
   rw [List.reverse_cons,lO_append,h1]
   simp only [lO]
   rw [e,rs_back row [] _ hw,List.nil_append]
  ·cases h
theorem learn_rest_stages {st:List Stg} (hst:∀ s∈st,stageB s=true) (hl:st.length≤3):∀ (j k:Nat) (row:List Int),k+j=st.length→short row→
  iter F_learn_Rest_l1 (st,((st.length:Int),((k:Int),(row,()))))=some (match lRO (st.drop k) row with
   |some r=>.inl (r,())
   |none=>.inr ((6:Int),(([]:List Int),())))
 |0,k,row,h,hs=>by
  obtain rfl:k=st.length:=by omega
  rw [List.drop_length]
  exact iter_done (by simp [F_learn_Rest_l1,lRO])
 |j+1,k,row,h,hs=>by
  have hk:k<st.length:=by omega
  have hstage:=hst _ (List.getElem_mem hk)
  have h1:=learn_rest_from (a:=st) (b:=(st.length:Int)) (c:=(k:Int)) hs row.length 0 [] (newF st[k]) (by omega) rfl (newF_ok hstage)
  simp only [Int.natCast_zero,List.drop_zero,List.nil_append] at h1
  have hne:((0:Int) != 0)=false:=rfl
  rw [List.drop_eq_getElem_cons hk]
  simp only [lRO]
  cases hr:rsO row [] (newF st[k]) with
  |some r=>
   rw [hr] at h1
   rw [iter_step (s':=(st,((st.length:Int),(((k+1:Nat):Int),(r,()))))) (by simp only [F_learn_Rest_l1,dlt hk,cond_true,gidx_get hk,Option.bind_some,learn_New_eq hstage,hne,cond_false,h1,wrap_succ (show k<1000000 by omega)])]
   exact learn_rest_stages hst hl j (k+1) r (by omega) (by have:=(rsO_some hr).1;unfold short at hs ⊢;rw [this,rsG_length];exact hs)
  |none=>
   rw [hr] at h1
   exact iter_done (by simp only [F_learn_Rest_l1,dlt hk,cond_true,gidx_get hk,Option.bind_some,learn_New_eq hstage,hne,cond_false,h1])
def learnRO (l:List Int) (st:List Stg):Option (List Int):=bif l.all wideB then lRO st l else none
theorem learn_Rest_eq {l:List Int} {st:List Stg} (hl:learnB st=true) (hr:l.length<100000):F_learn_Rest (l,st)=some (resB (learnRO l st)):=by
 have hl':=hl
 simp only [learnB,Bool.and_eq_true,decide_eq_true_eq] at hl'
 have hss:short st:=by unfold short;omega
 have hsr:short l:=by unfold short;omega
 unfold F_learn_Rest learnRO
 simp only [learn_May_eq hss,hl,Option.bind_some,Bool.not_true,cond_false,learn_allWide_eq hsr]
 cases hw:l.all wideB with
 |false=>rfl
 |true=>
  have:=learn_rest_stages (List.all_eq_true.1 hl'.2) hl'.1 st.length 0 l (by omega) hsr
  simp only [Int.natCast_zero,List.drop_zero] at this
  simp only [Bool.not_true,cond_false,cond_true,clone_eq hsr,Option.bind_some,this]
  cases lRO st l<;>rfl
theorem learn_back {l r:List Int} {st:List Stg} (h:learnRO l st=some r):learnO r st=some l∧r.all wideB=true∧r.length=l.length:=by
 unfold learnRO at h
 cases hw:l.all wideB with
 |false=>simp [hw] at h
 |true=>
  simp only [hw,cond_true] at h
  obtain ⟨h1,h2,h3⟩:=lRO_back st l r hw h
  exact ⟨by simp only [learnO,h2,cond_true,h1],h2,h3⟩
end Go.Ab
namespace Go.Ab
theorem p64 {w:Nat} (h:w≤64):((2^w:Nat):Int) ∣ 18446744073709551616:=Int.natCast_dvd_natCast.2 (Nat.pow_dvd_pow 2 h)
theorem wrap_q (n:Int):∃ q,IntKind.wrap .i64 n=n+18446744073709551616*q:=by
 rw [wrap_bmod,Int.bmod]
 split
 ·exact ⟨-(n / 18446744073709551616),by omega⟩
 ·exact ⟨-(n / 18446744073709551616)-1,by omega⟩
theorem dvd_wrap {w:Nat} (h:w≤64) (n:Int):((2^w:Nat):Int) ∣ IntKind.wrap .i64 n↔((2^w:Nat):Int) ∣ n:=by
 obtain ⟨q,hq⟩:=wrap_q n
 rw [hq]
 exact Int.dvd_add_left (Int.dvd_mul_of_dvd_left (p64 h))
theorem dvd_of_bv {w:Nat} (h:w≤64) (a:Int):2^w ∣ (BitVec.ofInt 64 a).toNat↔((2^w:Nat):Int) ∣ a:=by
 have e:(((BitVec.ofInt 64 a).toNat:Nat):Int)=a+18446744073709551616*-(a / 18446744073709551616):=by
  rw [BitVec.toNat_ofInt]
  have:((2^64:Nat):Int)=18446744073709551616:=rfl
  rw [this]
  omega
 rw [←Int.natCast_dvd_natCast,e]
 exact Int.dvd_add_left (Int.dvd_mul_of_dvd_left (p64 h))
theorem nat_or_dvd (w x y:Nat):2^w ∣ (x ||| y)↔2^w ∣ x∧2^w ∣ y:=by
 rw [Nat.dvd_iff_mod_eq_zero,Nat.dvd_iff_mod_eq_zero,Nat.dvd_iff_mod_eq_zero,Nat.or_mod_two_pow]
 exact Nat.or_eq_zero_iff
theorem dvd_or {w:Nat} (h:w≤64) (a b:Int):((2^w:Nat):Int) ∣ bits .i64 .or a b↔((2^w:Nat):Int) ∣ a∧((2^w:Nat):Int) ∣ b:=by
 show ((2^w:Nat):Int) ∣ IntKind.wrap .i64 ((((BitVec.ofInt 64 a) ||| (BitVec.ofInt 64 b)).toNat:Nat):Int)↔_
 rw [dvd_wrap h,Int.natCast_dvd_natCast,BitVec.toNat_or,nat_or_dvd,dvd_of_bv h,dvd_of_bv h]
def orI (l:List Int) (a:Int):Int:=l.foldl (fun a x=>bits .i64 .or a x) a
theorem dvd_orI {w:Nat} (h:w≤64):∀ (l:List Int) (a:Int),((2^w:Nat):Int) ∣ orI l a↔((2^w:Nat):Int) ∣ a∧∀ x∈l,((2^w:Nat):Int) ∣ x
 | [],a=>by simp [orI]
 |x::l,a=>by
  show ((2^w:Nat):Int) ∣ orI l (bits .i64 .or a x)↔_
  rw [dvd_orI h l,dvd_or h]
  simp only [List.mem_cons,forall_eq_or_imp,and_assoc]
theorem orI_zero:∀ (l:List Int),(∀ x∈l,x=0)→orI l 0=0
 | [],_=>rfl
 |x::l,h=>by
  have hx:=h x (List.mem_cons_self)
  subst hx
  show orI l (bits .i64 .or 0 0)=0
  rw [show bits .i64 .or 0 0=0 from by decide]
  exact orI_zero l fun y hy=>h y (List.mem_cons_of_mem _ hy)
theorem orI_ne {l:List Int} (hw:l.all wideB=true) (h:∃ x∈l,x≠0):orI l 0≠0:=by
 intro e
 obtain ⟨x,hx,hne⟩:=h
 have hd:=((dvd_orI (w:=62) (by omega) l 0).1 (by rw [e];exact Int.dvd_zero _)).2 x hx
 have hwx:=wideB_iff.1 (List.all_eq_true.1 hw x hx)
 have e62:((2^62:Nat):Int)=4611686018427387904:=rfl
 rw [e62] at hd
 omega
def WasteIs (l:List Int) (w:Nat):Prop:=
 ((∀ x∈l,x=0)∧w=0)∨((∃ x∈l,x≠0)∧w≤30∧(∀ x∈l,((2^w:Nat):Int) ∣ x)∧(w=30∨∃ x∈l,¬ ((2^(w+1):Nat):Int) ∣ x))
theorem pow_dvd_le {v w:Nat} (h:v≤w) {x:Int} (hx:((2^w:Nat):Int) ∣ x):((2^v:Nat):Int) ∣ x:=
 Int.dvd_trans (Int.natCast_dvd_natCast.2 (Nat.pow_dvd_pow 2 h)) hx
theorem WasteIs.unique {l:List Int} {v w:Nat} (hv:WasteIs l v) (hw:WasteIs l w):v=w:=by
 have key:∀ {v w:Nat},v≤30→w≤30→(∀ x∈l,((2^w:Nat):Int) ∣ x)→(v=30∨∃ x∈l,¬ ((2^(v+1):Nat):Int) ∣ x)→w≤v:=by
  intro v w h30 h30' h1 h2
  rcases h2 with h2|⟨x,hx,h2⟩
  ·omega
  ·exact Nat.le_of_not_lt fun hlt=>h2 (pow_dvd_le (show v+1≤w by omega) (h1 x hx))
 rcases hv with ⟨h0,hv⟩|⟨⟨x,hx,hne⟩,hv1,hv2,hv3⟩
 ·rcases hw with ⟨-,hw⟩|⟨⟨x,hx,hne⟩,-⟩
  ·omega
  ·exact absurd (h0 x hx) hne
 ·rcases hw with ⟨h0,-⟩|⟨-,hw1,hw2,hw3⟩
  ·exact absurd (h0 x hx) hne
  ·exact Nat.le_antisymm (key hw1 hv1 hv2 hw3) (key hv1 hw1 hw2 hv3)
theorem odd_part:∀ (n N:Nat),N≤n→0<N→∃ k m,N=2^k*(2*m+1)
 |0,N,h,h0=>absurd h0 (by omega)
 |n+1,N,h,h0=>by
  by_cases he:N%2=0
  ·obtain ⟨k,m,e⟩:=odd_part n (N / 2) (by omega) (by omega)
   refine ⟨k+1,m,?_⟩
   rw [Nat.pow_succ,Nat.mul_comm (2^k) 2,Nat.mul_assoc,←e]
   omega
  ·exact ⟨0,N / 2,by omega⟩
theorem low_bit {k m:Nat} (h:2^k*(2*m+1)<2^64):(2^k*(2*m+1)) &&& (2^64-2^k*(2*m+1))=2^k:=by
 have hp:1≤2^k:=Nat.one_le_two_pow
 have hk:k<64:=by
  refine Nat.lt_of_not_le fun hge=>?_
  have h1:2^64≤2^k:=Nat.pow_le_pow_right (by decide) hge
  have h2:2^k*1≤2^k*(2*m+1):=Nat.mul_le_mul_left _ (by omega)
  omega
 have e:2^k*(2*m+1)=(2^k*(2*m)+(2^k-1))+1:=by rw [Nat.mul_add];omega
 have hx:2^k*(2*m)+(2^k-1)<2^64:=by omega
 refine Nat.eq_of_testBit_eq fun i=>?_
 have e2:(2^64-2^k*(2*m+1)).testBit i=(decide (i<64)&&!(2^k*(2*m)+(2^k-1)).testBit i):=by
  rw [e];exact Nat.testBit_two_pow_sub_succ hx i
 have e1:=Nat.testBit_two_pow_mul_add (2*m+1) (b:=0) (i:=k) (by omega) i
 rw [Nat.add_zero] at e1
 have e3:=Nat.testBit_two_pow_mul_add (2*m) (b:=2^k-1) (i:=k) (by omega) i
 rw [Nat.testBit_and,e2,e1,e3,Nat.testBit_two_pow]
 by_cases h1:i<k
 ·have:¬ k=i:=by omega
  simp [h1,this]
 ·by_cases h2:k=i
  ·subst h2
   simp [hk,Nat.testBit_zero]
  ·obtain ⟨j,rfl⟩:∃ j,i=k+(j+1):=⟨i-k-1,by omega⟩
   have s1:k+(j+1)-k=j+1:=by omega
   have s2:(2*m+1) / 2=m:=by omega
   have s3:2*m / 2=m:=by omega
   simp only [h1,h2,if_false,s1,Nat.testBit_succ,s2,s3,decide_false]
   cases m.testBit j<;>simp
theorem glob0_at:∀ k:Nat,k<64→glob0[(2^k*285870213051353865)%18446744073709551616 / 288230376151711744]?=some (k:Int):=by
 have h:∀ k:Fin 64,glob0[(2^k.val*285870213051353865)%18446744073709551616 / 288230376151711744]?=some (k.val:Int):=by decide
 exact fun k hk=>h ⟨k,hk⟩
theorem not_dvd_odd {k m:Nat}:¬ 2^(k+1) ∣ 2^k*(2*m+1):=by
 rintro ⟨c,hc⟩
 rw [Nat.pow_succ,Nat.mul_assoc] at hc
 have:=Nat.eq_of_mul_eq_mul_left (Nat.two_pow_pos k) hc
 omega
theorem trail_eq {N:Nat} (h0:0<N) (h:N<18446744073709551616):∃ k:Nat,F_math_bits_TrailingZeros64 (N:Int)=some (k:Int)∧2^k ∣ N∧¬ 2^(k+1) ∣ N:=by
 obtain ⟨k,m,e⟩:=odd_part N N (Nat.le_refl _) h0
 have h2:2^k≤N:=by rw [e];exact Nat.le_mul_of_pos_right _ (by omega)
 have hk:k<64:=by
  refine Nat.lt_of_not_le fun hge=>?_
  have h1:2^64≤2^k:=Nat.pow_le_pow_right (by decide) hge
  omega
 refine ⟨k,?_,⟨_,e⟩,e▸not_dvd_odd⟩
 have hb:bits .u64 .and (N:Int) (IntKind.wrap .u64 (0-(N:Int)))=((2^k:Nat):Int):=by
  have e1:IntKind.wrap .u64 (0-(N:Int))=((18446744073709551616-N:Nat):Int):=by
   have:IntKind.wrap .u64 (0-(N:Int))=(0-(N:Int))%18446744073709551616:=by simp [IntKind.wrap,IntKind.bits,IntKind.signed]
   rw [this];omega
  rw [e1]
  show IntKind.wrap .u64 (((BitVec.ofInt 64 (N:Int)) &&& (BitVec.ofInt 64 ((18446744073709551616-N:Nat):Int))).toNat:Int)=_
  rw [BitVec.ofInt_natCast,BitVec.ofInt_natCast,BitVec.toNat_and,BitVec.toNat_ofNat,BitVec.toNat_ofNat,Nat.mod_eq_of_lt h,Nat.mod_eq_of_lt (by omega)]
  have:=low_bit (k:=k) (m:=m) (by rw [←e];exact h)
  rw [←e] at this
  rw [show (18446744073709551616:Nat)=2^64 from rfl,this]
  exact wrapu64 (by omega)
 have hx:((N:Int)==0)=false:=by simp only [beq_eq_false_iff_ne,ne_eq];omega
 unfold F_math_bits_TrailingZeros64
 rw [hb,hx,cond_false]
 have e2:IntKind.wrap .u64 (((2^k:Nat):Int)*285870213051353865)=(((2^k*285870213051353865)%18446744073709551616:Nat):Int):=by
  have:IntKind.wrap .u64 (((2^k:Nat):Int)*285870213051353865)=(((2^k:Nat):Int)*285870213051353865)%18446744073709551616:=by simp [IntKind.wrap,IntKind.bits,IntKind.signed]
  rw [this];omega
 have hg:=glob0_at k hk
 generalize (2^k*285870213051353865)%18446744073709551616=M at e2 hg
 have e3:=gshru_nat (N:=M) (o:=58) (by omega)
 rw [e2,show (58:Int)=((58:Nat):Int) from rfl,e3,show 2^58=288230376151711744 from rfl]
 generalize M / 288230376151711744=J at hg
 obtain ⟨hi,hv⟩:=List.getElem?_eq_some_iff.1 hg
 rw [gidx_get hi,hv]
 simp only [Option.bind_some,wrap64 (show -9223372036854775808≤(k:Int)∧(k:Int)≤9223372036854775807 by omega)]
theorem gshr_mul {n:Nat} (hn:n≤62) (c:Int):gshr .i64 (((2^n:Nat):Int)*c) (n:Int)=c:=by
 have hp:0<2^n:=Nat.two_pow_pos n
 have e:min (Int.toNat (n:Int)) (IntKind.bits .i64)=n:=by simp only [Int.toNat_natCast,IntKind.bits];omega
 have ep:((2^n:Nat):Int)=2^n:=by simp
 unfold gshr
 rw [e,ep]
 exact Int.mul_fdiv_cancel_left _ (by omega)
theorem or_loop {l:List Int} (hs:short l):∀ (k i:Nat) (a:Int),i+k=l.length→iter F_sample_Wasted_l0 (a,(l,((l.length:Int),((i:Int),()))))=some (orI (l.drop i) a,())
 |0,i,a,h=>by
  obtain rfl:i=l.length:=by omega
  rw [List.drop_length]
  exact iter_done (by simp [F_sample_Wasted_l0,orI])
 |k+1,i,a,h=>by
  have hi:i<l.length:=by omega
  have hs':l.length<1000000:=hs
  rw [List.drop_eq_getElem_cons hi,iter_step (s':=(bits .i64 .or a l[i],(l,((l.length:Int),(((i+1:Nat):Int),()))))) (by
   simp only [F_sample_Wasted_l0,dlt hi,cond_true,gidx_get hi,Option.bind_some,wrap_succ (show i<1000000 by omega)])]
  exact or_loop hs k (i+1) _ (by omega)
theorem some_of_orI {l:List Int} {r:Nat} (hr:r≤30) (h:r=30∨¬ ((2^(r+1):Nat):Int) ∣ orI l 0):r=30∨∃ x∈l,¬ ((2^(r+1):Nat):Int) ∣ x:=by
 rcases h with h|h
 ·exact .inl h
 ·refine .inr (Classical.byContradiction fun hc=>h ((dvd_orI (by omega) l 0).2 ⟨Int.dvd_zero _,fun x hx=>Classical.byContradiction fun hn=>hc ⟨x,hx,hn⟩⟩))
theorem sample_Wasted_eq {l:List Int} (hs:short l) (hw:l.all wideB=true):∃ w:Nat,F_sample_Wasted l=some (w:Int)∧w≤30∧WasteIs l w:=by
 have h1:=or_loop hs l.length 0 0 (by omega)
 simp only [Int.natCast_zero,List.drop_zero] at h1
 unfold F_sample_Wasted
 simp only [h1,Option.bind_some]
 by_cases hz:∀ x∈l,x=0
 ·have e:=orI_zero l hz
  exact ⟨0,by rw [e];rfl,by omega,.inl ⟨hz,rfl⟩⟩
 ·have hx:∃ x∈l,x≠0:=Classical.byContradiction fun hc=>hz fun x hx=>Classical.byContradiction fun hn=>hc ⟨x,hx,hn⟩
  have hne:=orI_ne hw hx
  have he:(orI l 0==0)=false:=by simpa using hne
  obtain ⟨q,hq⟩:∃ q,IntKind.wrap .u64 (orI l 0)=orI l 0+18446744073709551616*q:=⟨-(orI l 0 / 18446744073709551616),by
   have:IntKind.wrap .u64 (orI l 0)=orI l 0%18446744073709551616:=by simp [IntKind.wrap,IntKind.bits,IntKind.signed]
   rw [this];omega⟩
  obtain ⟨r1,r2⟩:=wrapu_range (orI l 0)
  obtain ⟨N,hN⟩:=Int.eq_ofNat_of_zero_le r1
  have hdN:∀ v,v≤64→(2^v ∣ N↔((2^v:Nat):Int) ∣ orI l 0):=fun v hv=>by
   rw [←Int.natCast_dvd_natCast,←hN,hq]
   exact Int.dvd_add_left (Int.dvd_mul_of_dvd_left (p64 hv))
  have hN0:0<N:=by
   refine Nat.pos_of_ne_zero fun e0=>?_
   obtain ⟨x,hxl,hx0⟩:=hx
   have hd:=((dvd_orI (w:=62) (by omega) l 0).1 ((hdN 62 (by omega)).1 (by rw [e0];exact Nat.dvd_zero _))).2 x hxl
   have hwx:=wideB_iff.1 (List.all_eq_true.1 hw x hxl)
   rw [show ((2^62:Nat):Int)=4611686018427387904 from rfl] at hd
   omega
  obtain ⟨k,hk,hk1,hk2⟩:=trail_eq hN0 (by omega)
  have hk64:k≤63:=by
   refine Nat.le_of_not_lt fun hgt=>?_
   have h1:2^64≤2^k:=Nat.pow_le_pow_right (by decide) (by omega)
   have:=Nat.le_of_dvd hN0 hk1
   omega
  simp only [he,cond_false,hN,hk,Option.bind_some]
  have em:imin (k:Int) 30=((min k 30:Nat):Int):=by rw [imin_eq];omega
  refine ⟨min k 30,by rw [em],by omega,.inr ⟨hx,by omega,?_,?_⟩⟩
  ·exact ((dvd_orI (by omega) l 0).1 ((hdN _ (by omega)).1 (Nat.dvd_trans (Nat.pow_dvd_pow 2 (by omega)) hk1))).2
  ·refine some_of_orI (by omega) ?_
   by_cases hk30:30≤k
   ·exact .inl (by omega)
   ·have:min k 30=k:=by omega
    rw [this]
    exact .inr fun hh=>hk2 ((hdN _ (by omega)).2 hh)
theorem down_of {l:List Int} {w:Nat} (hw30:w≤30) (hw:l.all wideB=true) (h:WasteIs l w):downO (w:Int) l=some (l.map fun x=>gshr .i64 x (w:Int)):=by
 have hd:∀ x∈l,((2^w:Nat):Int) ∣ x:=by
  rcases h with ⟨h,-⟩|⟨-,-,h,-⟩
  ·exact fun x hx=>by rw [h x hx];exact Int.dvd_zero _
  ·exact h
 have:l.all (downB (w:Int))=true:=by
  rw [List.all_eq_true]
  intro x hx
  obtain ⟨c,hc⟩:=hd x hx
  have hm:Int.tmod x (gshl .i64 1 (w:Int))=0:=by rw [shl1 hw30,hc];exact Int.mul_tmod_right _ _
  simp only [downB,List.all_eq_true.1 hw x hx,hm,Bool.true_and]
  rfl
 simp only [downO,this,cond_true]
end Go.Ab
namespace Go.Ab
def sumC (k:Nat) (l:List Int):Nat:=(l.map (riceC k)).sum
def rbN (l:List Int):Nat→Nat
 |0=>0
 |i+1=>if sumC (i+1) l<sumC (rbN l i) l then i+1 else rbN l i
theorem rbN_le (l:List Int):∀ i,rbN l i≤i
 |0=>Nat.le_refl _
 |i+1=>by
  have:=rbN_le l i
  simp only [rbN]
  split<;>omega
theorem rice_Sum_C {k:Nat} (hk:k≤25) {l:List Int} (hw:l.all wideB=true) (hl:l.length<10000):F_rice_Sum ((k:Int),l)=some ((sumC k l:Nat):Int):=rice_Sum_eq hk hw hl
theorem dnat {a b:Nat} (h:a<b):decide ((a:Int)<(b:Int))=true:=decide_eq_true (by omega)
theorem dnat' {a b:Nat} (h:¬ a<b):decide ((a:Int)<(b:Int))=false:=decide_eq_false (by omega)
theorem rice_Best_eq {l:List Int} (hw:l.all wideB=true) (hl:l.length<10000):F_rice_Best l=some ((rbN l 25:Nat):Int):=by
 have:=iter_count (f:=F_rice_Best_l0) (fun i:Nat=>(l,(((rbN l i:Nat):Int),(((sumC (rbN l i) l:Nat):Int),(((i+1:Nat):Int),()))))) 25 (b:=(((rbN l 25:Nat):Int),()))
  (fun i hi=>by
   have d0:decide (((i+1:Nat):Int)≤25)=true:=decide_eq_true (by omega)
   have w1:IntKind.wrap .i64 (((i+1:Nat):Int)+1)=((i+1+1:Nat):Int):=wrap_succ (by omega)
   have hs:=rice_Sum_C (k:=i+1) (by omega) hw hl
   by_cases hlt:sumC (i+1) l<sumC (rbN l i) l
   ·simp only [F_rice_Best_l0,d0,cond_true,hs,Option.bind_some,w1,dnat hlt,rbN,hlt,if_true]
   ·simp only [F_rice_Best_l0,d0,cond_true,cond_false,hs,Option.bind_some,w1,dnat' hlt,rbN,hlt,if_false])
  (by
   have d0:decide (((25+1:Nat):Int)≤25)=false:=decide_eq_false (by omega)
   simp only [F_rice_Best_l0,d0,cond_false])
 have h0:=rice_Sum_C (k:=0) (by omega) hw hl
 have e1:((0+1:Nat):Int)=1:=rfl
 have e0:rbN l 0=0:=rfl
 simp only [Int.natCast_zero] at h0
 simp only [e0,Int.natCast_zero,e1] at this
 unfold F_rice_Best
 simp only [h0,Option.bind_some,this]
def chooseI (l:List Int):Int:=if 5+widthN l*l.length<sumC (rbN l 25) l then 31 else ((rbN l 25:Nat):Int)
theorem chooseI_kB (l:List Int):kB (chooseI l)=true:=by
 have:=rbN_le l 25
 unfold chooseI
 split
 ·rfl
 ·simp only [kB,Bool.or_eq_true,Bool.and_eq_true,decide_eq_true_eq];omega
theorem parts_choose_eq {l:List Int} (hw:l.all wideB=true) (hl:l.length<10000):F_parts_choose l=some (chooseI l):=by
 have h1:=rbN_le l 25
 have hs:=rice_Sum_C (k:=rbN l 25) h1 hw hl
 unfold F_parts_choose chooseI
 by_cases hlt:5+widthN l*l.length<sumC (rbN l 25) l
 ·simp only [rice_Best_eq hw hl,parts_raw_eq hl,hs,Option.bind_some,dnat hlt,cond_true,hlt,if_true]
 ·simp only [rice_Best_eq hw hl,parts_raw_eq hl,hs,Option.bind_some,dnat' hlt,cond_false,hlt,if_false]
def chooseL:List Nat→List Int→List Int
 | [],_=>[]
 |z::zs,l=>chooseI (l.take z)::chooseL zs (l.drop z)
theorem chooseL_length:∀ zs l,(chooseL zs l).length=zs.length
 | [],_=>rfl
 |z::zs,l=>by simp [chooseL,chooseL_length zs]
theorem chooseL_kB:∀ zs l,(chooseL zs l).all kB=true
 | [],_=>rfl
 |z::zs,l=>by simp [chooseL,chooseL_kB zs,chooseI_kB]
theorem best_inner_eq {zn:List Nat} {n warm most least order:Int} {L:List Int} {a b:Prt} (hz:zn.length≤256):∀ (j i:Nat) (rest ks:List Int),i+j=zn.length→(zn.drop i).sum=rest.length→rest.all wideB=true→rest.length≤5000→ks.length=i→
  iter F_parts_Best_l0 (n,(warm,(most,(L,(least,(order,(rest,(((zn.length:Nat):Int),((i:Int),(castZ zn,(a,(b,((order,(ks,())),())))))))))))))=some (n,(warm,(most,(L,(least,(order,(a,(b,((order,(ks++chooseL (zn.drop i) rest,())),())))))))))
 |0,i,rest,ks,h,_,_,_,_=>by
  obtain rfl:i=zn.length:=by omega
  rw [List.drop_length]
  exact iter_done (by simp only [F_parts_Best_l0,dge,cond_false,chooseL,List.append_nil])
 |j+1,i,rest,ks,h,hr,hwr,hr5,hki=>by
  have hlt:i<zn.length:=by omega
  rw [sum_drop hlt] at hr
  have h0:decide ((0:Int)≤(i:Int))=true:=by simp
  have h1:decide ((i:Int)<(((castZ zn).length:Nat):Int))=true:=by rw [castZ_length];simp;omega
  have h2:decide ((0:Int)≤((zn[i]:Nat):Int))=true:=by simp
  have h3:decide (((zn[i]:Nat):Int)≤((rest.length:Nat):Int))=true:=by simp;omega
  have hk:=parts_choose_eq (all_take hwr zn[i]) (by rw [List.length_take];omega)
  have hlim:lim (ks.length+1)=true:=lim_short (by omega)
  rw [List.drop_eq_getElem_cons hlt,iter_step (s':=(n,(warm,(most,(L,(least,(order,(rest.drop zn[i],(((zn.length:Nat):Int),(((i+1:Nat):Int),(castZ zn,(a,(b,((order,(ks++[chooseI (rest.take zn[i])],())),())))))))))))))) (by
   simp only [F_parts_Best_l0,dlt hlt,h0,h1,castZ_get hlt,h2,h3,cond_true,Bool.and_self,Int.toNat_natCast,hk,Option.bind_some,hlim,List.take_length,wrap_succ (show i<1000000 by omega),List.append_eq])]
  rw [best_inner_eq hz j (i+1) _ _ (by omega) (by rw [List.length_drop];omega) (all_drop hwr _) (by rw [List.length_drop];omega) (by simp;omega)]
  simp only [chooseL,List.append_assoc,List.singleton_append]
def zsN (o n warm:Int):List Nat:=(sizesI o n warm).map Int.toNat
def candP (o n warm:Int) (l:List Int):Prt:=(o,(chooseL (zsN o n warm) l,()))
def candC (o n warm:Int) (l:List Int):Nat:=4+partsC (zsN o n warm) (chooseL (zsN o n warm) l) l
def bestPC (n warm:Int) (l:List Int):Nat→Prt×Nat
 |0=>((0,([],())),0)
 |i+1=>if (sizesI (i:Int) n warm).length=0 then bestPC n warm l i else
   if (bestPC n warm l i).2=0∨candC (i:Int) n warm l<(bestPC n warm l i).2 then (candP (i:Int) n warm l,candC (i:Int) n warm l) else bestPC n warm l i
def bestP (n warm:Int) (l:List Int):Prt:=(bestPC n warm l 7).1
theorem cand_ok {o:Nat} {n warm:Int} {l:List Int} (hs:(sizesI (o:Int) n warm).length≠0) (hl:(l.length:Int)=n-warm) (hw:l.all wideB=true) (h5:l.length≤5000):
  ∃ zn,sizesI (o:Int) n warm=castZ zn∧zsN (o:Int) n warm=zn∧zn.length≤256∧zn.sum=l.length∧partsB (candP (o:Int) n warm l) n warm=true∧PartsOk (candP (o:Int) n warm l) n warm l zn:=by
 obtain ⟨zn,g1,g2,g3⟩:=sizes_facts hs
 have ez:zsN (o:Int) n warm=zn:=by unfold zsN;rw [g1,castZ_toNat]
 have hp:partsB (candP (o:Int) n warm l) n warm=true:=by
  simp only [partsB,candP,Bool.and_eq_true,Bool.not_eq_true',beq_eq_false_iff_ne,ne_eq,beq_iff_eq]
  exact ⟨hs,by rw [g1,castZ_length,chooseL_length,ez],chooseL_kB _ _⟩
 obtain ⟨zn',hok⟩:=PartsOk.of hp hl hw h5
 have:zn'=zn:=by
  have h1:=hok.sizes
  simp only [candP] at h1
  rw [g1] at h1
  rw [←castZ_toNat zn,h1,castZ_toNat]
 subst this
 exact ⟨_,g1,ez,g3,by omega,hp,hok⟩
theorem bestPC_inv {n warm:Int} {l:List Int} (hr:rowB n warm=true) (hl:(l.length:Int)=n-warm) (hw:l.all wideB=true) (h5:l.length≤5000):∀ i,1≤i→(bestPC n warm l i).2≠0∧partsB (bestPC n warm l i).1 n warm=true
 |0,h=>absurd h (by omega)
 |i+1,_=>by
  by_cases hs:(sizesI (i:Int) n warm).length=0
  ·simp only [bestPC,hs,if_true]
   cases i with
   |zero=>exact absurd hs (sizes_zero hr)
   |succ i=>exact bestPC_inv hr hl hw h5 (i+1) (by omega)
  ·obtain ⟨zn,-,-,-,-,hp,-⟩:=cand_ok hs hl hw h5
   simp only [bestPC,hs,if_false]
   split
   ·exact ⟨by simp only [candC];omega,hp⟩
   ·rename_i hne
    cases i with
    |zero=>exact absurd (Or.inl rfl) hne
    |succ i=>exact bestPC_inv hr hl hw h5 (i+1) (by omega)
theorem bestP_ok {n warm:Int} {l:List Int} (hr:rowB n warm=true) (hl:(l.length:Int)=n-warm) (hw:l.all wideB=true) (h5:l.length≤5000):partsB (bestP n warm l) n warm=true:=
 (bestPC_inv hr hl hw h5 7 (by omega)).2
theorem parts_Best_eq {n warm:Int} {l:List Int} (hr:rowB n warm=true) (hl:(l.length:Int)=n-warm) (hw:l.all wideB=true) (h5:l.length≤5000):
  F_parts_Best (n,(warm,((6:Int),l)))=some (bestP n warm l,0):=by
 have:=iter_count (f:=F_parts_Best_l1) (fun i:Nat=>(n,(warm,((6:Int),(l,((((bestPC n warm l i).2:Nat):Int),((i:Int),(((0:Int),(([]:List Int),())),((bestPC n warm l i).1,()))))))))) 7 (b:=(((0:Int),(([]:List Int),())),(bestP n warm l,())))
  (fun i hi=>by
   have d0:decide ((i:Int)≤imin (imax 6 0) 8)=true:=decide_eq_true (by have:imin (imax 6 0) 8=6:=rfl;omega)
   have w1:IntKind.wrap .i64 ((i:Int)+1)=((i+1:Nat):Int):=wrap_succ (by omega)
   by_cases hs:(sizesI (i:Int) n warm).length=0
   ·have hb:((((sizesI (i:Int) n warm).length:Nat):Int)==0)=true:=by rw [hs];rfl
    have eb:bestPC n warm l (i+1)=bestPC n warm l i:=by simp only [bestPC,hs,if_true]
    simp only [F_parts_Best_l1,d0,cond_true,parts_Sizes_eq,Option.bind_some,hb,w1,eb]
   ·have hb:((((sizesI (i:Int) n warm).length:Nat):Int)==0)=false:=by simp only [beq_eq_false_iff_ne,ne_eq];omega
    obtain ⟨zn,g1,ez,g3,g4,-,hok⟩:=cand_ok hs hl hw h5
    have g5:=best_inner_eq (n:=n) (warm:=warm) (most:=6) (least:=(((bestPC n warm l i).2:Nat):Int)) (order:=(i:Int)) (L:=l) (a:=((0:Int),(([]:List Int),()))) (b:=(bestPC n warm l i).1) g3 zn.length 0 l [] (by omega) (by rw [List.drop_zero];exact g4) hw h5 rfl
    simp only [Int.natCast_zero,List.drop_zero,List.nil_append] at g5
    have hc:=parts_Cost_eq hok
    simp only [candP,ez] at hc
    have hb':(((zn.length:Nat):Int)==0)=false:=by rw [←castZ_length zn,←g1];exact hb
    have el:(((castZ zn).length:Nat):Int)=((zn.length:Nat):Int):=by rw [castZ_length]
    have eP:candP (i:Int) n warm l=((i:Int),(chooseL zn l,())):=by simp only [candP,ez]
    have eC:candC (i:Int) n warm l=4+partsC zn (chooseL zn l) l:=by simp only [candC,ez]
    by_cases hz:(bestPC n warm l i).2=0
    ·have hz':((((bestPC n warm l i).2:Nat):Int)==0)=true:=by rw [hz];rfl
     have eb:bestPC n warm l (i+1)=(((i:Int),(chooseL zn l,())),4+partsC zn (chooseL zn l) l):=by simp only [bestPC,hs,if_false,hz,true_or,if_true,eP,eC]
     simp only [F_parts_Best_l1,d0,cond_true,parts_Sizes_eq,Option.bind_some,g1,el,hb',cond_false,g5,hc,w1,eb,hz']
    ·have hz':((((bestPC n warm l i).2:Nat):Int)==0)=false:=by simp only [beq_eq_false_iff_ne,ne_eq];omega
     by_cases hlt:4+partsC zn (chooseL zn l) l<(bestPC n warm l i).2
     ·have eb:bestPC n warm l (i+1)=(((i:Int),(chooseL zn l,())),4+partsC zn (chooseL zn l) l):=by simp only [bestPC,hs,if_false,hz,false_or,eP,eC,hlt,if_true]
      simp only [F_parts_Best_l1,d0,cond_true,parts_Sizes_eq,Option.bind_some,g1,el,hb',cond_false,g5,hc,w1,eb,hz',dnat hlt]
     ·have eb:bestPC n warm l (i+1)=bestPC n warm l i:=by simp only [bestPC,hs,if_false,hz,false_or,eP,eC,hlt]
      simp only [F_parts_Best_l1,d0,cond_true,parts_Sizes_eq,Option.bind_some,g1,el,hb',cond_false,g5,hc,w1,eb,hz',dnat' hlt])
  (by
   have d0:decide (((7:Nat):Int)≤imin (imax 6 0) 8)=false:=decide_eq_false (by have:imin (imax 6 0) 8=6:=rfl;omega)
   simp only [F_parts_Best_l1,d0,cond_false,bestP])
 simp only [bestPC,Int.natCast_zero] at this
 unfold F_parts_Best
 simp only [parts_right_eq hr hl hw h5,Option.bind_some,Bool.not_true,cond_false,this]
end Go.Ab
namespace Go.Ab
def chosenP (k:Int) (s:Sub):Sub:=
 (k,((0:Int),((if k=2 then s.2.2.1 else 0),((if k=3∨k=4 then s.2.2.2.1 else 0),((if k=4 then s.2.2.2.2.1 else 0),((if k=3∨k=4 then s.2.2.2.2.2.1 else []),
  ((if k=4 then s.2.2.2.2.2.2.1 else List.replicate 3 (0:Int)),((if k=5 then s.2.2.2.2.2.2.2.1 else []),(([]:List Int),(((0:Int),(([]:List Int),())),(([]:List Int),())))))))))))
def z0:Prt:=((0:Int),(([]:List Int),()))
def fillP (s:Sub) (w:Nat) (wm:List Int) (p:Prt) (r:List Int):Sub:=
 (s.1,((w:Int),(s.2.2.1,(s.2.2.2.1,(s.2.2.2.2.1,(s.2.2.2.2.2.1,(s.2.2.2.2.2.2.1,(s.2.2.2.2.2.2.2.1,(wm,(p,(r,())))))))))))
theorem chosen_eq {s:Sub} (h:SmallS s) (k:Int):F_sub_chosen (k,s)=some (chosenP k s):=by
 have hc:short s.2.2.2.2.2.1:=by have:=h.coefs;unfold short;omega
 have hst:short s.2.2.2.2.2.2.2.1:=by have:=h.stages;unfold short;omega
 obtain ⟨k',w,o,sh,lag,c,t,st,wm,p,r,u⟩:=s
 simp only at hc hst
 unfold F_sub_chosen chosenP
 by_cases k2:k=2
 ·subst k2;rfl
 by_cases k4:k=4
 ·subst k4;simp [clone_v_eq hc]
 by_cases k3:k=3
 ·subst k3;simp [clone_v_eq hc]
 by_cases k5:k=5
 ·subst k5;simp [cloneS_v_eq hst]
 have e2:(k==2)=false:=by simp [k2]
 have e3:(k==3)=false:=by simp [k3]
 have e4:(k==4)=false:=by simp [k4]
 have e5:(k==5)=false:=by simp [k5]
 simp [e2,e3,e4,e5,k2,k3,k4,k5]
theorem chosen_small {s:Sub} (h:SmallS s) (k:Int):SmallS (chosenP k s):=by
 have h1:=h.coefs
 have h2:=h.taps
 have h3:=h.stages
 refine ⟨?_,?_,?_,by simp [chosenP],by simp [chosenP],by simp [chosenP]⟩<;>simp only [chosenP]<;>split<;>first|omega|simp
theorem fit_chosen {s:Sub} {k n:Int}:fitP (chosenP k s).1 (chosenP k s) n↔fitP k s n:=by
 unfold fitP chosenP
 constructor
 ·rintro (h|h|⟨h,h1⟩|⟨h,h1⟩|⟨h,h1⟩|⟨h,h1⟩)
  ·exact .inl h
  ·exact .inr (.inl h)
  ·simp only at h;subst h;simpa using h1
  ·simp only at h;subst h;simpa using h1
  ·simp only at h;subst h;simpa using h1
  ·simp only at h;subst h;simpa using h1
 ·rintro (h|h|⟨h,h1⟩|⟨h,h1⟩|⟨h,h1⟩|⟨h,h1⟩)
  ·exact .inl h
  ·exact .inr (.inl h)
  ·subst h;simpa using h1
  ·subst h;simpa using h1
  ·subst h;simpa using h1
  ·subst h;simpa using h1
open Classical in
def wasN (l:List Int):Nat:=if h:∃ w,WasteIs l w then h.choose else 0
theorem wasN_eq {l:List Int} {w:Nat} (h:WasteIs l w):wasN l=w:=by
 unfold wasN
 rw [dif_pos ⟨w,h⟩]
 exact (Classical.choose_spec (⟨w,h⟩:∃ w,WasteIs l w)).unique h
def downN (l:List Int):List Int:=l.map fun x=>gshr .i64 x (wasN l:Int)
theorem waste_facts {l:List Int} (hs:short l) (hw:l.all wideB=true):F_sample_Wasted l=some ((wasN l:Nat):Int)∧wasN l≤30∧WasteIs l (wasN l):=by
 obtain ⟨w,h1,h3,h4⟩:=sample_Wasted_eq hs hw
 rw [wasN_eq h4]
 exact ⟨h1,h3,h4⟩
theorem down_facts {l:List Int} (hs:l.length≤4096) (hw:l.all wideB=true):downO ((wasN l:Nat):Int) l=some (downN l)∧(downN l).all wideB=true∧(downN l).length=l.length∧upO ((wasN l:Nat):Int) (downN l)=some l:=by
 obtain ⟨-,h3,h4⟩:=waste_facts (show short l by unfold short;omega) hw
 have h:=down_of h3 hw h4
 exact ⟨h,down_up h3 h⟩
def restK (k:Int) (s:Sub) (d:List Int):Option (List Int×List Int):=
 if k=2 then (bif (difN s.2.2.1.toNat d).all wideB then some (d.take s.2.2.1.toNat,difN s.2.2.1.toNat d) else none)
 else if k=3 then (linRO d s.2.2.2.2.2.1 s.2.2.2.1).map fun r=>(d.take s.2.2.2.2.2.1.length,r)
 else if k=4 then (longRO d s.2.2.2.2.1 s.2.2.2.2.2.2.1).bind fun x=>(linRO x s.2.2.2.2.2.1 s.2.2.2.1).map fun r=>(x.take s.2.2.2.2.2.1.length,r)
 else (learnRO d s.2.2.2.2.2.2.2.1).map fun r=>([],r)
theorem restK_ok {k:Int} {s:Sub} {d wm r:List Int} (hk:k=2∨k=3∨k=4∨k=5) (hf:fitP k s (d.length:Int)) (hw:d.all wideB=true) (h:restK k s d=some (wm,r)):
  wm.length≤d.length∧r.length=d.length-wm.length∧r.all wideB=true∧wm.all wideB=true:=by
 have hf':=hf
 simp only [fitP] at hf'
 rcases hk with rfl|rfl|rfl|rfl
 ·have:0≤s.2.2.1∧s.2.2.1≤(d.length:Int):=by simp at hf';omega
  simp only [restK,if_true] at h
  cases hq:(difN s.2.2.1.toNat d).all wideB with
  |false=>simp [hq] at h
  |true=>
   simp only [hq,cond_true,sj,Prod.mk.injEq] at h
   obtain ⟨rfl,rfl⟩:=h
   refine ⟨by rw [List.length_take];omega,by rw [difN_length,List.length_take];omega,hq,all_take hw _⟩
 ·have:(s.2.2.2.2.2.1.length:Int)≤(d.length:Int):=by simp at hf';omega
  simp only [restK,show ¬ (3:Int)=2 by decide,if_false,if_true,Option.map_eq_some_iff,Prod.mk.injEq] at h
  obtain ⟨r',h1,rfl,rfl⟩:=h
  obtain ⟨-,h2,h3⟩:=lin_back h1
  exact ⟨by rw [List.length_take];omega,by rw [h3,List.length_take];omega,h2,all_take hw _⟩
 ·have:(s.2.2.2.2.2.1.length:Int)≤(d.length:Int):=by simp at hf';omega
  simp only [restK,show ¬ (4:Int)=2 by decide,show ¬ (4:Int)=3 by decide,if_false,if_true,Option.bind_eq_some_iff,Option.map_eq_some_iff,Prod.mk.injEq] at h
  obtain ⟨x,h0,r',h1,rfl,rfl⟩:=h
  obtain ⟨-,g2,g3⟩:=long_back h0
  obtain ⟨-,h2,h3⟩:=lin_back h1
  exact ⟨by rw [List.length_take];omega,by rw [h3,List.length_take];omega,h2,all_take g2 _⟩
 ·simp only [restK,show ¬ (5:Int)=2 by decide,show ¬ (5:Int)=3 by decide,show ¬ (5:Int)=4 by decide,if_false,Option.map_eq_some_iff,Prod.mk.injEq] at h
  obtain ⟨r',h1,rfl,rfl⟩:=h
  obtain ⟨-,h2,h3⟩:=learn_back h1
  exact ⟨by simp,by simpa using h3,h2,rfl⟩
theorem split_eq {k:Int} {s:Sub} {d:List Int} (hk:k=2∨k=3∨k=4∨k=5) (h:SmallS s) (hf:fitP k s (d.length:Int)) (hd:d.length≤4096) (hw:d.all wideB=true) (w:Nat):
  F_sub_split (fillP (chosenP k s) w [] z0 [],d)=some (match restK k s d with|none=>(6,fillP (chosenP k s) w [] z0 [])|some (wm,r)=>(0,fillP (chosenP k s) w wm z0 r)):=by
 have ht:=h.taps
 have hst:=h.stages
 have hsd:short d:=by unfold short;omega
 obtain ⟨k',w',o,sh,lag,c,t,st,wm',p,r',u⟩:=s
 simp only [fitP] at hf ht hst
 unfold F_sub_split
 rcases hk with rfl|rfl|rfl|rfl
 ·obtain ⟨h0,h4,hn⟩:0≤o∧o≤4∧o≤(d.length:Int):=by simp at hf;omega
  obtain ⟨O,rfl⟩:=Int.eq_ofNat_of_zero_le h0
  have hst:short (d.take O):=by unfold short;rw [List.length_take];omega
  have e2:decide ((O:Int)≤((d.length:Nat):Int))=true:=by simp;omega
  simp only [fillP,chosenP,restK,if_true,show ((2:Int)==2)=true from rfl,cond_true,fixed_Rest_eq (show O≤4 by omega) (show O≤d.length by omega) hsd hw,Option.bind_some,Int.toNat_natCast]
  cases (difN O d).all wideB with
  |false=>rfl
  |true=>simp [warmth_eq,warmI,show O≤d.length by omega,clone_eq hst]
 ·obtain ⟨hl,hn⟩:linB c sh=true∧(c.length:Int)≤(d.length:Int):=by simpa using hf
  have hst:short (d.take c.length):=by unfold short;rw [List.length_take];omega
  have e1:decide ((0:Int)≤((c.length:Nat):Int))=true:=by simp
  have e2:decide (((c.length:Nat):Int)≤((d.length:Nat):Int))=true:=by simp;omega
  simp only [fillP,chosenP,restK,show ((3:Int)==2)=false from rfl,show ((3:Int)==3)=true from rfl,show ¬ (3:Int)=2 by decide,show ¬ (3:Int)=4 by decide,show ¬ (3:Int)=5 by decide,true_or,if_true,if_false,cond_true,cond_false,linear_Rest_eq hl (show c.length≤d.length by omega) (show d.length<100000 by omega),Option.bind_some]
  cases linRO d c sh with
  |none=>rfl
  |some r=>simp [resB,warmth_eq,warmI,show c.length≤d.length by omega,clone_eq hst]
 ·obtain ⟨hl,hn,hlg⟩:linB c sh=true∧(c.length:Int)≤(d.length:Int)∧longB lag t=true:=by simpa using hf
  simp only [fillP,chosenP,restK,show ((4:Int)==2)=false from rfl,show ((4:Int)==3)=false from rfl,show ((4:Int)==4)=true from rfl,show ¬ (4:Int)=2 by decide,show ¬ (4:Int)=3 by decide,show ¬ (4:Int)=5 by decide,or_true,if_true,if_false,cond_true,cond_false,long_Rest_eq hlg ht (show d.length<100000 by omega),Option.bind_some]
  cases hx:longRO d lag t with
  |none=>rfl
  |some x=>
   obtain ⟨-,g2,g3⟩:=long_back hx
   have hst:short (x.take c.length):=by unfold short;rw [List.length_take];omega
   have e1:decide ((0:Int)≤((c.length:Nat):Int))=true:=by simp
   have e2:decide (((c.length:Nat):Int)≤((x.length:Nat):Int))=true:=by simp;omega
   simp only [resB,show ((0:Int)==0)=true from rfl,cond_true,linear_Rest_eq hl (show c.length≤x.length by omega) (show x.length<100000 by omega),Option.bind_some]
   cases linRO x c sh with
   |none=>rfl
   |some r=>simp [resB,warmth_eq,warmI,show c.length≤x.length by omega,clone_eq hst]
 ·obtain ⟨hn,hlr⟩:0<st.length∧learnB st=true:=by simpa using hf
  have hst:short (d.take 0):=by simp [short]
  simp only [fillP,chosenP,restK,show ((5:Int)==2)=false from rfl,show ((5:Int)==3)=false from rfl,show ((5:Int)==4)=false from rfl,show ((5:Int)==5)=true from rfl,show ¬ (5:Int)=2 by decide,show ¬ (5:Int)=3 by decide,show ¬ (5:Int)=4 by decide,or_self,if_true,if_false,cond_true,cond_false,learn_Rest_eq hlr (show d.length<100000 by omega),Option.bind_some]
  cases learnRO d st with
  |none=>rfl
  |some r=>
   have e1:decide ((0:Int)≤((d.length:Nat):Int))=true:=by simp
   have hc:=clone_eq hst
   simp only [List.take_zero] at hc
   simp [resB,warmth_eq,warmI,e1,hc]
end Go.Ab
namespace Go.Ab
open Classical in

def makeP (k:Int) (l:List Int) (s:Sub):Sub×Int:=
 if ¬ (1≤l.length∧l.length≤4096∧fitP k s (l.length:Int)) then (zeroO 0,1)
 else if l.all wideB=false then (zeroO 0,6)
 else if k=0 then (bif l.all (fun x=>x==l.headD 0) then (fillP (chosenP 0 s) 0 [l.headD 0] z0 [],0) else (zeroO 0,7))
 else if k=1 then (fillP (chosenP 1 s) (wasN l) (downN l) z0 [],0)
 else match restK k s (downN l) with
  |none=>(zeroO 0,6)
  |some (wm,r)=>(fillP (chosenP k s) (wasN l) wm (bestP (l.length:Int) (wm.length:Int) r) r,0)
theorem gidx0 {l:List Int} (h:1≤l.length):gidx l 0=some (l.headD 0):=by
 cases l with
 |nil=>simp at h
 |cons a l=>rfl
theorem mk_flat_loop {l:List Int} (h1:1≤l.length) (hs:short l) (a b:Sub):
  iter F_sub_Make_l0 (l,(l,((l.length:Int),((0:Int),(a,(b,()))))))=some (bif l.all (fun x=>x==l.headD 0) then .inl (l,(a,(b,()))) else .inr ((7:Int),(zeroO 0,()))):=by
 have:=iter_all (f:=F_sub_Make_l0) l (fun i=>(l,(l,((l.length:Int),((i:Int),(a,(b,()))))))) (fun x=>x==l.headD 0) (bt:=Sum.inl (l,(a,(b,())))) (bf:=Sum.inr ((7:Int),(zeroO 0,())))
  (fun i h hp=>by
   have hne:(l[i] != l.headD 0)=false:=by simpa using hp
   simp only [F_sub_Make_l0,dlt h,cond_true,gidx_get h,Option.bind_some,gidx0 h1,hne,cond_false,wrap_succ (Nat.lt_trans h hs)])
  (fun i h hp=>by
   have hne:(l[i] != l.headD 0)=true:=by simpa using hp
   simp only [F_sub_Make_l0,dlt h,cond_true,gidx_get h,Option.bind_some,gidx0 h1,hne];rfl)
  (by simp [F_sub_Make_l0])
 simpa using this
theorem kind_of_fit {k n:Int} {s:Sub} (h:fitP k s n) (h0:k≠0) (h1:k≠1):k=2∨k=3∨k=4∨k=5:=by
 rcases h with h|h|⟨h,-⟩|⟨h,-⟩|⟨h,-⟩|⟨h,-⟩
 ·exact absurd h h0
 ·exact absurd h h1
 ·exact .inl h
 ·exact .inr (.inl h)
 ·exact .inr (.inr (.inl h))
 ·exact .inr (.inr (.inr h))
theorem Make_eq {s:Sub} (h:SmallS s) (k:Int) {l:List Int} (hl:l.length≤100000):F_sub_Make (k,(l,s))=some (makeP k l s):=by
 have hs:short l:=by unfold short;omega
 unfold F_sub_Make makeP
 by_cases h1:1≤l.length
 rotate_left
 ·have e:decide (((l.length:Nat):Int)<1)=true:=decide_eq_true (by omega)
  rw [if_pos (fun hc=>h1 hc.1)]
  simp only [e,cond_true,Option.bind_some];rfl
 have e1:decide (((l.length:Nat):Int)<1)=false:=decide_eq_false (by omega)
 by_cases h2:l.length≤4096
 rotate_left
 ·have e:decide (((l.length:Nat):Int) > 4096)=true:=decide_eq_true (by omega)
  rw [if_pos (fun hc=>h2 hc.2.1)]
  simp only [e1,e,cond_true,cond_false,Option.bind_some];rfl
 have e2:decide (((l.length:Nat):Int) > 4096)=false:=decide_eq_false (by omega)
 by_cases h3:fitP k s (l.length:Int)
 rotate_left
 ·have e3:fitB k s (l.length:Int)=false:=by simp [fitB,h3]
  rw [if_pos (fun hc=>h3 hc.2.2)]
  simp only [e1,e2,fit_eq h,e3,cond_false,Bool.not_false,cond_true,Option.bind_some];rfl
 have e3:fitB k s (l.length:Int)=true:=by simp [fitB,h3]
 rw [if_neg (fun hc=>hc ⟨h1,h2,h3⟩)]
 simp only [e1,e2,fit_eq h,e3,cond_false,Bool.not_true,Option.bind_some,sub_allWide_eq hs]
 cases hw:l.all wideB with
 |false=>rfl
 |true=>
  simp only [Bool.not_true,cond_false,chosen_eq h,Option.bind_some]
  rw [if_neg (by decide)]
  by_cases h0:k=0
  ·subst h0
   have hf:=mk_flat_loop h1 hs (zeroO 0) (chosenP 0 s)
   have ez:zeroO 0=((0:Int),((0:Int),((0:Int),((0:Int),((0:Int),(([]:(List Int)),(List.replicate 3 (0:Int),(([]:(List (Int×(Int×Unit)))),(([]:(List Int)),(((0:Int),(([]:(List Int)),())),(([]:(List Int)),()))))))))))):=rfl
   rw [←ez,if_pos rfl]
   simp only [show ((0:Int)==0)=true from rfl,cond_true,hf,Option.bind_some]
   cases l.all (fun x=>x==l.headD 0) with
   |false=>rfl
   |true=>simp only [cond_true,gidx0 h1,Option.bind_some];rfl
  ·obtain ⟨w1,w3,-⟩:=waste_facts hs hw
   obtain ⟨d1,d2,d3,-⟩:=down_facts h2 hw
   have he0:(k==0)=false:=by simp [h0]
   rw [if_neg h0]
   simp only [he0,cond_false,w1,Option.bind_some,sample_Down_eq w3 (show l.length<100000 by omega),d1,resB,show ((0:Int) != 0)=false from rfl]
   by_cases hk1:k=1
   ·subst hk1;rfl
   ·have he1:(k==1)=false:=by simp [hk1]
    have hk:=kind_of_fit h3 h0 hk1
    rw [if_neg hk1]
    have hsp:=split_eq hk h (d:=downN l) (by rw [d3];exact h3) (by omega) d2 (wasN l)
    have e4:((chosenP k s).1,(((wasN l:Nat):Int),(chosenP k s).2.2))=fillP (chosenP k s) (wasN l) [] z0 []:=rfl
    simp only [he1,cond_false,e4,hsp,Option.bind_some]
    cases hr:restK k s (downN l) with
    |none=>rfl
    |some q=>
     obtain ⟨wm,r⟩:=q
     obtain ⟨r1,r2,r3,-⟩:=restK_ok hk (by rw [d3];exact h3) d2 hr
     have hrow:rowB (l.length:Int) (wm.length:Int)=true:=by simp only [rowB,Bool.and_eq_true,decide_eq_true_eq];omega
     have hb:=parts_Best_eq hrow (l:=r) (by omega) r3 (by omega)
     simp only [show ((0:Int) != 0)=false from rfl,cond_false,fillP,hb,Option.bind_some]
end Go.Ab
namespace Go.Ab
theorem partsB_ks {p:Prt} {n warm:Int} (h:partsB p n warm=true):p.2.1.length≤256:=by
 simp only [partsB,Bool.and_eq_true,Bool.not_eq_true',beq_eq_false_iff_ne,ne_eq,beq_iff_eq] at h
 obtain ⟨zn,h1,-,h3⟩:=sizes_facts h.1
 rw [←h.2.1,h1,castZ_length]
 exact h3
theorem fill_small {s:Sub} (h:SmallS s) {w:Nat} {wm r:List Int} {p:Prt} (h1:wm.length≤5000) (h2:r.length≤5000) (h3:p.2.1.length≤300):SmallS (fillP s w wm p r):=
 ⟨h.coefs,h.taps,h.stages,h1,h2,h3⟩
theorem make_cases {k:Int} {l:List Int} {s:Sub} (h0:(makeP k l s).2=0):
  1≤l.length∧l.length≤4096∧fitP k s (l.length:Int)∧l.all wideB=true∧
   ((k=0∧l.all (fun x=>x==l.headD 0)=true∧(makeP k l s).1=fillP (chosenP 0 s) 0 [l.headD 0] z0 [])∨
    (k=1∧(makeP k l s).1=fillP (chosenP 1 s) (wasN l) (downN l) z0 [])∨
     ((k=2∨k=3∨k=4∨k=5)∧∃ wm r,restK k s (downN l)=some (wm,r)∧(makeP k l s).1=fillP (chosenP k s) (wasN l) wm (bestP (l.length:Int) (wm.length:Int) r) r)):=by
 unfold makeP at h0 ⊢
 split at h0
 ·cases h0
 rename_i hc
 have hc:1≤l.length∧l.length≤4096∧fitP k s (l.length:Int):=Classical.byContradiction hc
 refine ⟨hc.1,hc.2.1,hc.2.2,?_⟩
 rw [if_neg (fun h=>h hc)]
 split at h0
 ·cases h0
 rename_i hw
 have hw':l.all wideB=true:=by simpa using hw
 refine ⟨hw',?_⟩
 rw [if_neg hw]
 split at h0
 ·rename_i k0
  rw [if_pos k0]
  cases hq:l.all (fun x=>x==l.headD 0) with
  |false=>rw [hq] at h0;cases h0
  |true=>exact .inl ⟨k0,rfl,rfl⟩
 rename_i k0
 rw [if_neg k0]
 split at h0
 ·rename_i k1
  rw [if_pos k1]
  exact .inr (.inl ⟨k1,rfl⟩)
 rename_i k1
 rw [if_neg k1]
 refine .inr (.inr ⟨kind_of_fit hc.2.2 k0 k1,?_⟩)
 cases hr:restK k s (downN l) with
 |none=>rw [hr] at h0;cases h0
 |some q=>
  obtain ⟨wm,r⟩:=q
  exact ⟨wm,r,rfl,rfl⟩
theorem alone_chosen {s:Sub} {k:Int} {w:Nat} {wm r:List Int} {p:Prt}:aloneP (fillP (chosenP k s) w wm p r):=by
 unfold aloneP fillP chosenP
 refine ⟨fun h=>if_neg h,fun h=>if_neg (not_or.2 h),fun h=>if_neg h,fun h=>if_neg h,fun h=>if_neg (not_or.2 h),fun h=>if_neg h⟩
theorem fit_fill {s:Sub} {k n:Int} {w:Nat} {wm r:List Int} {p:Prt} (h:fitP k s n):fitP (fillP (chosenP k s) w wm p r).1 (fillP (chosenP k s) w wm p r) n:=fit_chosen.2 h
theorem head_all {l:List Int} (h:l.all (fun x=>x==l.headD 0)=true):List.replicate l.length (l.headD 0)=l:=by
 refine (List.eq_replicate_iff.2 ⟨rfl,fun x hx=>?_⟩).symm
 have:=List.all_eq_true.1 h x hx
 simpa using this
theorem make_ok {k:Int} {l:List Int} {s:Sub} (hS:SmallS s) (h0:(makeP k l s).2=0):
  SmallS (makeP k l s).1∧(makeP k l s).1.1=k∧statedP (makeP k l s).1 (l.length:Int)∧subO (makeP k l s).1 (l.length:Int)=some l:=by
 obtain ⟨h1,h2,hf,hw,hc⟩:=make_cases h0
 have hs:short l:=by unfold short;omega
 obtain ⟨-,w3,-⟩:=waste_facts hs hw
 obtain ⟨d1,d2,d3,d4⟩:=down_facts h2 hw
 have key:∀ m:Sub,statedP m (l.length:Int)→rowO m (l.length:Int)=some l→subO m (l.length:Int)=some l:=fun m g1 g2=>by unfold subO;rw [if_pos g1,g2]
 have hcs:=chosen_small hS k
 rcases hc with ⟨rfl,hall,e⟩|⟨rfl,e⟩|⟨hk,wm,r,hr,e⟩
 ·rw [e]
  have hst:statedP (fillP (chosenP 0 s) 0 [l.headD 0] z0 []) (l.length:Int):=by
   have hh:wideB (l.headD 0)=true:=by
    cases l with
    |nil=>rfl
    |cons a l=>exact List.all_eq_true.1 hw _ List.mem_cons_self
   exact ⟨by omega,by omega,fit_fill hf,alone_chosen,Int.le_refl _,(by decide:(0:Int)≤30),fun _=>rfl,rfl,by simp only [fillP,List.all_cons,hh,List.all_nil];rfl,rfl,fun _=>⟨rfl,rfl,rfl⟩,fun h=>absurd rfl h.1⟩
  refine ⟨fill_small hcs (by simp) (by simp) (by simp [z0]),rfl,hst,key _ hst ?_⟩
  show some (List.replicate (l.length:Int).toNat (l.headD 0))=some l
  rw [Int.toNat_natCast,head_all hall]
 ·rw [e]
  have hst:statedP (fillP (chosenP 1 s) (wasN l) (downN l) z0 []) (l.length:Int):=
   ⟨by omega,by omega,fit_fill hf,alone_chosen,Int.natCast_nonneg _,(by show ((wasN l:Nat):Int)≤30;omega),fun h=>absurd h (by decide:¬ (1:Int)=0),by show (((downN l).length:Nat):Int)=(l.length:Int);rw [d3],d2,rfl,fun _=>⟨rfl,rfl,rfl⟩,fun h=>absurd rfl h.2⟩
  refine ⟨fill_small hcs (by omega) (by simp) (by simp [z0]),rfl,hst,key _ hst ?_⟩
  show upO ((wasN l:Nat):Int) (downN l)=some l
  exact d4
 ·rw [e]
  obtain ⟨r1,r2,r3,r4⟩:=restK_ok hk (by rw [d3];exact hf) d2 hr
  have hrow:rowB (l.length:Int) (wm.length:Int)=true:=by simp only [rowB,Bool.and_eq_true,decide_eq_true_eq];omega
  have hp:=bestP_ok hrow (l:=r) (by omega) r3 (by omega)
  generalize bestP (l.length:Int) (wm.length:Int) r=p at hp
  have hks:=partsB_ks hp

  have hwb:warmI (fillP (chosenP k s) (wasN l) wm p r) (l.length:Int)=(wm.length:Int)∧backP (fillP (chosenP k s) (wasN l) wm p r)=some (downN l):=by
   simp only [fitP] at hf
   rcases hk with rfl|rfl|rfl|rfl
   ·obtain ⟨q0,q4,qn⟩:0≤s.2.2.1∧s.2.2.1≤4∧s.2.2.1≤(l.length:Int):=by simp at hf;omega
    simp only [restK,if_true] at hr
    cases hq:(difN s.2.2.1.toNat (downN l)).all wideB with
    |false=>simp [hq] at hr
    |true=>
     simp only [hq,cond_true,sj,Prod.mk.injEq] at hr
     obtain ⟨rfl,rfl⟩:=hr
     refine ⟨?_,?_⟩
     ·show s.2.2.1=_
      rw [List.length_take];omega
     ·show fixO ((downN l).take s.2.2.1.toNat) (difN s.2.2.1.toNat (downN l)) s.2.2.1=some (downN l)
      have hb:=back_dif d2 (o:=s.2.2.1.toNat) (by omega) ((downN l).length-s.2.2.1.toNat) 0 (by omega)
      rw [List.drop_zero,Nat.add_zero] at hb
      unfold fixO
      rw [all_take d2,hq]
      exact hb
   ·have qn:(s.2.2.2.2.2.1.length:Int)≤(l.length:Int):=by simp at hf;omega
    simp only [restK,show ¬ (3:Int)=2 by decide,if_false,if_true,Option.map_eq_some_iff,Prod.mk.injEq] at hr
    obtain ⟨r',g1,rfl,rfl⟩:=hr
    obtain ⟨g2,-,-⟩:=lin_back g1
    refine ⟨?_,?_⟩
    ·show ((s.2.2.2.2.2.1.length:Nat):Int)=_
     rw [List.length_take];omega
    ·exact g2
   ·have qn:(s.2.2.2.2.2.1.length:Int)≤(l.length:Int):=by simp at hf;omega
    simp only [restK,show ¬ (4:Int)=2 by decide,show ¬ (4:Int)=3 by decide,if_false,if_true,Option.bind_eq_some_iff,Option.map_eq_some_iff,Prod.mk.injEq] at hr
    obtain ⟨x,g0,r',g1,rfl,rfl⟩:=hr
    obtain ⟨f1,-,f3⟩:=long_back g0
    obtain ⟨g2,-,-⟩:=lin_back g1
    refine ⟨?_,?_⟩
    ·show ((s.2.2.2.2.2.1.length:Nat):Int)=_
     rw [List.length_take];omega
    ·show (linO (x.take s.2.2.2.2.2.1.length) r' s.2.2.2.2.2.1 s.2.2.2.1).bind (fun l=>longO l s.2.2.2.2.1 s.2.2.2.2.2.2.1)=_
     rw [g2]
     exact f1
   ·simp only [restK,show ¬ (5:Int)=2 by decide,show ¬ (5:Int)=3 by decide,show ¬ (5:Int)=4 by decide,if_false,Option.map_eq_some_iff,Prod.mk.injEq] at hr
    obtain ⟨r',g1,rfl,rfl⟩:=hr
    obtain ⟨g2,-,-⟩:=learn_back g1
    exact ⟨rfl,g2⟩
  have hne:¬ (k=0∨k=1):=by rcases hk with rfl|rfl|rfl|rfl<;>decide
  have hst:statedP (fillP (chosenP k s) (wasN l) wm p r) (l.length:Int):=by
   unfold statedP
   rw [hwb.1]
   exact ⟨by omega,by omega,fit_fill hf,alone_chosen,Int.natCast_nonneg _,(by show ((wasN l:Nat):Int)≤30;omega),fun h=>absurd (.inl h) hne,rfl,r4,r3,fun h=>absurd h hne,fun _=>⟨(by show ((r.length:Nat):Int)=_;omega),hp⟩⟩
  refine ⟨fill_small hcs (by omega) (by omega) (by omega),rfl,hst,key _ hst ?_⟩
  have e0:¬ (fillP (chosenP k s) (wasN l) wm p r).1=0:=fun h=>hne (.inl h)
  unfold rowO
  rw [if_neg e0,hwb.2]
  exact d4
theorem zero_small:SmallS (zeroO 0):=small_zeroO 0
end Go.Ab
namespace Go.Ab
def cS (k o sh:Int) (c:List Int) (st:List Stg):Sub:=
 (k,((0:Int),(o,(sh,((0:Int),(c,(List.replicate 3 (0:Int),(st,(([]:List Int),(((0:Int),(([]:List Int),())),(([]:List Int),())))))))))))
theorem cS_small {k o sh:Int} {c:List Int} {st:List Stg} (h:c.length≤40) (h2:st.length≤6):SmallS (cS k o sh c st):=
 ⟨h,rfl,h2,by simp [cS],by simp [cS],by simp [cS]⟩
def findP (d:List Int) (o w:Int):List Int×(Int×Int):=(F_linear_Find (d,(o,w))).getD ([],(0,1))
def linC (d:List Int) (o w:Int):List Sub:=bif (findP d o w).2.2==0 then [cS 3 0 (findP d o w).2.1 (findP d o w).1 []] else []
def bestO (d:List Int):Int:=(F_fixed_Best d).getD 0
def lagP (d:List Int):Sub×Bool:=(F_sub_lagged d).getD (zeroO 0,false)
def lagC (d:List Int):List Sub:=bif (lagP d).2 then [(lagP d).1] else []
def fixC (i:Nat):List Sub:=(List.range i).map fun (j:Nat)=>cS 2 (j:Int) 0 [] []
def cand0 (d:List Int):List Sub:=[cS 0 0 0 [] [],cS 1 0 0 [] [],cS 2 (bestO d) 0 [] []]
def cand1 (d:List Int) (k:Int):List Sub:=if 1≤k then linC d 4 12++linC d 8 12 else []
def cand2 (d:List Int) (k:Int):List Sub:=if 2≤k then [cS 5 0 0 [] [((16:Int),((4:Int),()))],cS 5 0 0 [] [((32:Int),((3:Int),())),((16:Int),((5:Int),()))]]++lagC d else []
def cand3 (d:List Int) (k:Int):List Sub:=if 3≤k then fixC 5++(linC d 1 12++(linC d 2 12++(linC d 12 14++linC d 16 14))) else []
def candL (d:List Int) (k:Int):List Sub:=cand0 d++(cand1 d k++(cand2 d k++cand3 d k))
def LagOk (d:List Int):Prop:=F_sub_lagged d=some (lagP d)∧((lagP d).2=true→SmallS (lagP d).1)
theorem findP_eq {d:List Int} (hw:d.all wideB=true) (hl:d.length≤4096) {o w:Nat} (h1:1≤o) (h2:o≤32) (h3:2≤w∧w≤16):
  F_linear_Find (d,((o:Int),(w:Int)))=some (findP d o w)∧((findP d o w).2.2=0→(findP d o w).1.length=o):=by
 obtain ⟨c,sh,e,g1,g2⟩:=Find_some hw hl h1 h2 h3
 unfold findP
 rw [g1]
 exact ⟨rfl,g2⟩
theorem linC_len (d:List Int) (o w:Int):(linC d o w).length≤1:=by
 unfold linC
 cases (findP d o w).2.2==0<;>simp
theorem cand_one {d:List Int} (hw:d.all wideB=true) (hl:d.length≤4096) {o w:Nat} (h1:1≤o) (h2:o≤32) (h3:2≤w∧w≤16) {L:List Sub} (hL:L.length<1000):
  F_sub_candidates_1 ((o:Int),((w:Int),(d,L)))=some (d,L++linC d o w):=by
 obtain ⟨g1,-⟩:=findP_eq hw hl h1 h2 h3
 have hlim:lim (L.length+1)=true:=lim_short (by omega)
 unfold F_sub_candidates_1 linC
 simp only [g1,Option.bind_some]
 cases (findP d o w).2.2==0 with
 |true=>simp only [cond_true,hlim];rfl
 |false=>simp only [cond_false,List.append_nil]
theorem cand_fixed {d:List Int} {L:List Sub} (hL:L.length<1000):iter F_sub_candidates_l0 ((0:Int),(L,(d,())))=some (L++fixC 5,(d,())):=by
 have:=iter_count (f:=F_sub_candidates_l0) (fun i:Nat=>((i:Int),(L++fixC i,(d,())))) 5 (b:=(L++fixC 5,(d,())))
  (fun i hi=>by
   have d0:decide ((i:Int)<5)=true:=decide_eq_true (by omega)
   have hlim:lim ((L++fixC i).length+1)=true:=lim_short (by simp [fixC];omega)
   have e:(L++fixC i)++[cS 2 (i:Int) 0 [] []]=L++fixC (i+1):=by simp [fixC,List.range_succ]
   rw [←e]
   simp only [F_sub_candidates_l0,d0,cond_true,hlim,wrap_succ (show i<1000000 by omega)]
   rfl)
  (by
   have d0:decide (((5:Nat):Int)<5)=false:=by decide
   simp only [F_sub_candidates_l0,d0,cond_false])
 simp only [Int.natCast_zero] at this
 rw [show fixC 0=[] from rfl,List.append_nil] at this
 exact this
theorem cand_eq {d:List Int} (hw:d.all wideB=true) (hl:d.length≤4096) (hlag:LagOk d) (k:Int):F_sub_candidates (d,k)=some (candL d k):=by
 obtain ⟨o,ho,ho4⟩:=fixed_Best_some (show d.length<100000 by omega) hw
 have hb:bestO d=(o:Int):=by unfold bestO;rw [ho];rfl
 have hlc:(lagC d).length≤1:=by unfold lagC;cases (lagP d).2<;>simp
 have l4:=linC_len d 4 12
 have l8:=linC_len d 8 12
 have l1:=linC_len d 1 12
 have l2:=linC_len d 2 12
 have l12:=linC_len d 12 14
 have c4:=fun L (hL:L.length<1000)=>cand_one (L:=L) hw hl (o:=4) (w:=12) (by omega) (by omega) (by omega) hL
 have c8:=fun L (hL:L.length<1000)=>cand_one (L:=L) hw hl (o:=8) (w:=12) (by omega) (by omega) (by omega) hL
 have c1:=fun L (hL:L.length<1000)=>cand_one (L:=L) hw hl (o:=1) (w:=12) (by omega) (by omega) (by omega) hL
 have c2:=fun L (hL:L.length<1000)=>cand_one (L:=L) hw hl (o:=2) (w:=12) (by omega) (by omega) (by omega) hL
 have c12:=fun L (hL:L.length<1000)=>cand_one (L:=L) hw hl (o:=12) (w:=14) (by omega) (by omega) (by omega) hL
 have c16:=fun L (hL:L.length<1000)=>cand_one (L:=L) hw hl (o:=16) (w:=14) (by omega) (by omega) (by omega) hL
 simp only [Int.cast_ofNat_Int] at c4 c8 c1 c2 c12 c16
 have n0:(cand0 d).length=3:=rfl
 have n1:(cand1 d k).length≤2:=by unfold cand1;split<;>simp<;>omega
 have n2:(cand2 d k).length≤3:=by unfold cand2;split<;>simp<;>omega
 have n5:(fixC 5).length=5:=rfl
 have s1:(bif decide (k≥1) then ((F_sub_candidates_1 ((4:Int),((12:Int),(d,cand0 d)))).bind fun y2=>(F_sub_candidates_1 ((8:Int),((12:Int),(y2.1,y2.2)))).bind fun y3=>some (k,(y3.1,(y3.2,())))) else some (k,(d,(cand0 d,()))))=some (k,(d,(cand0 d++cand1 d k,()))):=by
  unfold cand1
  by_cases h:1≤k
  ·have e:decide (k≥1)=true:=decide_eq_true h
   simp only [e,cond_true,c4 (cand0 d) (by omega),Option.bind_some,c8 (cand0 d++linC d 4 12) (by simp;omega),if_pos h,List.append_assoc]
  ·have e:decide (k≥1)=false:=decide_eq_false h
   simp only [e,cond_false,if_neg h,List.append_nil]
 have hF:F_sub_candidates (d,k)=(F_fixed_Best d).bind fun y1=>
   (show Option (Int×((List Int)×((List Sub)×Unit))) from bif decide (k≥1) then ((F_sub_candidates_1 ((4:Int),((12:Int),(d,[cS 0 0 0 [] [],cS 1 0 0 [] [],cS 2 y1 0 [] []])))).bind fun y2=>(F_sub_candidates_1 ((8:Int),((12:Int),(y2.1,y2.2)))).bind fun y3=>some (k,(y3.1,(y3.2,())))) else some (k,(d,([cS 0 0 0 [] [],cS 1 0 0 [] [],cS 2 y1 0 [] []],())))).bind fun z4=>
   (show Option (Int×((List Sub)×((List Int)×Unit))) from bif decide (z4.1≥2) then (bif lim (z4.2.2.1.length+1) then (bif lim ((z4.2.2.1++[cS 5 0 0 [] [((16:Int),((4:Int),()))]]).length+1) then ((F_sub_lagged z4.2.1).bind fun y5=>
    bif y5.2 then (bif lim ((z4.2.2.1++[cS 5 0 0 [] [((16:Int),((4:Int),()))]]++[cS 5 0 0 [] [((32:Int),((3:Int),())),((16:Int),((5:Int),()))]]).length+1) then some (z4.1,(z4.2.2.1++[cS 5 0 0 [] [((16:Int),((4:Int),()))]]++[cS 5 0 0 [] [((32:Int),((3:Int),())),((16:Int),((5:Int),()))]]++[y5.1],(z4.2.1,()))) else none)
    else some (z4.1,(z4.2.2.1++[cS 5 0 0 [] [((16:Int),((4:Int),()))]]++[cS 5 0 0 [] [((32:Int),((3:Int),())),((16:Int),((5:Int),()))]],(z4.2.1,())))) else none) else none) else some (z4.1,(z4.2.2.1,(z4.2.1,())))).bind fun z6=>
   (show Option ((List Sub)×Unit) from bif decide (z6.1≥3) then ((iter F_sub_candidates_l0 ((0:Int),(z6.2.1,(z6.2.2.1,())))).bind fun w7=>(F_sub_candidates_1 ((1:Int),((12:Int),(w7.2.1,w7.1)))).bind fun y8=>(F_sub_candidates_1 ((2:Int),((12:Int),(y8.1,y8.2)))).bind fun y9=>
    (F_sub_candidates_1 ((12:Int),((14:Int),(y9.1,y9.2)))).bind fun y10=>(F_sub_candidates_1 ((16:Int),((14:Int),(y10.1,y10.2)))).bind fun y11=>some (y11.2,())) else some (z6.2.1,())).bind fun z12=>some z12.1:=rfl
 have e0:[cS 0 0 0 [] [],cS 1 0 0 [] [],cS 2 (o:Int) 0 [] []]=cand0 d:=by unfold cand0;rw [hb]
 have s2:(bif decide (k≥2) then (bif lim ((cand0 d++cand1 d k).length+1) then (bif lim ((cand0 d++cand1 d k++[cS 5 0 0 [] [((16:Int),((4:Int),()))]]).length+1) then ((F_sub_lagged d).bind fun y5=>
    bif y5.2 then (bif lim ((cand0 d++cand1 d k++[cS 5 0 0 [] [((16:Int),((4:Int),()))]]++[cS 5 0 0 [] [((32:Int),((3:Int),())),((16:Int),((5:Int),()))]]).length+1) then some (k,(cand0 d++cand1 d k++[cS 5 0 0 [] [((16:Int),((4:Int),()))]]++[cS 5 0 0 [] [((32:Int),((3:Int),())),((16:Int),((5:Int),()))]]++[y5.1],(d,()))) else none)
    else some (k,(cand0 d++cand1 d k++[cS 5 0 0 [] [((16:Int),((4:Int),()))]]++[cS 5 0 0 [] [((32:Int),((3:Int),())),((16:Int),((5:Int),()))]],(d,())))) else none) else none) else some (k,(cand0 d++cand1 d k,(d,()))):Option (Int×((List Sub)×((List Int)×Unit))))=some (k,(cand0 d++(cand1 d k++cand2 d k),(d,()))):=by
  unfold cand2
  by_cases h:2≤k
  ·have e:decide (k≥2)=true:=decide_eq_true h
   have q1:lim ((cand0 d++cand1 d k).length+1)=true:=lim_short (by simp;omega)
   have q2:lim ((cand0 d++cand1 d k++[cS 5 0 0 [] [((16:Int),((4:Int),()))]]).length+1)=true:=lim_short (by simp;omega)
   have q3:lim ((cand0 d++cand1 d k++[cS 5 0 0 [] [((16:Int),((4:Int),()))]]++[cS 5 0 0 [] [((32:Int),((3:Int),())),((16:Int),((5:Int),()))]]).length+1)=true:=lim_short (by simp;omega)
   simp only [e,q1,q2,q3,cond_true,hlag.1,Option.bind_some,if_pos h,lagC]
   cases (lagP d).2<;>simp
  ·have e:decide (k≥2)=false:=decide_eq_false h
   simp only [e,cond_false,if_neg h,List.append_nil]
 have s3:(bif decide (k≥3) then ((iter F_sub_candidates_l0 ((0:Int),(cand0 d++(cand1 d k++cand2 d k),(d,())))).bind fun w7=>(F_sub_candidates_1 ((1:Int),((12:Int),(w7.2.1,w7.1)))).bind fun y8=>(F_sub_candidates_1 ((2:Int),((12:Int),(y8.1,y8.2)))).bind fun y9=>
    (F_sub_candidates_1 ((12:Int),((14:Int),(y9.1,y9.2)))).bind fun y10=>(F_sub_candidates_1 ((16:Int),((14:Int),(y10.1,y10.2)))).bind fun y11=>some (y11.2,())) else some (cand0 d++(cand1 d k++cand2 d k),()):Option ((List Sub)×Unit))=some (candL d k,()):=by
  unfold candL cand3
  by_cases h:3≤k
  ·have e:decide (k≥3)=true:=decide_eq_true h
   simp only [e,cond_true,cand_fixed (L:=cand0 d++(cand1 d k++cand2 d k)) (by simp;omega),Option.bind_some,if_pos h]
   rw [c1 _ (by simp;omega)]
   simp only [Option.bind_some]
   rw [c2 _ (by simp;omega)]
   simp only [Option.bind_some]
   rw [c12 _ (by simp;omega)]
   simp only [Option.bind_some]
   rw [c16 _ (by simp;omega)]
   simp only [Option.bind_some,List.append_assoc]
  ·have e:decide (k≥3)=false:=decide_eq_false h
   simp only [e,cond_false,if_neg h,List.append_nil]
 rw [hF,ho,Option.bind_some,e0]
 simp only []
 rw [s1]
 simp only [Option.bind_some]
 rw [s2]
 simp only [Option.bind_some]
 rw [s3]
 rfl
theorem cand_small {d:List Int} (hw:d.all wideB=true) (hl:d.length≤4096) (hlag:LagOk d) (k:Int):∀ c∈candL d k,SmallS c:=by
 have hlin:∀ (o w:Nat),1≤o→o≤32→2≤w∧w≤16→∀ c∈linC d o w,SmallS c:=fun o w h1 h2 h3 c hc=>by
  obtain ⟨-,g2⟩:=findP_eq hw hl h1 h2 h3
  unfold linC at hc
  cases he:(findP d o w).2.2==0 with
  |false=>rw [he] at hc;simp at hc
  |true=>
   rw [he] at hc
   simp only [cond_true,List.mem_singleton] at hc
   subst hc
   have:=g2 (by simpa using he)
   exact cS_small (by omega) (by simp)
 intro c hc
 simp only [candL,List.mem_append] at hc
 rcases hc with hc|hc|hc|hc
 ·simp only [cand0,List.mem_cons,List.not_mem_nil,or_false] at hc
  rcases hc with rfl|rfl|rfl<;>exact cS_small (by simp) (by simp)
 ·unfold cand1 at hc
  split at hc
  ·simp only [List.mem_append] at hc
   rcases hc with hc|hc
   ·exact hlin 4 12 (by omega) (by omega) (by omega) c hc
   ·exact hlin 8 12 (by omega) (by omega) (by omega) c hc
  ·simp at hc
 ·unfold cand2 at hc
  split at hc
  ·simp only [List.mem_append,List.mem_cons,List.not_mem_nil,or_false] at hc
   rcases hc with (rfl|rfl)|hc
   ·exact cS_small (by simp) (by simp)
   ·exact cS_small (by simp) (by simp)
   ·unfold lagC at hc
    cases hg:(lagP d).2 with
    |false=>rw [hg] at hc;simp at hc
    |true=>
     rw [hg] at hc
     simp only [cond_true,List.mem_singleton] at hc
     subst hc
     exact hlag.2 hg
  ·simp at hc
 ·unfold cand3 at hc
  split at hc
  ·simp only [List.mem_append,fixC,List.mem_map] at hc
   rcases hc with ⟨j,-,rfl⟩|hc|hc|hc|hc
   ·exact cS_small (by simp) (by simp)
   ·exact hlin 1 12 (by omega) (by omega) (by omega) c hc
   ·exact hlin 2 12 (by omega) (by omega) (by omega) c hc
   ·exact hlin 12 14 (by omega) (by omega) (by omega) c hc
   ·exact hlin 16 14 (by omega) (by omega) (by omega) c hc
  ·simp at hc
theorem lag_none {d:List Int} (hl:d.length≤256):F_sub_lagged d=some (zeroO 0,false):=by
 have hF:F_long_Find (d,((16:Int),(256:Int)))=some (0,7):=by
  unfold F_long_Find
  have e1:decide (((d.length:Nat):Int) > 4096)=false:=decide_eq_false (by omega)
  have e2:decide (((d.length:Nat):Int)≤256)=true:=decide_eq_true (by omega)
  simp only [show decide ((16:Int)<2)=false from rfl,show decide ((16:Int) > 256)=false from rfl,show decide ((256:Int) > 1024)=false from rfl,cond_false,e1,Option.bind_some,e2,cond_true]
 unfold F_sub_lagged
 simp only [hF,Option.bind_some,show ((7:Int) != 0)=true from rfl,cond_true]
 rfl
theorem lag_ok {d:List Int} (hl:d.length≤256):LagOk d:=by
 have h:=lag_none hl
 have:lagP d=(zeroO 0,false):=by unfold lagP;rw [h];rfl
 exact ⟨by rw [this];exact h,fun hc=>by rw [this] at hc;cases hc⟩
def stepBst (l:List Int) (a:Int×(Bool×Sub)) (c:Sub):Int×(Bool×Sub):=
 bif (makeP c.1 l c).2 != 0 then a else bif !a.2.1 || decide (costI (makeP c.1 l c).1 (l.length:Int)<a.1) then (costI (makeP c.1 l c).1 (l.length:Int),(true,(makeP c.1 l c).1)) else a
def bestF (l:List Int) (cs:List Sub):Int×(Bool×Sub):=cs.foldl (stepBst l) (0,(false,zeroO 0))
theorem endE_inl {α A β:Type} (g:A→α→A) (fin:A→β):∀ (l:List α) (a:A),endE fin (foldE (fun a x=>.inl (g a x)) l a)=fin (l.foldl g a)
 | [],_=>rfl
 |x::l,a=>endE_inl g fin l (g a x)
theorem makeP_small {k:Int} {l:List Int} {s:Sub} (h:SmallS s):SmallS (makeP k l s).1:=by
 by_cases h0:(makeP k l s).2=0
 ·exact (make_ok h h0).1
 ·have:(makeP k l s).1=zeroO 0:=by
   unfold makeP at h0 ⊢
   split
   ·rfl
   rename_i hc
   rw [if_neg hc] at h0
   split
   ·rfl
   rename_i hw
   rw [if_neg hw] at h0
   split
   ·rename_i k0
    rw [if_pos k0] at h0
    cases hq:l.all (fun x=>x==l.headD 0) with
    |true=>rw [hq] at h0;exact absurd rfl h0
    |false=>rfl
   rename_i k0
   rw [if_neg k0] at h0
   split
   ·rename_i k1
    rw [if_pos k1] at h0
    exact absurd rfl h0
   rename_i k1
   rw [if_neg k1] at h0
   cases hr:restK k s (downN l) with
   |none=>rfl
   |some q=>rw [hr] at h0;exact absurd rfl h0
  rw [this]
  exact zero_small
theorem best_loop {l:List Int} {cs:List Sub} (hs:∀ c∈cs,SmallS c) (hl:l.length≤4096) (hc:cs.length<1000):
  iter F_sub_Best_l0 (l,((0:Int),(false,(cs,(((cs.length:Nat):Int),((0:Int),(zeroO 0,(zeroO 0,()))))))))=some (zeroO 0,((bestF l cs).2.2,())):=by
 have:=iter_list (f:=F_sub_Best_l0) cs (fun i a=>(l,(a.1,(a.2.1,(cs,(((cs.length:Nat):Int),((i:Int),(zeroO 0,(a.2.2,()))))))))) (fun a x=>.inl (stepBst l a x)) (fun _ _=>True) (fun a=>(zeroO 0,(a.2.2,())))
  (fun i hi a _=>by
   refine ⟨fun a' ha'=>?_,fun b hb=>by cases hb⟩
   simp only [Sum.inl.injEq] at ha'
   subst ha'
   refine ⟨?_,trivial⟩
   have hS:=hs _ (List.getElem_mem hi)
   have c1:=cost_eq (makeP_small (k:=cs[i].1) (l:=l) hS) (l.length:Int)
   unfold stepBst
   simp only [F_sub_Best_l0,dlt hi,cond_true,gidx_get hi,Option.bind_some,Make_eq hS cs[i].1 (show l.length≤100000 by omega),c1,wrap_succ (show i<1000000 by omega)]
   cases (makeP cs[i].1 l cs[i]).2 != 0 with
   |true=>rfl
   |false=>
    have hwr:=wrap_succ (show i<1000000 by omega)
    cases ha:a.2.1 with
    |false=>simp only [cond_false,Bool.not_false,Bool.true_or,cond_true,Option.bind_some,hwr]
    |true=>
     simp only [cond_false,Bool.not_true,Bool.false_or,Option.bind_some]
     cases decide (costI (makeP cs[i].1 l cs[i]).1 (l.length:Int)<a.1)<;>simp only [cond_false,cond_true,hwr,ha])
  (fun a _=>by simp only [F_sub_Best_l0,dge,cond_false]) (a:=((0:Int),(false,zeroO 0))) trivial
 simp only [Int.natCast_zero] at this
 rw [this,endE_inl]
 rfl
theorem Best_eq {l:List Int} (h1:1≤l.length) (h2:l.length≤4096) (hw:l.all wideB=true) (hlag:LagOk (downN l)) {k:Int} (h0:0≤k) (h3:k≤3):
  F_sub_Best (l,k)=some ((bestF l (candL (downN l) k)).2.2,0):=by
 have hs:short l:=by unfold short;omega
 obtain ⟨w1,w3,-⟩:=waste_facts hs hw
 obtain ⟨d1,d2,d3,-⟩:=down_facts h2 hw
 have e1:decide (((l.length:Nat):Int)<1)=false:=decide_eq_false (by omega)
 have e2:decide (((l.length:Nat):Int) > 4096)=false:=decide_eq_false (by omega)
 have e3:decide (k<0)=false:=decide_eq_false (by omega)
 have e4:decide (k > 3)=false:=decide_eq_false (by omega)
 have hlen:(candL (downN l) k).length<1000:=by
  have g:=fun o w=>linC_len (downN l) o w
  have q1:=g 4 12;have q2:=g 8 12;have q3:=g 1 12;have q4:=g 2 12;have q5:=g 12 14;have q6:=g 16 14
  have hlc:(lagC (downN l)).length≤1:=by unfold lagC;cases (lagP (downN l)).2<;>simp
  simp only [candL,cand0,cand1,cand2,cand3,List.length_append]
  split<;>split<;>split<;>simp [fixC]<;>omega
 have hb:=best_loop (l:=l) (cand_small d2 (by omega) hlag k) h2 hlen
 have hz:zeroO 0=((0:Int),((0:Int),((0:Int),((0:Int),((0:Int),(([]:(List Int)),(List.replicate 3 (0:Int),(([]:(List (Int×(Int×Unit)))),(([]:(List Int)),(((0:Int),(([]:(List Int)),())),(([]:(List Int)),()))))))))))):=rfl
 unfold F_sub_Best
 simp only [←hz,e1,e2,e3,e4,cond_false,Option.bind_some,sub_allWide_eq hs,hw,Bool.not_true,w1,sample_Down_eq w3 (show l.length<100000 by omega),d1,resB,show ((0:Int) != 0)=false from rfl,cand_eq d2 (show (downN l).length≤4096 by omega) hlag,hb]
end Go.Ab
namespace Go.Ab
theorem putL_add (v:Int) (n:Nat) (L:List Int):(putL v n L).length=L.length+(putL v n []).length:=by
 unfold putL
 cases (gshr .u64 v (n:Int) != 0)<;>simp
theorem putsL_add (n:Nat):∀ (l L:List Int),(putsL n l L).length=L.length+(putsL n l []).length
 | [],L=>by simp [putsL]
 |x::l,L=>by
  show (putsL n l (putL (maskS x n) n L)).length=L.length+(putsL n l (putL (maskS x n) n [])).length
  rw [putsL_add n l,putsL_add n l (putL (maskS x n) n []),putL_add]
  omega
theorem stagesL_add:∀ (st:List Stg) (L:List Int),(stagesL st L).length=L.length+(stagesL st []).length
 | [],L=>by simp [stagesL]
 |s::st,L=>by
  show (stagesL st (stageL s L)).length=L.length+(stagesL st (stageL s [])).length
  rw [stagesL_add st,stagesL_add st (stageL s [])]
  unfold stageL
  rw [putL_add,putL_add _ 5 L,putL_add _ 4 (putL _ 5 [])]
  omega
theorem coefsL_add (s:Sub) (L:List Int):(coefsL s L).length=L.length+(coefsL s []).length:=by
 unfold coefsL
 rw [putsL_add,putL_add,putL_add _ 4,putL_add _ 5 L]
 conv=>rhs;rw [putsL_add,putL_add,putL_add _ 4]
 omega
theorem kindL_add (s:Sub) (L:List Int):(kindL s L).length=L.length+(kindL s []).length:=by
 unfold kindL
 split
 ·rw [putL_add]
 split
 ·rw [coefsL_add]
 split
 ·rw [coefsL_add,putsL_add,putL_add]
  conv=>rhs;rw [coefsL_add,putsL_add]
  omega
 split
 ·rw [stagesL_add,putL_add]
  conv=>rhs;rw [stagesL_add]
  omega
 ·simp
theorem head_len {s:Sub} (hk:0≤s.1∧s.1≤5) (hw:0≤s.2.1∧s.2.1≤30) (ha:s.2.2.2.2.2.2.2.2.1.all wideB=true) (L:List Int):(headL s L).length=L.length+13:=by
 obtain ⟨K,hK⟩:=Int.eq_ofNat_of_zero_le hk.1
 obtain ⟨w,hw'⟩:=Int.eq_ofNat_of_zero_le hw.1
 have:=widthN_wide ha
 unfold headL
 rw [hK,hw',wrapu_nat (q:=K) (by omega),wrapu_nat (q:=w) (by omega),putL_len (n:=5) (by omega) (by omega),putL_len (n:=5) (by omega) (by omega),putL_len (n:=3) (by omega) (by omega)]
def lenS (s:Sub) (zn:List Nat):Nat:=
 13+(kindL s []).length+widthN s.2.2.2.2.2.2.2.2.1*s.2.2.2.2.2.2.2.2.1.length+if s.1=0∨s.1=1 then 0 else 4+partsC zn s.2.2.2.2.2.2.2.2.2.1.2.1 s.2.2.2.2.2.2.2.2.2.2.1
theorem kind_range {k n:Int} {s:Sub} (h:fitP k s n):0≤k∧k≤5:=by
 rcases h with h|h|⟨h,-⟩|⟨h,-⟩|⟨h,-⟩|⟨h,-⟩<;>omega
theorem subO_stated {s:Sub} {n:Int} (h:(subO s n).isSome=true):statedP s n:=by
 unfold subO at h
 split at h
 ·assumption
 ·cases h
theorem put_len {s:Sub} {n:Int} (h:(subO s n).isSome=true) {zn:List Nat} (hz:s.1≠0∧s.1≠1→PartsOk s.2.2.2.2.2.2.2.2.2.1 n ((s.2.2.2.2.2.2.2.2.1.length:Nat):Int) s.2.2.2.2.2.2.2.2.2.2.1 zn) (L:List Int):
  (putSubL s zn L).length=L.length+lenS s zn:=by
 obtain ⟨h1,h2,hf,-,h5,h6,-,-,hw,-⟩:=subO_stated h
 have hwd:=widthN_wide hw
 have hh:=head_len (kind_range hf) ⟨h5,h6⟩ hw L
 unfold putSubL lenS
 by_cases hk:s.1=0∨s.1=1
 ·rw [if_pos hk,if_pos hk,putsL_len (by omega),kindL_add,hh]
  omega
 ·rw [if_neg hk,if_neg hk,partsPutL_len (hz (not_or.1 hk)),putsL_len (by omega),kindL_add,hh]
  omega
theorem costI_eq {s:Sub} (h:SmallS s) {n:Int} (hs:(subO s n).isSome=true):∃ zn,costI s n=((lenS s zn:Nat):Int)∧(s.1≠0∧s.1≠1→PartsOk s.2.2.2.2.2.2.2.2.2.1 n ((s.2.2.2.2.2.2.2.2.1.length:Nat):Int) s.2.2.2.2.2.2.2.2.2.2.1 zn):=by
 obtain ⟨e,L',-,-,-,h4,-⟩:=sub_Put_ex h (n:=n) (L:=[]) (by simp)
 obtain ⟨-,zn,-,hz⟩:=h4 hs
 refine ⟨zn,?_,hz⟩
 unfold costI
 rw [if_pos hs,←zn_same hz,put_len hs hz]
 simp
theorem cost_waste {s:Sub} {w w':Nat} {wm r:List Int} {p:Prt} {n:Int} (h:SmallS (fillP s w wm p r)) (h':SmallS (fillP s w' wm p r)) (hs:(subO (fillP s w wm p r) n).isSome=true) (hs':(subO (fillP s w' wm p r) n).isSome=true):
  costI (fillP s w wm p r) n=costI (fillP s w' wm p r) n:=by
 obtain ⟨z,h1,h2⟩:=costI_eq h hs
 obtain ⟨z',g1,g2⟩:=costI_eq h' hs'
 rw [h1,g1]
 have hk:kindL (fillP s w wm p r) []=kindL (fillP s w' wm p r) []:=rfl
 by_cases hk01:s.1=0∨s.1=1
 ·unfold lenS
  rw [hk]
  have e1:(fillP s w wm p r).1=0∨(fillP s w wm p r).1=1:=hk01
  have e2:(fillP s w' wm p r).1=0∨(fillP s w' wm p r).1=1:=hk01
  rw [if_pos e1,if_pos e2]
  rfl
 ·have:=zn_unique (h2 (not_or.1 hk01)) (g2 (not_or.1 hk01))
  subst this
  unfold lenS
  rw [hk]
  rfl
theorem up_waste {l m:List Int} {n w:Nat} (hw:l.all wideB=true) (hm:upO (n:Int) l=some m) (hn:n≤30) (hl:WasteIs l w) (hne:∃ x∈l,x≠0):
  WasteIs m (w+n)∧m.all wideB=true∧m=l.map (fun x=>x*((2^n:Nat):Int)):=by
 have hall:l.all (fun x=>wideB x&&wideB (gshl .i64 x (n:Int)))=true∧m=l.map fun x=>gshl .i64 x (n:Int):=by
  unfold upO at hm
  cases hc:l.all (fun x=>wideB x&&wideB (gshl .i64 x (n:Int))) with
  |false=>rw [hc] at hm;cases hm
  |true=>rw [hc] at hm;simp only [cond_true,sj] at hm;exact ⟨rfl,hm.symm⟩
 obtain ⟨hall,rfl⟩:=hall
 have h30:((2^n:Nat):Int)≤1073741824:=by
  have:2^n≤2^30:=Nat.pow_le_pow_right (by omega) hn
  omega
 have hpos:(1:Int)≤((2^n:Nat):Int):=by have:=Nat.two_pow_pos n;omega
 have hsh:∀ x∈l,gshl .i64 x (n:Int)=x*((2^n:Nat):Int):=fun x hx=>by
  have hwx:=wideB_iff.1 (List.all_eq_true.1 hw x hx)
  have e:min (Int.toNat (n:Int)) (IntKind.bits .i64)=n:=by simp only [Int.toNat_natCast,IntKind.bits];omega
  unfold gshl
  rw [e]
  have ep:(2:Int)^n=((2^n:Nat):Int):=by simp
  rw [ep]
  have b1:x*((2^n:Nat):Int)≤1073741824*1073741824:=by
   by_cases h0:0≤x
   ·exact Int.mul_le_mul (by omega) h30 (by omega) (by omega)
   ·have:=Int.mul_nonneg (show 0≤-x by omega) (show 0≤((2^n:Nat):Int) by omega)
    rw [Int.neg_mul] at this
    omega
  have b2:-(1073741824*1073741824)≤x*((2^n:Nat):Int):=by
   by_cases h0:0≤x
   ·have:=Int.mul_nonneg h0 (show 0≤((2^n:Nat):Int) by omega)
    omega
   ·have:(-x)*((2^n:Nat):Int)≤1073741824*1073741824:=Int.mul_le_mul (by omega) h30 (by omega) (by omega)
    rw [Int.neg_mul] at this
    omega
  exact wrap64 (by omega)
 have hwm:(l.map fun x=>gshl .i64 x (n:Int)).all wideB=true:=by
  rw [List.all_map]
  refine List.all_eq_true.2 fun x hx=>?_
  have:=List.all_eq_true.1 hall x hx
  simp only [Bool.and_eq_true] at this
  exact this.2
 have em:(l.map fun x=>gshl .i64 x (n:Int))=l.map (fun x=>x*((2^n:Nat):Int)):=List.map_congr_left hsh
 rcases hl with ⟨h0,-⟩|⟨-,hw30,hdv,hex⟩
 ·obtain ⟨x,hx,hx0⟩:=hne
  exact absurd (h0 x hx) hx0
 refine ⟨.inr ⟨?_,?_,?_,?_⟩,hwm,em⟩
 ·obtain ⟨x,hx,hx0⟩:=hne
  refine ⟨_,List.mem_map_of_mem hx,?_⟩
  rw [hsh x hx]
  exact Int.mul_ne_zero hx0 (by omega)
 ·
  obtain ⟨x,hx,hx0⟩:=hne
  refine Nat.le_of_not_lt fun hlt=>?_
  have hd:((2^(w+n):Nat):Int) ∣ x*((2^n:Nat):Int):=by
   rw [Nat.pow_add,Int.natCast_mul]
   exact Int.mul_dvd_mul_right _ (hdv x hx)
  have hd2:((2^31:Nat):Int) ∣ x*((2^n:Nat):Int):=pow_dvd_le (by omega) hd
  have hwx:=List.all_eq_true.1 hwm _ (List.mem_map_of_mem (f:=fun x=>gshl .i64 x (n:Int)) hx)
  rw [hsh x hx] at hwx
  have hwx:=wideB_iff.1 hwx
  have hne0:x*((2^n:Nat):Int)≠0:=Int.mul_ne_zero hx0 (by omega)
  generalize x*((2^n:Nat):Int)=y at hd2 hwx hne0
  rw [show ((2^31:Nat):Int)=2147483648 from rfl] at hd2
  omega
 ·intro y hy
  obtain ⟨x,hx,rfl⟩:=List.mem_map.1 hy
  rw [hsh x hx,Nat.pow_add,Int.natCast_mul]
  exact Int.mul_dvd_mul_right _ (hdv x hx)
 ·by_cases h:w+n=30
  ·exact .inl h
  ·refine .inr ?_
   rcases hex with hex|⟨x,hx,hnd⟩
   ·
    exfalso
    obtain ⟨x,hx,hx0⟩:=hne
    have hd:((2^(w+n):Nat):Int) ∣ x*((2^n:Nat):Int):=by
     rw [Nat.pow_add,Int.natCast_mul]
     exact Int.mul_dvd_mul_right _ (hdv x hx)
    have hd2:((2^31:Nat):Int) ∣ x*((2^n:Nat):Int):=pow_dvd_le (by omega) hd
    have hwx:=List.all_eq_true.1 hwm _ (List.mem_map_of_mem (f:=fun x=>gshl .i64 x (n:Int)) hx)
    rw [hsh x hx] at hwx
    have hwx:=wideB_iff.1 hwx
    have hne0:x*((2^n:Nat):Int)≠0:=Int.mul_ne_zero hx0 (by omega)
    generalize x*((2^n:Nat):Int)=y at hd2 hwx hne0
    rw [show ((2^31:Nat):Int)=2147483648 from rfl] at hd2
    omega
   ·refine ⟨_,List.mem_map_of_mem hx,?_⟩
    rw [hsh x hx]
    rw [show w+n+1=(w+1)+n by omega,Nat.pow_add,Int.natCast_mul]
    intro hd
    exact hnd (Int.dvd_of_mul_dvd_mul_right (by omega) hd)
theorem up_down {l m:List Int} {n w:Nat} (hmap:m=l.map (fun x=>x*((2^n:Nat):Int))) (hn:n≤30) (hw30:w+n≤30) (hdv:∀ x∈l,((2^w:Nat):Int) ∣ x):
  (m.map fun x=>gshr .i64 x ((w+n:Nat):Int))=l.map fun x=>gshr .i64 x (w:Int):=by
 subst hmap
 rw [List.map_map]
 refine List.map_congr_left fun x hx=>?_
 obtain ⟨c,rfl⟩:=hdv x hx
 rw [gshr_mul (by omega)]
 show gshr .i64 (((2^w:Nat):Int)*c*((2^n:Nat):Int)) ((w+n:Nat):Int)=c
 have e:((2^w:Nat):Int)*c*((2^n:Nat):Int)=((2^(w+n):Nat):Int)*c:=by
  rw [Nat.pow_add,Int.natCast_mul,Int.mul_assoc,Int.mul_comm c,Int.mul_assoc]
 rw [e,gshr_mul (by omega)]
end Go.Ab
namespace Go.Ab
def addW (n:Nat) (s:Sub):Sub:=(s.1,(s.2.1+(n:Int),s.2.2))
theorem add_fill (s:Sub) (w n:Nat) (wm:List Int) (p:Prt) (r:List Int):addW n (fillP s w wm p r)=fillP s (w+n) wm p r:=by
 unfold addW fillP
 rw [Int.natCast_add]
structure Shifted (l m:List Int) (n:Nat):Prop where
 len:m.length=l.length
 wl:l.all wideB=true
 wm:m.all wideB=true
 down:downN m=downN l
 waste:wasN m=wasN l+n
 fl:l.all (fun x=>x==l.headD 0)=false
 fm:m.all (fun x=>x==m.headD 0)=false
theorem make_shift {l m:List Int} {n:Nat} (h:Shifted l m n) (k:Int) (s:Sub):makeP k m s=if (makeP k l s).2=0 then (addW n (makeP k l s).1,0) else makeP k l s:=by
 unfold makeP
 rw [h.len,h.wl,h.wm,h.fl,h.fm,h.down,h.waste]
 by_cases hc:1≤l.length∧l.length≤4096∧fitP k s (l.length:Int)
 rotate_left
 ·simp only [hc,not_false_eq_true,if_true,show ¬ (1:Int)=0 by decide,if_false]
 by_cases k0:k=0
 ·subst k0
  simp only [hc,and_self,not_true_eq_false,if_false,Bool.true_eq_false,if_true,cond_false,show ¬ (7:Int)=0 by decide]
 by_cases k1:k=1
 ·subst k1
  simp only [hc,and_self,not_true_eq_false,if_false,Bool.true_eq_false,if_true,show ¬ (1:Int)=0 by decide,add_fill]
 simp only [hc,and_self,not_true_eq_false,if_false,Bool.true_eq_false,k0,k1]
 cases restK k s (downN l) with
 |none=>rfl
 |some q=>simp only [if_true,add_fill]
theorem cost_shift {l m:List Int} {n:Nat} (h:Shifted l m n) {k:Int} {s:Sub} (hS:SmallS s) (h0:(makeP k l s).2=0):costI (makeP k m s).1 (l.length:Int)=costI (makeP k l s).1 (l.length:Int):=by
 have e:=make_shift h k s
 rw [if_pos h0] at e
 have h0':(makeP k m s).2=0:=by rw [e]
 obtain ⟨a1,-,-,a4⟩:=make_ok hS h0
 obtain ⟨b1,-,-,b4⟩:=make_ok hS h0'
 rw [h.len] at b4
 have e1:(makeP k m s).1=addW n (makeP k l s).1:=by rw [e]
 obtain ⟨-,-,-,-,hc⟩:=make_cases h0
 rcases hc with ⟨-,hall,-⟩|⟨-,e2⟩|⟨-,wm,r,-,e2⟩
 ·rw [h.fl] at hall;cases hall
 ·rw [e2,add_fill] at e1
  rw [e1] at b1 b4 ⊢
  rw [e2] at a1 a4 ⊢
  exact (cost_waste a1 b1 (by rw [a4];rfl) (by rw [b4];rfl)).symm
 ·rw [e2,add_fill] at e1
  rw [e1] at b1 b4 ⊢
  rw [e2] at a1 a4 ⊢
  exact (cost_waste a1 b1 (by rw [a4];rfl) (by rw [b4];rfl)).symm
theorem best_shift {l m:List Int} {n:Nat} (h:Shifted l m n):∀ (cs:List Sub) (a b:Int×(Bool×Sub)),(∀ c∈cs,SmallS c)→b.1=a.1→b.2.1=a.2.1→(b.2.2=bif a.2.1 then addW n a.2.2 else a.2.2)→
  (cs.foldl (stepBst m) b).2.1=(cs.foldl (stepBst l) a).2.1∧((cs.foldl (stepBst m) b).2.2=bif (cs.foldl (stepBst l) a).2.1 then addW n (cs.foldl (stepBst l) a).2.2 else (cs.foldl (stepBst l) a).2.2)
 | [],a,b,_,_,h2,h3=>⟨h2,h3⟩
 |c::cs,a,b,hs,h1,h2,h3=>by
  have hS:=hs c List.mem_cons_self
  have hcs:∀ c∈cs,SmallS c:=fun c hc=>hs c (List.mem_cons_of_mem _ hc)
  simp only [List.foldl_cons]
  have e:=make_shift h c.1 c
  by_cases h0:(makeP c.1 l c).2=0
  ·rw [if_pos h0] at e
   have hcost:=cost_shift h hS h0
   have n1:((makeP c.1 l c).2 != 0)=false:=by rw [h0];rfl
   have n2:((makeP c.1 m c).2 != 0)=false:=by rw [e];rfl
   have e1:(makeP c.1 m c).1=addW n (makeP c.1 l c).1:=by rw [e]
   have ea:stepBst l a c=bif !a.2.1 || decide (costI (makeP c.1 l c).1 (l.length:Int)<a.1) then (costI (makeP c.1 l c).1 (l.length:Int),(true,(makeP c.1 l c).1)) else a:=by unfold stepBst;rw [n1,cond_false]
   have eb:stepBst m b c=bif !a.2.1 || decide (costI (makeP c.1 l c).1 (l.length:Int)<a.1) then (costI (makeP c.1 l c).1 (l.length:Int),(true,addW n (makeP c.1 l c).1)) else b:=by unfold stepBst;rw [n2,cond_false,h2,h1,h.len,hcost,e1]
   rw [ea,eb]
   cases (!a.2.1 || decide (costI (makeP c.1 l c).1 (l.length:Int)<a.1)) with
   |true=>exact best_shift h cs _ _ hcs rfl rfl rfl
   |false=>exact best_shift h cs a b hcs h1 h2 h3
  ·rw [if_neg h0] at e
   have n1:((makeP c.1 l c).2 != 0)=true:=by simpa using h0
   have n2:((makeP c.1 m c).2 != 0)=true:=by rw [e];exact n1
   have ea:stepBst l a c=a:=by unfold stepBst;rw [n1,cond_true]
   have eb:stepBst m b c=b:=by unfold stepBst;rw [n2,cond_true]
   rw [ea,eb]
   exact best_shift h cs a b hcs h1 h2 h3
structure BestIs (l:List Int) (cs:List Sub) (a:Int×(Bool×Sub)):Prop where
 one:a.2.1=true→∃ c∈cs,(makeP c.1 l c).2=0∧a.2.2=(makeP c.1 l c).1∧a.1=costI a.2.2 (l.length:Int)
 least:∀ c∈cs,(makeP c.1 l c).2=0→a.2.1=true∧a.1≤costI (makeP c.1 l c).1 (l.length:Int)
theorem best_is_from {l:List Int}:∀ (cs ds:List Sub) (a:Int×(Bool×Sub)),BestIs l ds a→BestIs l (ds++cs) (cs.foldl (stepBst l) a)
 | [],ds,a,h=>by rw [List.append_nil];exact h
 |c::cs,ds,a,h=>by
  rw [List.foldl_cons,show ds++c::cs=(ds++[c])++cs by simp]
  refine best_is_from cs (ds++[c]) _ ?_
  unfold stepBst
  by_cases h0:(makeP c.1 l c).2=0
  ·have n1:((makeP c.1 l c).2 != 0)=false:=by rw [h0];rfl
   rw [n1,cond_false]
   cases hq:(!a.2.1 || decide (costI (makeP c.1 l c).1 (l.length:Int)<a.1)) with
   |true=>
    refine ⟨fun _=>⟨c,by simp,h0,rfl,rfl⟩,fun d hd hd0=>⟨rfl,?_⟩⟩
    rcases List.mem_append.1 hd with hd|hd
    ·obtain ⟨g1,g2⟩:=h.least d hd hd0
     rw [g1] at hq
     simp only [Bool.not_true,Bool.false_or,decide_eq_true_eq] at hq
     exact Int.le_trans (Int.le_of_lt hq) g2
    ·simp only [List.mem_singleton] at hd
     subst hd
     exact Int.le_refl _
   |false=>
    simp only [Bool.or_eq_false_iff,Bool.not_eq_false',decide_eq_false_iff_not] at hq
    refine ⟨fun ht=>?_,fun d hd hd0=>?_⟩
    ·obtain ⟨d,hd,g⟩:=h.one ht
     exact ⟨d,List.mem_append_left _ hd,g⟩
    ·rcases List.mem_append.1 hd with hd|hd
     ·exact h.least d hd hd0
     ·simp only [List.mem_singleton] at hd
      subst hd
      exact ⟨hq.1,Int.not_lt.1 hq.2⟩
  ·have n1:((makeP c.1 l c).2 != 0)=true:=by simpa using h0
   rw [n1,cond_true]
   refine ⟨fun ht=>?_,fun d hd hd0=>?_⟩
   ·obtain ⟨d,hd,g⟩:=h.one ht
    exact ⟨d,List.mem_append_left _ hd,g⟩
   ·rcases List.mem_append.1 hd with hd|hd
    ·exact h.least d hd hd0
    ·simp only [List.mem_singleton] at hd
     subst hd
     exact absurd hd0 h0
theorem best_is (l:List Int) (cs:List Sub):BestIs l cs (bestF l cs):=
 best_is_from cs [] _ ⟨fun h=>(by cases h),fun _ h=>(by cases h)⟩
theorem make_plain {l:List Int} (h1:1≤l.length) (h2:l.length≤4096) (hw:l.all wideB=true):makeP 1 l (cS 1 0 0 [] [])=(fillP (chosenP 1 (cS 1 0 0 [] [])) (wasN l) (downN l) z0 [],0):=by
 unfold makeP
 rw [if_neg (fun q=>q ⟨h1,h2,.inr (.inl rfl)⟩),if_neg (by rw [hw];decide),if_neg (by decide),if_pos rfl]
theorem best_found {l:List Int} (h1:1≤l.length) (h2:l.length≤4096) (hw:l.all wideB=true) (d:List Int) (k:Int):(bestF l (candL d k)).2.1=true:=
 ((best_is l (candL d k)).least (cS 1 0 0 [] []) (by simp [candL,cand0]) (by rw [show (cS 1 0 0 [] []).1=1 from rfl,make_plain h1 h2 hw])).1
theorem and3 (y:Int):bits .i64 .and y 3=y%4:=by
 have h:((BitVec.ofInt 64 y) &&& (BitVec.ofInt 64 3)).toNat=(y%18446744073709551616).toNat%4:=by
  rw [BitVec.toNat_and,BitVec.toNat_ofInt]
  have e:(BitVec.ofInt 64 3).toNat=2^2-1:=by decide
  rw [e,Nat.and_two_pow_sub_one_eq_mod]
  rfl
 show IntKind.wrap .i64 ((((BitVec.ofInt 64 y) &&& (BitVec.ofInt 64 3)).toNat:Nat):Int)=_
 rw [h,wrap64 (by omega)]
 omega
theorem shifts_flat {l:List Int} {a b:Int} (h1:1≤l.length) (hs:short l):iter F_l15_SubShifts_l0 (l,(a,(b,(true,((1:Int),())))))=some (l,(a,(b,(l.all (fun x=>x==l.headD 0),())))):=by
 have hs':l.length<1000000:=hs
 have ht:∀ i (h:i<l.length),(l.take (i+1)).all (fun x=>x==l.headD 0)=((l.take i).all (fun x=>x==l.headD 0)&&(l[i]==l.headD 0)):=fun i h=>by
  rw [←take_snoc h,List.all_append]
  simp
 have:=iter_count (f:=F_l15_SubShifts_l0) (fun j:Nat=>(l,(a,(b,((l.take (j+1)).all (fun x=>x==l.headD 0),(((j+1:Nat):Int),())))))) (l.length-1) (b:=(l,(a,(b,(l.all (fun x=>x==l.headD 0),())))))
  (fun j hj=>by
   have h2:j+1<l.length:=by omega
   rw [ht (j+1) h2]
   cases (l.take (j+1)).all (fun x=>x==l.headD 0) with
   |true=>simp only [F_l15_SubShifts_l0,dlt h2,cond_true,gidx_get h2,gidx0 h1,Option.bind_some,Bool.true_and,wrap_succ (show j+1<1000000 by omega)]
   |false=>simp only [F_l15_SubShifts_l0,dlt h2,cond_true,cond_false,Bool.false_and,wrap_succ (show j+1<1000000 by omega)])
  (by
   have d0:decide (((l.length-1+1:Nat):Int)<((l.length:Nat):Int))=false:=decide_eq_false (by omega)
   simp only [F_l15_SubShifts_l0,d0,cond_false]
   rw [List.take_of_length_le (by omega)])
 have e1:(l.take (0+1)).all (fun x=>x==l.headD 0)=true:=by cases l<;>simp
 rw [e1] at this
 exact this
theorem law_SubShifts (x:List Int×(Int×Int)) (hu:0≤x.2.2∧x.2.2≤255):F_l15_SubShifts x=some true:=by
 obtain ⟨l,e,u⟩:=x
 simp only at hu
 unfold F_l15_SubShifts
 simp only [known_true,Option.bind_some,Bool.not_true,cond_false]
 by_cases h2:l.length<2
 ·have q:decide (((l.length:Nat):Int)<2)=true:=decide_eq_true (by omega)
  simp only [q,cond_true,Option.bind_some]
 have q2:decide (((l.length:Nat):Int)<2)=false:=decide_eq_false (by omega)
 by_cases h50:l.length > 50
 ·have q:decide (((l.length:Nat):Int) > 50)=true:=decide_eq_true (by omega)
  simp only [q2,q,cond_false,cond_true,Option.bind_some]
 have q50:decide (((l.length:Nat):Int) > 50)=false:=decide_eq_false (by omega)
 have hs:short l:=by unfold short;omega
 cases hw:l.all wideB with
 |false=>simp only [q2,q50,cond_false,ref_AllWide_eq hs,hw,Option.bind_some,Bool.not_false,cond_true]
 |true=>
  have hk:bits .i64 .and e 3=e%4:=and3 e
  have hu8:Int.tmod (IntKind.wrap .i64 u) 8=((u.toNat%8:Nat):Int):=by
   rw [wrap64 (by omega),Int.tmod_eq_emod_of_nonneg (by omega)];omega
  simp only [q2,q50,cond_false,ref_AllWide_eq hs,hw,Option.bind_some,Bool.not_true,shifts_flat (show 1≤l.length by omega) hs,hu8,hk]
  have hn:u.toNat%8≤7:=by omega
  generalize u.toNat%8=n at hn
  rw [ref_Up_eq (l:=l) (by omega) (by omega) (by omega)]
  cases hf:l.all (fun x=>x==l.headD 0) with
  |true=>rfl
  |false=>
   cases hm:upO (n:Int) l with
   |none=>rfl
   |some m=>
    simp only [Option.bind_some,cond_false,resB,show ((0:Int) != 0)=false from rfl]

    have hne:∃ x∈l,x≠0:=by
     refine Classical.byContradiction fun hc=>?_
     have h0:∀ x∈l,x=0:=fun x hx=>Classical.byContradiction fun hn=>hc ⟨x,hx,hn⟩
     have:l.all (fun x=>x==l.headD 0)=true:=by
      refine List.all_eq_true.2 fun x hx=>?_
      have hd:l.headD 0=0:=by
       cases l with
       |nil=>rfl
       |cons a l=>exact h0 _ List.mem_cons_self
      rw [hd,h0 x hx];rfl
     rw [hf] at this;cases this
    obtain ⟨-,w3,w4⟩:=waste_facts hs hw
    obtain ⟨u1,u2,u3⟩:=up_waste hw hm (by omega) w4 hne
    have hlen:m.length=l.length:=by rw [u3];simp
    have hwm:=wasN_eq u1
    have hw30:wasN l+n≤30:=by rw [←hwm];exact (waste_facts (show short m by unfold short;omega) u2).2.1
    have hdv:∀ x∈l,((2^wasN l:Nat):Int) ∣ x:=by
     rcases w4 with ⟨g,-⟩|⟨-,-,g,-⟩
     ·exact fun x hx=>by rw [g x hx];exact Int.dvd_zero _
     ·exact g
    have hfm:m.all (fun x=>x==m.headD 0)=false:=by
     cases hc:m.all (fun x=>x==m.headD 0) with
     |false=>rfl
     |true=>
      rw [u3] at hc
      have:l.all (fun x=>x==l.headD 0)=true:=by
       refine List.all_eq_true.2 fun x hx=>?_
       have h:=List.all_eq_true.1 hc _ (List.mem_map_of_mem hx)
       have hd:(l.map fun x=>x*((2^n:Nat):Int)).headD 0=l.headD 0*((2^n:Nat):Int):=by cases l<;>simp
       rw [hd] at h
       have h:x*((2^n:Nat):Int)=l.headD 0*((2^n:Nat):Int):=by simpa using h
       have:=Int.eq_of_mul_eq_mul_right (by have:=Nat.two_pow_pos n;omega) h
       simpa using this
      rw [hf] at this;cases this
    have hsh:Shifted l m n:=⟨hlen,hw,u2,by unfold downN;rw [hwm];exact up_down u3 (by omega) hw30 hdv,hwm,hf,hfm⟩
    have hdl:=(down_facts (show l.length≤4096 by omega) hw).2.2.1
    have hd2:=(down_facts (show l.length≤4096 by omega) hw).2.1
    have hlag:LagOk (downN l):=lag_ok (by omega)
    have b1:=Best_eq (l:=l) (by omega) (by omega) hw hlag (k:=e%4) (by omega) (by omega)
    have b2:=Best_eq (l:=m) (by omega) (by omega) u2 (by rw [hsh.down];exact hlag) (k:=e%4) (by omega) (by omega)
    rw [hsh.down] at b2
    obtain ⟨c1,c2⟩:=best_shift hsh (candL (downN l) (e%4)) (0,(false,zeroO 0)) (0,(false,zeroO 0)) (cand_small hd2 (by omega) hlag _) rfl rfl rfl
    have hfd:=best_found (show 1≤l.length by omega) (show l.length≤4096 by omega) hw (downN l) (e%4)
    have hbm:(bestF m (candL (downN l) (e%4))).2.2=addW n (bestF l (candL (downN l) (e%4))).2.2:=by
     have:(List.foldl (stepBst l) (0,(false,zeroO 0)) (candL (downN l) (e%4))).2.1=true:=hfd
     rw [this] at c2
     exact c2
    obtain ⟨c,hc,g0,g1,-⟩:=(best_is l (candL (downN l) (e%4))).one hfd
    have hSc:=cand_small hd2 (by omega) hlag _ c hc
    obtain ⟨f1,-,f3,-⟩:=make_ok hSc g0
    rw [←g1] at f1 f3
    simp only [hk,b1,b2,Option.bind_some,hbm]
    generalize (bestF l (candL (downN l) (e%4))).2.2=s at f1 f3
    have hws:=f3
    obtain ⟨-,-,-,-,t5,t6,-⟩:=hws
    have hwr:IntKind.wrap .i64 (s.2.1+(n:Int))=s.2.1+(n:Int):=wrap64 (by omega)
    have hS2:SmallS (addW n s):=⟨f1.coefs,f1.taps,f1.stages,f1.warm,f1.rest,f1.ks⟩
    have ea:(s.1,(IntKind.wrap .i64 (s.2.1+(n:Int)),s.2.2))=addW n s:=by rw [hwr];rfl
    have hsame:=SameSub_eq (a:=addW n s) (b:=addW n s) hS2
    have hcs:=cost_eq hS2 ((l.length:Nat):Int)
    simp only [show ((0:Int)==0)=true from rfl,cond_true,ea,hsame,decide_true,Option.bind_some,hcs,beq_self_eq_true]
end Go.Ab
namespace Go.Proofs.YtoklkmdhpjocgaaGreatDoor
open Go.Ab Go.ChangeShapes Go.WideShapes Go.ChangeAt Go.RowKit
theorem collect_lits {α:Type} {f:Nat→Option (α×Owns×List Nat)}:∀ (L:List α) (i:Nat),(∀ (j:Nat) x,L[j]?=some x→f (i+j)=some (x,[],[]))→collect f L.length i=some (L,[],[])
 | [],_,_=>rfl
 |a::L,i,h=>by
  have h0:=h 0 a rfl
  have h1:=collect_lits L (i+1) (fun j x hx=>by have:=h (j+1) x (by simpa using hx);rw [←this];congr 1;omega)
  simp only [List.length_cons,collect]
  simp only [Nat.add_zero] at h0
  rw [h0,h1]
  rfl
section
variable {H:Type} {enc:TypeId×Value→H} {P:Program} {w:World} {base:Nat} {spare:Nat→Bool} {held:Bool}
theorem cells_of_lits {k:IntKind} {n:Nat} {t e:TypeId} {fuel:Nat} {cs:List Value} {L:List Int} {p:List MemPlace} (ht:P.underlying t=some (.array n e)) (he:P.underlying e=some (.int k)) (hc:P.cellsOf e=1)
  (h:DataW.trod enc P w base spare held fuel t cs=some (.agg (L.map fun i=>.lit (.int k i)),p)):L.length=n∧∀ (j:Nat) x,L[j]?=some x→cs[j]?=some (.int k x):=by
 obtain ⟨xs,m,rfl,hx,-,hn,hel⟩:=DataW.trod_array ht h
 simp only [Prod.mk.injEq,DataW.agg.injEq] at hx
 have hl:L.length=n:=by rw [←hn];simpa using congrArg List.length hx.1
 refine ⟨hl,fun j x hj=>?_⟩
 obtain ⟨hjl,-⟩:=List.getElem?_eq_some_iff.1 hj
 have h1:=hel j (by omega)
 rw [hc] at h1
 obtain ⟨y,hy⟩:∃ y,xs[j]?=some y:=⟨_,List.getElem?_eq_getElem (by omega)⟩
 rw [hy] at h1
 obtain ⟨i,e1,e2,-⟩:=DataW.trod_int he h1
 have h2:=congrArg (fun l=>l[j]?) hx.1
 simp only [List.getElem?_map,hj,hy,Option.map_some,e2] at h2
 simp only [sj,DataW.lit.injEq,Lit.int.injEq,true_and] at h2
 subst h2
 have h3:=congrArg (fun l=>l[0]?) e1
 simpa [List.getElem?_drop,List.getElem?_take] using h3
end
def tabName : String := (Rows.subTellsRow.laid.map Prod.fst).headD ""
theorem gTab:Tryz.prog.globalNamed tabName=some 0:=by kernel_rfl
def tTab:TypeId:=((Tryz.prog.globals[0]?).map (·.type)).getD 0
theorem tTab_eq:(Tryz.prog.globals[0]?).map (·.type)=some tTab:=by kernel_rfl
def eTab:TypeId:=match Tryz.prog.underlying tTab with
 |some (.array _ e)=>e
 |_=>0
theorem uTab:Tryz.prog.underlying tTab=some (.array 64 eTab):=by kernel_rfl
theorem uElem:Tryz.prog.underlying eTab=some (.int .u8):=by kernel_rfl
theorem cElem:Tryz.prog.cellsOf eTab=1:=by kernel_rfl
@[reducible] def laidTab:List (String×DataW Unit):=[(tabName,Rows.laid_math_bits_deBruijn64tab)]

theorem G0_one {g:Nat} {t:Ty} {x:t.den} (h:G0 g=some ⟨t,x⟩):g=0∧(⟨t,x⟩:(t:Ty)×t.den)=⟨.arr 64 (.int .u8),glob0⟩:=by
 unfold G0 find at h
 cases g with
 |zero=>exact ⟨rfl,(Option.some.inj h).symm⟩
 |succ n=>exact absurd h (by simp [find])
theorem glob_of_laid {W:World} (h:laidMetH Tryz.prog laidTab W):∀ g t x,G0 g=some ⟨t,x⟩→g<W.heap.size∧dec (memo W none) t ((Src.at g 0).rd (memo W none))=some (x,[],[]):=by
 rw [MakeChecks.laidMetH_plain _ _ _ (by kernel_rfl)] at h
 obtain ⟨ps,⟨g0,t0,cs0,f0,p0,q0,hg0,ht0,hv0,hd0,_⟩,_,_⟩:=h
 obtain rfl:=Option.some.inj (gTab.symm.trans hg0)
 obtain rfl:=Option.some.inj (tTab_eq.symm.trans ht0)
 have e0:(Rows.laid_math_bits_deBruijn64tab:DataW Unit)=.agg (glob0.map fun i=>.lit (.int .u8 i)):=rfl
 rw [e0] at hd0
 obtain ⟨hl,hc⟩:=cells_of_lits uTab uElem cElem hd0
 have hcell:∀ (j:Nat) x,glob0[j]?=some x→W.cell? ⟨0,j,none⟩=some (.int .u8 x):=fun j x hx=>by
  rw [World.var?_cell hg0 hv0 j]
  simpa using hc j x hx
 intro g t x hG
 obtain ⟨rfl,e⟩:=G0_one hG
 cases e
 refine ⟨cell_lt (hcell 0 0 rfl),?_⟩
 exact collect_lits (f:=fun i=>dec (memo W none) (.int .u8) fun j=>(Src.at 0 0).rd (memo W none) (i*1+j)) glob0 0 (fun j x hx=>by
  have:=hcell j x hx
  simp only [dec,Src.rd,memo,Nat.zero_add,Nat.mul_one,Nat.add_zero,this,if_true])
set_option maxRecDepth 100000 in
theorem door_met (os:Os) (args:Array Value):laidMetH Tryz.prog laidTab ((World.doorLaid Tryz.prog 400 os).forCall (fun _ _=>0) ⟨#[],args,[]⟩).memory:=
 laidMetH_of_parts3 (fuel:=8) (laidMet_of_run' 8 (by kernel_rfl) (by kernel_rfl)) (by kernel_rfl) (by kernel_rfl)
end Go.Proofs.YtoklkmdhpjocgaaGreatDoor
