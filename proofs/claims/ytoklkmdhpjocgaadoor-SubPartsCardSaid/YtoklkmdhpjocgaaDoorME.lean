/- Part of the proof: QK, QO, QP, QQ, QR, QS, QT, QU, QV, QW, QX, QY, R, Z. Conditions: as each statement tells. -/
import Derived.KernelRfl
import Derived.Test.YtoklkmdhpjocgaaDoorRows
import Derived.ProofKit
import Derived.LaidMore
import Derived.LaidLaws
import Derived.LaidHandle
import Derived.LaidByTextLater
import Derived.OpenShut
import Derived.Handed
import Derived.Test.YtoklkmdhpjocgaaDoorMD
noncomputable section
namespace Go.Ab
def castZ (zn:List Nat):List Int:=zn.map fun (a:Nat)=>(a:Int)
theorem sum_replicate (n M:Nat):(List.replicate n M).sum=n*M:=by
 induction n with
 |zero=>simp
 |succ n ih=>rw [List.replicate_succ,List.sum_cons,ih,Nat.succ_mul,Nat.add_comm]
theorem sizes_facts {o n warm:Int} (h:(sizesI o n warm).length≠0):∃ zn:List Nat,sizesI o n warm=castZ zn∧(zn.sum:Int)=n-warm∧zn.length≤256:=by
 unfold sizesI at h ⊢
 cases hr:(rowB n warm&&(decide (0≤o)&&decide (o≤8))) with
 |false=>rw [hr] at h;simp at h
 |true=>
  rw [hr] at h
  simp only [cond_true] at h ⊢
  simp only [rowB,Bool.and_eq_true,decide_eq_true_eq] at hr
  unfold sizesN at h ⊢
  split at h
  ·rename_i hc
   rw [if_pos hc]
   obtain ⟨O,rfl⟩:=Int.eq_ofNat_of_zero_le hr.2.1
   obtain ⟨N,rfl⟩:=Int.eq_ofNat_of_zero_le (show 0≤n by omega)
   obtain ⟨w,rfl⟩:=Int.eq_ofNat_of_zero_le (show 0≤warm by omega)
   simp only [Int.toNat_natCast] at hc ⊢
   have hp:=pow8 (o:=O) (by omega)
   have hm:=Nat.div_add_mod N (2^O)
   rw [hc.1,Nat.add_zero] at hm
   have hw:w≤N / 2^O:=by have:=hc.2;omega
   generalize N / 2^O=M at hc hw hm ⊢
   generalize 2^O=P at hp hm ⊢
   refine ⟨(M-w)::List.replicate (P-1) M,?_,?_,?_⟩
   ·simp only [castZ,List.map_cons,List.map_replicate]
    congr 1
    omega
   ·rw [List.sum_cons,sum_replicate]
    obtain ⟨q,rfl⟩:∃ q,P=q+1:=⟨P-1,by omega⟩
    rw [Nat.add_sub_cancel]
    rw [Nat.succ_mul] at hm
    omega
   ·simp;omega
  ·exact absurd rfl h
def partL (k:Int) (part L:List Int):List Int:=
 if k=31 then putsL (widthN part) part (putL ((widthN part:Nat):Int) 5 (putL (IntKind.wrap .u64 k) 5 L)) else ricesL k.toNat part (putL (IntKind.wrap .u64 k) 5 L)
def partsL:List Nat→List Int→List Int→List Int→List Int
 |z::zs,k::ks,l,L=>partsL zs ks (l.drop z) (partL k (l.take z) L)
 |_,_,_,L=>L
theorem partL_length {k:Int} (hk:kB k=true) (part L:List Int):L.length≤(partL k part L).length∧(partL k part L).length≤L.length+10+100*part.length:=by
 unfold partL
 have h1:=putL_length (IntKind.wrap .u64 k) 5 L
 split
 ·have h2:=putL_length ((widthN part:Nat):Int) 5 (putL (IntKind.wrap .u64 k) 5 L)
  have h3:=putsL_length (widthN part) part (putL ((widthN part:Nat):Int) 5 (putL (IntKind.wrap .u64 k) 5 L))
  have hw:=widthN_le part
  have:widthN part*part.length≤32*part.length:=Nat.mul_le_mul_right _ hw
  omega
 ·rename_i hne
  simp only [kB,Bool.or_eq_true,Bool.and_eq_true,decide_eq_true_eq,beq_iff_eq] at hk
  have h3:=ricesL_length (k:=k.toNat) (by omega) part (putL (IntKind.wrap .u64 k) 5 L)
  omega
theorem castZ_get {zn:List Nat} {i:Nat} (h:i<zn.length):List.getD (castZ zn) i 0=((zn[i]:Nat):Int):=by
 rw [getD_get (by simpa [castZ] using h)];simp [castZ]
theorem castZ_length (zn:List Nat):(castZ zn).length=zn.length:=by simp [castZ]
theorem sum_drop {zn:List Nat} {i:Nat} (h:i<zn.length):(zn.drop i).sum=zn[i]+(zn.drop (i+1)).sum:=by
 rw [List.drop_eq_getElem_cons h,List.sum_cons]
theorem raw_loop {part rest:List Int} {wd:Nat} {a b:Int} {z:List Int} {p:Prt} (hw:wd≤32) (hp:part.length<10000):∀ (j i:Nat) (L:List Int),i+j=part.length→L.length+64*j<999990000→
  iter F_parts_Put_l0 (rest,((wd:Int),(a,(b,(part,((part.length:Int),((i:Int),(z,(wL L,(p,()))))))))))=some (rest,(a,(b,(z,(wL (putsL wd (part.drop i) L),(p,()))))))
 |0,i,L,hi,_=>by
  obtain rfl:i=part.length:=by omega
  rw [List.drop_length]
  exact iter_done (by simp [F_parts_Put_l0,putsL])
 |j+1,i,L,hi,hb=>by
  have hlt:i<part.length:=by omega
  have h2:decide ((wd:Int)<0)=false:=by simp
  have hpl:=putL_length (maskS part[i] wd) wd L
  rw [List.drop_eq_getElem_cons hlt,iter_step (s':=(rest,((wd:Int),(a,(b,(part,((part.length:Int),(((i+1:Nat):Int),(z,(wL (putL (maskS part[i] wd) wd L),(p,()))))))))))) (by
   simp only [F_parts_Put_l0,dlt hlt,cond_true,gidx_get hlt,Option.bind_some,h2,cond_false,show bits .u64 .and (IntKind.wrap .u64 part[i]) (IntKind.wrap .u64 ((gshl .u64 1 (wd:Int))-1))=maskS part[i] wd from rfl,Put_eq (show wd≤63 by omega) (show L.length<999999000 by omega),wrap_succ (show i<1000000 by omega)])]
  exact raw_loop hw hp j (i+1) _ (by omega) (by omega)
theorem parts_put_loop {zn:List Nat} {p:Prt} (hk:p.2.1.length=zn.length) (hall:p.2.1.all kB=true) (hz:zn.length≤256):∀ (j i:Nat) (l L:List Int),i+j=zn.length→(zn.drop i).sum=l.length→l.all wideB=true→l.length≤5000→L.length+10*j+100*l.length<800000000→
  iter F_parts_Put_l1 (l,((zn.length:Int),((i:Int),(castZ zn,(wL L,(p,()))))))=some (wL (partsL (zn.drop i) (p.2.1.drop i) l L),())
 |0,i,l,L,hi,_,_,_,_=>by
  obtain rfl:i=zn.length:=by omega
  rw [List.drop_length]
  exact iter_done (by simp [F_parts_Put_l1,partsL])
 |j+1,i,l,L,hi,hsum,hw,hl5,hb=>by
  have hlt:i<zn.length:=by omega
  have hki:i<p.2.1.length:=by omega
  have hkb:=List.all_eq_true.1 hall _ (List.getElem_mem hki)
  rw [sum_drop hlt] at hsum
  have h0:decide ((0:Int)≤(i:Int))=true:=by simp
  have h1:decide ((i:Int)<(((castZ zn).length:Nat):Int))=true:=by rw [castZ_length];simp;omega
  have h2:decide ((0:Int)≤((zn[i]:Nat):Int))=true:=by simp
  have h3:decide (((zn[i]:Nat):Int)≤((l.length:Nat):Int))=true:=by simp;omega
  have hpart:(l.take zn[i]).length=zn[i]:=by rw [List.length_take];omega
  have hrest:(l.drop zn[i]).length=(zn.drop (i+1)).sum:=by rw [List.length_drop];omega
  have hwp:(l.take zn[i]).all wideB=true:=List.all_eq_true.2 fun x hx=>List.all_eq_true.1 hw x (List.mem_of_mem_take hx)
  have hwr:(l.drop zn[i]).all wideB=true:=List.all_eq_true.2 fun x hx=>List.all_eq_true.1 hw x (List.mem_of_mem_drop hx)
  have hpl:=partL_length hkb (l.take zn[i]) L
  have hp1:=putL_length (IntKind.wrap .u64 p.2.1[i]) 5 L
  have hput:F_bits_Writer_Put (wL L,(IntKind.wrap .u64 p.2.1[i],(5:Int)))=some (putE (IntKind.wrap .u64 p.2.1[i]) 5,wL (putL (IntKind.wrap .u64 p.2.1[i]) 5 L)):=Put_eq (n:=5) (by omega) (by omega)
  have ed:zn.drop i=zn[i]::zn.drop (i+1):=List.drop_eq_getElem_cons hlt
  have ek:p.2.1.drop i=p.2.1[i]::p.2.1.drop (i+1):=List.drop_eq_getElem_cons hki
  rw [ed,ek,partsL]
  have goal:F_parts_Put_l1 (l,((zn.length:Int),((i:Int),(castZ zn,(wL L,(p,()))))))=some (.inl (l.drop zn[i],((zn.length:Int),(((i+1:Nat):Int),(castZ zn,(wL (partL p.2.1[i] (l.take zn[i]) L),(p,()))))))):=by
   by_cases h31:p.2.1[i]=31
   ·have hne:(p.2.1[i] != 31)=false:=by rw [h31];rfl
    have hwd:=widthN_le (l.take zn[i])
    have hsw:=sample_Width_eq (l:=l.take zn[i]) (by unfold short;omega)
    have hp2:=putL_length ((widthN (l.take zn[i]):Nat):Int) 5 (putL (IntKind.wrap .u64 p.2.1[i]) 5 L)
    have ew:IntKind.wrap .u64 ((widthN (l.take zn[i]):Nat):Int)=((widthN (l.take zn[i]):Nat):Int):=wrapu64 (by omega)
    have hput2:F_bits_Writer_Put (wL (putL (IntKind.wrap .u64 p.2.1[i]) 5 L),(((widthN (l.take zn[i]):Nat):Int),(5:Int)))=some (putE ((widthN (l.take zn[i]):Nat):Int) 5,wL (putL ((widthN (l.take zn[i]):Nat):Int) 5 (putL (IntKind.wrap .u64 p.2.1[i]) 5 L))):=Put_eq (n:=5) (by omega) (by omega)
    have hraw:=raw_loop (part:=l.take zn[i]) (rest:=l.drop zn[i]) (a:=(zn.length:Int)) (b:=(i:Int)) (z:=castZ zn) (p:=p) hwd (by omega) (l.take zn[i]).length 0 (putL ((widthN (l.take zn[i]):Nat):Int) 5 (putL (IntKind.wrap .u64 p.2.1[i]) 5 L)) (by omega) (by omega)
    simp only [Int.natCast_zero,List.drop_zero] at hraw
    simp only [F_parts_Put_l1,dlt hlt,h0,h1,castZ_get hlt,h2,h3,cond_true,Bool.and_self,Int.toNat_natCast,gidx_get hki,Option.bind_some,hput,hne,cond_false,hsw,ew,hput2,List.take_length,hraw,wrap_succ (show i<1000000 by omega),partL,if_pos h31]
   ·have hne:(p.2.1[i] != 31)=true:=by simp [h31]
    simp only [kB,Bool.or_eq_true,Bool.and_eq_true,decide_eq_true_eq,beq_iff_eq] at hkb
    obtain ⟨K,hK⟩:=Int.eq_ofNat_of_zero_le (show 0≤p.2.1[i] by omega)
    have hrice:=rice_Put_eq (k:=K) (l:=l.take zn[i]) (L:=putL (IntKind.wrap .u64 p.2.1[i]) 5 L) (by omega) (by omega) hwp (by omega)
    rw [←hK] at hrice
    have eK:K=p.2.1[i].toNat:=by rw [hK,Int.toNat_natCast]
    simp only [F_parts_Put_l1,dlt hlt,h0,h1,castZ_get hlt,h2,h3,cond_true,Bool.and_self,Int.toNat_natCast,gidx_get hki,Option.bind_some,hput,hne,hrice,List.take_length,wrap_succ (show i<1000000 by omega),partL,if_neg h31,eK]
  rw [iter_step goal]
  exact parts_put_loop hk hall hz j (i+1) (l.drop zn[i]) _ (by omega) hrest.symm hwr (by rw [List.length_drop];omega) (by rw [List.length_drop];omega)
end Go.Ab
namespace Go.Ab
theorem rice_Cost_some {k:Nat} (hk:k≤25) {x:Int} (hw:wideB x=true):∃ c,F_rice_Cost ((k:Int),x)=some c∧0≤c∧c≤65:=by
 have hy:=foldN_lt hw
 have eq:gshr .u64 ((foldN x:Nat):Int) (k:Int)=((foldN x / 2^k:Nat):Int):=gshru_nat (by omega)
 have ew:IntKind.wrap .i64 ((foldN x / 2^k:Nat):Int)=((foldN x / 2^k:Nat):Int):=wrap_nat (Nat.lt_of_le_of_lt (Nat.div_le_self _ _) hy)
 have hk0:decide ((k:Int)<0)=false:=by simp
 unfold F_rice_Cost
 simp only [rice_parameter_eq hk,rice_wide_eq,hw,Option.bind_some,Bool.not_true,cond_false,rice_Fold_eq hw,hk0,eq,ew]
 generalize foldN x / 2^k=q
 by_cases hq:q<32
 ·have hd:decide ((q:Int)<32)=true:=decide_eq_true (by omega)
  refine ⟨(q:Int)+1+k,?_,by omega,by omega⟩
  simp only [hd,cond_true]
  rw [wrap64 (n:=(q:Int)+1) (by omega),wrap64 (by omega)]
 ·have hd:decide ((q:Int)<32)=false:=decide_eq_false (by omega)
  exact ⟨65,by simp only [hd,cond_false],by omega,by omega⟩
theorem rice_Sum_some {k:Nat} (hk:k≤25) {l:List Int} (hw:l.all wideB=true) (hl:l.length<10000):∃ c,F_rice_Sum ((k:Int),l)=some c∧0≤c∧c≤65*l.length:=by
 have key:∀ (j i:Nat) (c:Int),i+j=l.length→0≤c→c≤65*i→∃ c',iter F_rice_Sum_l0 ((k:Int),(c,(l,((l.length:Int),((i:Int),())))))=some (c',())∧0≤c'∧c'≤65*l.length:=by
  intro j
  induction j with
  |zero=>
   intro i c hi h0 h1
   obtain rfl:i=l.length:=by omega
   exact ⟨c,iter_done (by simp [F_rice_Sum_l0]),h0,h1⟩
  |succ j ih=>
   intro i c hi h0 h1
   have hlt:i<l.length:=by omega
   obtain ⟨d,hd,hd0,hd1⟩:=rice_Cost_some hk (List.all_eq_true.1 hw _ (List.getElem_mem hlt))
   have e:IntKind.wrap .i64 (c+d)=c+d:=wrap64 (by omega)
   rw [iter_step (s':=((k:Int),(c+d,(l,((l.length:Int),(((i+1:Nat):Int),())))))) (by simp only [F_rice_Sum_l0,dlt hlt,cond_true,gidx_get hlt,Option.bind_some,hd,e,wrap_succ (show i<1000000 by omega)])]
   exact ih (i+1) _ (by omega) (by omega) (by omega)
 obtain ⟨c,h1,h2,h3⟩:=key l.length 0 0 (by omega) (by omega) (by omega)
 simp only [Int.natCast_zero] at h1
 exact ⟨c,by unfold F_rice_Sum;simp only [h1,Option.bind_some],h2,h3⟩
theorem mul_width {w n:Nat} (hw:w≤32) (hn:n<10000):0≤(w:Int)*(n:Int)∧(w:Int)*(n:Int)≤32*n:=by
 have h:w*n≤32*n:=Nat.mul_le_mul_right _ hw
 have e:(w:Int)*(n:Int)=((w*n:Nat):Int):=by rw [Int.natCast_mul]
 omega
theorem parts_raw_some {l:List Int} (hl:l.length<10000):∃ c,F_parts_raw l=some c∧0≤c∧c≤5+32*l.length:=by
 have hm:=mul_width (widthN_le l) hl
 refine ⟨5+((widthN l:Nat):Int)*((l.length:Nat):Int),?_,by omega,by omega⟩
 unfold F_parts_raw
 simp only [sample_Width_eq (show short l by unfold short;omega),Option.bind_some]
 rw [wrap64 (n:=((widthN l:Nat):Int)*((l.length:Nat):Int)) (by omega),wrap64 (by omega)]
theorem parts_cost_loop {zn:List Nat} {p:Prt} (hk:p.2.1.length=zn.length) (hall:p.2.1.all kB=true) (hz:zn.length≤256):∀ (j i:Nat) (l:List Int) (c:Int),i+j=zn.length→(zn.drop i).sum=l.length→l.all wideB=true→l.length≤5000→4≤c→c+10*j+65*l.length<1000000→
  ∃ c',iter F_parts_Cost_l0 (l,(c,((zn.length:Int),((i:Int),(castZ zn,(p,()))))))=some (c',())∧4≤c'
 |0,i,l,c,hi,_,_,_,hc,_=>by
  obtain rfl:i=zn.length:=by omega
  exact ⟨c,iter_done (by simp [F_parts_Cost_l0]),hc⟩
 |j+1,i,l,c,hi,hsum,hw,hl5,hc,hb=>by
  have hlt:i<zn.length:=by omega
  have hki:i<p.2.1.length:=by omega
  have hkb:=List.all_eq_true.1 hall _ (List.getElem_mem hki)
  rw [sum_drop hlt] at hsum
  have h0:decide ((0:Int)≤(i:Int))=true:=by simp
  have h1:decide ((i:Int)<(((castZ zn).length:Nat):Int))=true:=by rw [castZ_length];simp;omega
  have h2:decide ((0:Int)≤((zn[i]:Nat):Int))=true:=by simp
  have h3:decide (((zn[i]:Nat):Int)≤((l.length:Nat):Int))=true:=by simp;omega
  have hpart:(l.take zn[i]).length=zn[i]:=by rw [List.length_take];omega
  have hrest:(l.drop zn[i]).length=(zn.drop (i+1)).sum:=by rw [List.length_drop];omega
  have hwp:(l.take zn[i]).all wideB=true:=List.all_eq_true.2 fun x hx=>List.all_eq_true.1 hw x (List.mem_of_mem_take hx)
  have hwr:(l.drop zn[i]).all wideB=true:=List.all_eq_true.2 fun x hx=>List.all_eq_true.1 hw x (List.mem_of_mem_drop hx)
  have goal:∃ d,F_parts_Cost_l0 (l,(c,((zn.length:Int),((i:Int),(castZ zn,(p,()))))))=some (.inl (l.drop zn[i],(c+d,((zn.length:Int),(((i+1:Nat):Int),(castZ zn,(p,())))))))∧0≤d∧d≤10+65*zn[i]:=by
   by_cases h31:p.2.1[i]=31
   ·have hne:(p.2.1[i]==31)=true:=by rw [h31];rfl
    obtain ⟨r,hr,hr0,hr1⟩:=parts_raw_some (l:=l.take zn[i]) (by omega)
    have e1:IntKind.wrap .i64 (5+r)=5+r:=wrap64 (by omega)
    have e2:IntKind.wrap .i64 (c+(5+r))=c+(5+r):=wrap64 (by omega)
    refine ⟨5+r,?_,by omega,by omega⟩
    simp only [F_parts_Cost_l0,dlt hlt,h0,h1,castZ_get hlt,h2,h3,cond_true,Bool.and_self,Int.toNat_natCast,gidx_get hki,Option.bind_some,hne,hr,e1,e2,List.take_length,wrap_succ (show i<1000000 by omega)]
   ·have hne:(p.2.1[i]==31)=false:=by simp [h31]
    simp only [kB,Bool.or_eq_true,Bool.and_eq_true,decide_eq_true_eq,beq_iff_eq] at hkb
    obtain ⟨K,hK⟩:=Int.eq_ofNat_of_zero_le (show 0≤p.2.1[i] by omega)
    obtain ⟨r,hr,hr0,hr1⟩:=rice_Sum_some (k:=K) (by omega) hwp (by omega)
    rw [←hK] at hr
    have e1:IntKind.wrap .i64 (5+r)=5+r:=wrap64 (by omega)
    have e2:IntKind.wrap .i64 (c+(5+r))=c+(5+r):=wrap64 (by omega)
    refine ⟨5+r,?_,by omega,by omega⟩
    simp only [F_parts_Cost_l0,dlt hlt,h0,h1,castZ_get hlt,h2,h3,cond_true,cond_false,Bool.and_self,Int.toNat_natCast,gidx_get hki,Option.bind_some,hne,hr,e1,e2,List.take_length,wrap_succ (show i<1000000 by omega)]
  obtain ⟨d,hd,hd0,hd1⟩:=goal
  rw [iter_step hd]
  exact parts_cost_loop hk hall hz j (i+1) (l.drop zn[i]) _ (by omega) hrest.symm hwr (by rw [List.length_drop];omega) (by omega) (by rw [List.length_drop];omega)
structure PartsOk (p:Prt) (n warm:Int) (l:List Int) (zn:List Nat):Prop where
 may:partsB p n warm=true
 sizes:sizesI p.1 n warm=castZ zn
 sum:zn.sum=l.length
 len:zn.length≤256
 ks:p.2.1.length=zn.length
 all:p.2.1.all kB=true
 wide:l.all wideB=true
 short:l.length≤5000
 row:rowB n warm=true
 rest:(l.length:Int)=n-warm
 order:0≤p.1∧p.1≤8
theorem PartsOk.of {p:Prt} {n warm:Int} {l:List Int} (h:partsB p n warm=true) (hl:(l.length:Int)=n-warm) (hw:l.all wideB=true) (h5:l.length≤5000):∃ zn,PartsOk p n warm l zn:=by
 have h':=h
 simp only [partsB,Bool.and_eq_true,Bool.not_eq_true',beq_eq_false_iff_ne,ne_eq,beq_iff_eq] at h'
 obtain ⟨h1,h2,h3⟩:=h'
 obtain ⟨zn,g1,g2,g3⟩:=sizes_facts h1
 have hr:rowB n warm=true∧0≤p.1∧p.1≤8:=by
  unfold sizesI at h1
  cases hr:(rowB n warm&&(decide (0≤p.1)&&decide (p.1≤8))) with
  |false=>rw [hr] at h1;simp at h1
  |true=>simpa using hr
 exact ⟨zn,h,g1,by omega,g3,by rw [←h2,g1,castZ_length],h3,hw,h5,hr.1,hl,hr.2⟩
theorem parts_right_eq {n warm:Int} {l:List Int} (hr:rowB n warm=true) (hl:(l.length:Int)=n-warm) (hw:l.all wideB=true) (h5:l.length≤5000):F_parts_right (n,(warm,l))=some true:=by
 have e:IntKind.wrap .i64 (n-warm)=n-warm:=by
  simp only [rowB,Bool.and_eq_true,decide_eq_true_eq] at hr
  exact wrap64 (by omega)
 have h1:(((l.length:Nat):Int) != n-warm)=false:=by rw [hl];simp
 have e2:F_parts_right_l0=F_sub_allWide_l0:=rfl
 have hs:short l:=by unfold short;omega
 have ha:=sub_allWide_eq hs
 unfold F_sub_allWide at ha
 unfold F_parts_right
 simp only [parts_row_eq,hr,Option.bind_some,Bool.not_true,cond_false,e,h1,e2]
 rw [hw] at ha
 exact ha
theorem parts_Cost_some {p:Prt} {n warm:Int} {l:List Int} {zn:List Nat} (h:PartsOk p n warm l zn):∃ c,F_parts_Cost (p,(n,(warm,l)))=some c∧4≤c:=by
 have hk:Go.Ab.short p.2.1:=by have:=h.ks;have:=h.len;unfold Go.Ab.short;omega
 have h5:=h.short
 have hz:=h.len
 obtain ⟨c,h1,h2⟩:=parts_cost_loop h.ks h.all h.len zn.length 0 l 4 (by omega) (by rw [List.drop_zero];exact h.sum) h.wide h.short (by omega) (by omega)
 simp only [Int.natCast_zero] at h1
 refine ⟨c,?_,h2⟩
 unfold F_parts_Cost
 simp only [parts_May_eq hk,h.may,parts_right_eq h.row h.rest h.wide h.short,Option.bind_some,Bool.not_true,cond_false,parts_Sizes_eq,h.sizes,castZ_length,h1]
def partsPutL (p:Prt) (zn:List Nat) (l L:List Int):List Int:=partsL zn p.2.1 l (putL (IntKind.wrap .u64 p.1) 4 L)
theorem parts_Put_eq {p:Prt} {n warm:Int} {l L:List Int} {zn:List Nat} (h:PartsOk p n warm l zn) (hL:L.length<700000000):F_parts_Put (wL L,(p,(n,(warm,l))))=some (0,wL (partsPutL p zn l L)):=by
 have h5:=h.short
 have hz:=h.len
 obtain ⟨c,hc,hc4⟩:=parts_Cost_some h
 have hne:(c==0)=false:=by simp only [beq_eq_false_iff_ne,ne_eq];omega
 have hpl:=putL_length (IntKind.wrap .u64 p.1) 4 L
 have hput:F_bits_Writer_Put (wL L,(IntKind.wrap .u64 p.1,(4:Int)))=some (putE (IntKind.wrap .u64 p.1) 4,wL (putL (IntKind.wrap .u64 p.1) 4 L)):=Put_eq (n:=4) (by omega) (by omega)
 have hloop:=parts_put_loop h.ks h.all h.len zn.length 0 l (putL (IntKind.wrap .u64 p.1) 4 L) (by omega) (by rw [List.drop_zero];exact h.sum) h.wide h.short (by omega)
 simp only [Int.natCast_zero,List.drop_zero] at hloop
 unfold F_parts_Put
 simp only [hc,Option.bind_some,hne,cond_false,hput,parts_Sizes_eq,h.sizes,castZ_length,hloop,partsPutL]
end Go.Ab
namespace Go.Ab
theorem warm_loop {l:List Int} {n:Int} {wd:Nat} {s:Sub} (hw:wd≤32) (hl:l.length<10000):∀ (j i:Nat) (L:List Int),i+j=l.length→L.length+64*j<999990000→
  iter F_sub_Put_l2 (n,((wd:Int),(l,((l.length:Int),((i:Int),(wL L,(s,())))))))=some (n,(wL (putsL wd (l.drop i) L),(s,())))
 |0,i,L,hi,_=>by
  obtain rfl:i=l.length:=by omega
  rw [List.drop_length]
  exact iter_done (by simp [F_sub_Put_l2,putsL])
 |j+1,i,L,hi,hb=>by
  have hlt:i<l.length:=by omega
  have hpl:=putL_length (maskS l[i] wd) wd L
  rw [List.drop_eq_getElem_cons hlt,iter_step (s':=(n,((wd:Int),(l,((l.length:Int),(((i+1:Nat):Int),(wL (putL (maskS l[i] wd) wd L),(s,())))))))) (by
   simp only [F_sub_Put_l2,dlt hlt,cond_true,gidx_get hlt,Option.bind_some,putSigned_eq (show wd≤63 by omega) (show L.length<999999000 by omega),wrap_succ (show i<1000000 by omega)])]
  exact warm_loop hw hl j (i+1) _ (by omega) (by omega)
def headL (s:Sub) (L:List Int):List Int:=
 putL ((widthN s.2.2.2.2.2.2.2.2.1:Nat):Int) 5 (putL (IntKind.wrap .u64 s.2.1) 5 (putL (IntKind.wrap .u64 s.1) 3 L))
end Go.Ab
namespace Go.Ab
set_option linter.unusedVariables false
def Le {α:Type} (a b:Option α):Prop:=∀ y,a=some y→b=some y
theorem Lr {α:Type} (a:Option α):Le a a:=fun _ h=>h
theorem Lf {α:Type} {c:Bool} {a b a' b':Option α} (h:Le a a') (h':Le b b'):Le (cond c a b) (cond c a' b'):=by cases c<;>assumption
theorem Lb {α β:Type} {a a':Option α} {k k':α→Option β} (h:Le a a') (hk:∀ x,Le (k x) (k' x)):Le (a.bind k) (a'.bind k'):=by
 intro y hy
 obtain ⟨x,hx,hkx⟩:=Option.bind_eq_some_iff.1 hy
 rw [h x hx]
 exact hk x y hkx
theorem Le.iterN {σ β:Type} {f g:σ→Option (σ ⊕ β)} (h:∀ s,Le (f s) (g s)):∀ (n:Nat) (s:σ),Le (Ab.iterN f n s) (Ab.iterN g n s)
 |0,s=>fun y hy=>by simp [Ab.iterN] at hy
 |n+1,s=>fun y hy=>by
  simp only [Ab.iterN] at hy ⊢
  split at hy
  ·cases hy
  ·rename_i s' hs
   rw [h s _ hs]
   exact Le.iterN h n s' y hy
  ·rename_i b hb
   rw [h s _ hb]
   exact hy
theorem Li {σ β:Type} {f g:σ→Option (σ ⊕ β)} {n:Nat} {s:σ} (h:∀ s,Le (f s) (g s)):Le (Ab.iterN f n s) (Ab.iter g s):=fun y hy=>iter_of (Le.iterN h n s y hy)
theorem Le.backN {α S R:Type} {f g:Int→α→S→Option (S ⊕ R)} (h:∀ k v s,Le (f k v s) (g k v s)) (l:List α):∀ (n:Nat) (s:S),Le (Ab.backN f l n s) (Ab.backN g l n s)
 |0,s=>Lr _
 |n+1,s=>fun y hy=>by
  simp only [Ab.backN] at hy ⊢
  split at hy
  ·cases hy
  ·rename_i v hv
   split at hy
   ·cases hy
   ·rename_i s' hs
    rw [h _ _ _ _ hs]
    exact Le.backN h l n s' y hy
   ·rename_i r hr
    rw [h _ _ _ _ hr]
    exact hy
def C_sub_allWide_l0 (st:Z13):Option Z69:= bif decide (st.2.2.1<st.2.1) then ((gidx st.1 st.2.2.1).bind fun x1=> (show Option Z32 from bif decide (x1<(-1073741824:Int)) then some (st.1,(st.2.1,(st.2.2.1,(true,())))) else some (st.1,(st.2.1,(st.2.2.1,(decide (x1≥(1073741824:Int)),()))))).bind fun z2=> bif z2.2.2.2.1 then some (.inr (Sum.inr ((false,())))) else some (.inl (z2.1,(z2.2.1,(IntKind.wrap .i64 (z2.2.2.1+(1:Int)),()))))) else some (.inr (Sum.inl ()))
theorem le_sub_allWide_l0 (st):Le (C_sub_allWide_l0 st) (F_sub_allWide_l0 st):=by
 unfold C_sub_allWide_l0 F_sub_allWide_l0
 try dsimp only
 repeat' (first|exact Lr _|apply Lf|refine Lb ?_ fun _=>?_|(rename_i w;cases w)|(rename_i w _;cases w))
def C_sub_allWide (x:(List Int)):Option Bool:= (iterN C_sub_allWide_l0 400 (x,(((List.length x:Nat):Int),((0:Int),())))).bind fun w3=> match w3 with |.inl a4=>some true |.inr b5=>some b5.1
theorem le_sub_allWide (x):Le (C_sub_allWide x) (F_sub_allWide x):=by
 unfold C_sub_allWide F_sub_allWide
 try dsimp only
 repeat' (first|exact Lr _|exact Li le_sub_allWide_l0|apply Lf|refine Lb ?_ fun _=>?_|(rename_i w;cases w)|(rename_i w _;cases w))
def C_sub_rested (x:Int):Option Bool:= bif x != (0:Int) then some (x != (1:Int)) else some false
theorem le_sub_rested (x):Le (C_sub_rested x) (F_sub_rested x):=by
 unfold C_sub_rested F_sub_rested
 try dsimp only
 repeat' (first|exact Lr _|apply Lf|refine Lb ?_ fun _=>?_|(rename_i w;cases w)|(rename_i w _;cases w))
def C_linear_May_l0 (st:Z13):Option Z69:= bif decide (st.2.2.1<st.2.1) then ((gidx st.1 st.2.2.1).bind fun x2=> (show Option Z32 from bif decide (x2<(-32768:Int)) then some (st.1,(st.2.1,(st.2.2.1,(true,())))) else some (st.1,(st.2.1,(st.2.2.1,(decide (x2≥(32768:Int)),()))))).bind fun z3=> bif z3.2.2.2.1 then some (.inr (Sum.inr ((false,())))) else some (.inl (z3.1,(z3.2.1,(IntKind.wrap .i64 (z3.2.2.1+(1:Int)),()))))) else some (.inr (Sum.inl ()))
theorem le_linear_May_l0 (st):Le (C_linear_May_l0 st) (F_linear_May_l0 st):=by
 unfold C_linear_May_l0 F_linear_May_l0
 try dsimp only
 repeat' (first|exact Lr _|apply Lf|refine Lb ?_ fun _=>?_|(rename_i w;cases w)|(rename_i w _;cases w))
def C_linear_May (x:((List Int)×Int)):Option Bool:= (show Option Z7 from bif decide (((List.length x.1:Nat):Int)<(1:Int)) then some (x.1,(true,())) else (bif decide (((List.length x.1:Nat):Int) > (32:Int)) then some (x.1,(true,())) else (bif decide (x.2<(0:Int)) then some (x.1,(true,())) else some (x.1,(decide (x.2 > (15:Int)),()))))).bind fun z1=> bif z1.2.1 then some false else ((iterN C_linear_May_l0 400 (z1.1,(((List.length z1.1:Nat):Int),((0:Int),())))).bind fun w4=> match w4 with |.inl a5=>some true |.inr b6=>some b6.1)
theorem le_linear_May (x):Le (C_linear_May x) (F_linear_May x):=by
 unfold C_linear_May F_linear_May
 try dsimp only
 repeat' (first|exact Lr _|exact Li le_linear_May_l0|apply Lf|refine Lb ?_ fun _=>?_|(rename_i w;cases w)|(rename_i w _;cases w))
def C_long_May_l0 (st:Z4):Option (Z4 ⊕ Z0):= bif decide (st.2.1<(3:Int)) then ((gidx st.1 st.2.1).bind fun x2=> (show Option Z18 from bif decide (x2<(-64:Int)) then some (st.1,(st.2.1,(true,()))) else some (st.1,(st.2.1,(decide (x2 > (64:Int)),())))).bind fun z3=> bif z3.2.2.1 then some (.inr (Sum.inr ((false,())))) else some (.inl (z3.1,(IntKind.wrap .i64 (z3.2.1+(1:Int)),())))) else some (.inr (Sum.inl ()))
theorem le_long_May_l0 (st):Le (C_long_May_l0 st) (F_long_May_l0 st):=by
 unfold C_long_May_l0 F_long_May_l0
 try dsimp only
 repeat' (first|exact Lr _|apply Lf|refine Lb ?_ fun _=>?_|(rename_i w;cases w)|(rename_i w _;cases w))
def C_long_May (x:(Int×(List Int))):Option Bool:= (show Option Z6 from bif decide (x.1<(2:Int)) then some (true,(x.2,())) else some (decide (x.1 > (1024:Int)),(x.2,()))).bind fun z1=> bif z1.1 then some false else ((iterN C_long_May_l0 400 (z1.2.1,((0:Int),()))).bind fun w4=> match w4 with |.inl a5=>some true |.inr b6=>some b6.1)
theorem le_long_May (x):Le (C_long_May x) (F_long_May x):=by
 unfold C_long_May F_long_May
 try dsimp only
 repeat' (first|exact Lr _|exact Li le_long_May_l0|apply Lf|refine Lb ?_ fun _=>?_|(rename_i w;cases w)|(rename_i w _;cases w))
def C_learn_valid (x:(Int×(Int×Unit))):Option Bool:= bif decide (x.1≥(1:Int)) then (bif decide (x.1≤(32:Int)) then (bif decide (x.2.1≥(0:Int)) then some (decide (x.2.1≤(8:Int))) else some false) else some false) else some false
theorem le_learn_valid (x):Le (C_learn_valid x) (F_learn_valid x):=by
 unfold C_learn_valid F_learn_valid
 try dsimp only
 repeat' (first|exact Lr _|apply Lf|refine Lb ?_ fun _=>?_|(rename_i w;cases w)|(rename_i w _;cases w))
def C_learn_May_l0 (st:Z51):Option (Z51 ⊕ Z0):= bif decide (st.2.2.1<st.2.1) then ((gidx st.1 st.2.2.1).bind fun x1=> (C_learn_valid x1).bind fun y2=> bif !y2 then some (.inr (Sum.inr ((false,())))) else some (.inl (st.1,(st.2.1,(IntKind.wrap .i64 (st.2.2.1+(1:Int)),()))))) else some (.inr (Sum.inl ()))
theorem le_learn_May_l0 (st):Le (C_learn_May_l0 st) (F_learn_May_l0 st):=by
 unfold C_learn_May_l0 F_learn_May_l0
 try dsimp only
 repeat' (first|exact Lr _|exact le_learn_valid _|apply Lf|refine Lb ?_ fun _=>?_|(rename_i w;cases w)|(rename_i w _;cases w))
def C_learn_May (x:Z5):Option Bool:= bif decide (((List.length x:Nat):Int) > (3:Int)) then some false else ((iterN C_learn_May_l0 400 (x,(((List.length x:Nat):Int),((0:Int),())))).bind fun w3=> match w3 with |.inl a4=>some true |.inr b5=>some b5.1)
theorem le_learn_May (x):Le (C_learn_May x) (F_learn_May x):=by
 unfold C_learn_May F_learn_May
 try dsimp only
 repeat' (first|exact Lr _|exact Li le_learn_May_l0|apply Lf|refine Lb ?_ fun _=>?_|(rename_i w;cases w)|(rename_i w _;cases w))
def C_sub_fit (x:(Int×Z167)):Option Bool:= (show Option Z183 from bif x.1==(0:Int) then some (x.2.2,(x.1,(x.1==(0:Int),(x.2.1,())))) else some (x.2.2,(x.1,(x.1==(1:Int),(x.2.1,()))))).bind fun z1=> bif z1.2.2.1 then some true else (bif z1.2.1==(2:Int) then (bif decide (z1.2.2.2.1.2.2.1≥(0:Int)) then (bif decide (z1.2.2.2.1.2.2.1≤(4:Int)) then some (decide (z1.2.2.2.1.2.2.1≤z1.1)) else some false) else some false) else (bif z1.2.1==(3:Int) then ((C_linear_May (z1.2.2.2.1.2.2.2.2.2.1,z1.2.2.2.1.2.2.2.1)).bind fun y2=> bif y2 then some (decide (((List.length z1.2.2.2.1.2.2.2.2.2.1:Nat):Int)≤z1.1)) else some false) else (bif z1.2.1==(4:Int) then ((C_linear_May (z1.2.2.2.1.2.2.2.2.2.1,z1.2.2.2.1.2.2.2.1)).bind fun y3=> bif y3 then (bif decide (((List.length z1.2.2.2.1.2.2.2.2.2.1:Nat):Int)≤z1.1) then ((C_long_May (z1.2.2.2.1.2.2.2.2.1,z1.2.2.2.1.2.2.2.2.2.2.1)).bind fun y4=> some y4) else some false) else some false) else (bif z1.2.1==(5:Int) then (bif decide (((List.length z1.2.2.2.1.2.2.2.2.2.2.2.1:Nat):Int) > (0:Int)) then ((C_learn_May z1.2.2.2.1.2.2.2.2.2.2.2.1).bind fun y5=> some y5) else some false) else some false))))
theorem le_sub_fit (x):Le (C_sub_fit x) (F_sub_fit x):=by
 unfold C_sub_fit F_sub_fit
 try dsimp only
 repeat' (first|exact Lr _|exact le_linear_May _|exact le_long_May _|exact le_learn_May _|apply Lf|refine Lb ?_ fun _=>?_|(rename_i w;cases w)|(rename_i w _;cases w))
def C_sub_warmth (x:Z167):Option Int:= bif x.1.1==(0:Int) then some (1:Int) else (bif x.1.1==(1:Int) then some x.2 else (bif x.1.1==(2:Int) then some x.1.2.2.1 else ((show Option Z174 from bif x.1.1==(3:Int) then some (x.1.1==(3:Int),(x.1,())) else some (x.1.1==(4:Int),(x.1,()))).bind fun z1=> bif z1.1 then some ((List.length z1.2.1.2.2.2.2.2.1:Nat):Int) else some (0:Int))))
theorem le_sub_warmth (x):Le (C_sub_warmth x) (F_sub_warmth x):=by
 unfold C_sub_warmth F_sub_warmth
 try dsimp only
 repeat' (first|exact Lr _|apply Lf|refine Lb ?_ fun _=>?_|(rename_i w;cases w)|(rename_i w _;cases w))
def C_slices_Clone___int_int_ (x:(List Int)):Option (List Int):= bif lim (0+List.length x) then some x else none
theorem le_slices_Clone___int_int_ (x):Le (C_slices_Clone___int_int_ x) (F_slices_Clone___int_int_ x):=by
 intro y hy
 unfold C_slices_Clone___int_int_ at hy
 unfold F_slices_Clone___int_int_
 cases x with
 |nil=>simp only [List.length_nil,List.isEmpty_nil,cond_true,List.append_eq,List.append_nil] at hy ⊢;rw [show lim (0+0)=true from rfl] at hy ⊢;simpa [agree_self] using hy
 |cons a l=>simpa using hy
def C_slices_Clone___int_int_v (x:(List Int)):Option (List Int):= bif lim (0+List.length x) then some x else none
theorem le_slices_Clone___int_int_v (x):Le (C_slices_Clone___int_int_v x) (F_slices_Clone___int_int_v x):=by
 intro y hy
 unfold C_slices_Clone___int_int_v at hy
 unfold F_slices_Clone___int_int_v
 cases x with
 |nil=>simp only [List.length_nil,List.isEmpty_nil,cond_true,List.append_eq,List.append_nil] at hy ⊢;rw [show lim (0+0)=true from rfl] at hy ⊢;simpa [agree_self] using hy
 |cons a l=>simpa using hy
def C_slices_Clone___api_Stage_api_Stage_v (x:Z5):Option Z5:= bif lim (0+List.length x) then some x else none
theorem le_slices_Clone___api_Stage_api_Stage_v (x):Le (C_slices_Clone___api_Stage_api_Stage_v x) (F_slices_Clone___api_Stage_api_Stage_v x):=by
 intro y hy
 unfold C_slices_Clone___api_Stage_api_Stage_v at hy
 unfold F_slices_Clone___api_Stage_api_Stage_v
 cases x with
 |nil=>simp only [List.length_nil,List.isEmpty_nil,cond_true,List.append_eq,List.append_nil] at hy ⊢;rw [show lim (0+0)=true from rfl] at hy ⊢;simpa [agree_self] using hy
 |cons a l=>simpa using hy
def C_sub_chosen (x:Z168):Option Z165:= (show Option Z198 from (show Option (Z203 ⊕ (Z198 ⊕ Z203)) from bif x.1==(2:Int) then some (Sum.inr (Sum.inl (((0:Int),((0:Int),((0:Int),((0:Int),((0:Int),(([]:(List Int)),(List.replicate 3 (0:Int),(([]:Z5),(([]:(List Int)),(((0:Int),(([]:(List Int)),())),(([]:(List Int)),()))))))))))),((x.1,((0:Int),(x.2.2.2.1,((0:Int),((0:Int),(([]:(List Int)),(List.replicate 3 (0:Int),(([]:Z5),(([]:(List Int)),(((0:Int),(([]:(List Int)),())),(([]:(List Int)),()))))))))))),())))) else (bif x.1==(4:Int) then some (Sum.inl (((0:Int),((0:Int),((0:Int),((0:Int),((0:Int),(([]:(List Int)),(List.replicate 3 (0:Int),(([]:Z5),(([]:(List Int)),(((0:Int),(([]:(List Int)),())),(([]:(List Int)),()))))))))))),((x.1,((0:Int),((0:Int),((0:Int),(x.2.2.2.2.2.1,(([]:(List Int)),(x.2.2.2.2.2.2.2.1,(([]:Z5),(([]:(List Int)),(((0:Int),(([]:(List Int)),())),(([]:(List Int)),()))))))))))),(x.2,())))) else (bif x.1==(3:Int) then some (Sum.inl (((0:Int),((0:Int),((0:Int),((0:Int),((0:Int),(([]:(List Int)),(List.replicate 3 (0:Int),(([]:Z5),(([]:(List Int)),(((0:Int),(([]:(List Int)),())),(([]:(List Int)),()))))))))))),((x.1,((0:Int),((0:Int),((0:Int),((0:Int),(([]:(List Int)),(List.replicate 3 (0:Int),(([]:Z5),(([]:(List Int)),(((0:Int),(([]:(List Int)),())),(([]:(List Int)),()))))))))))),(x.2,())))) else (bif x.1==(5:Int) then some (Sum.inr (Sum.inr ((((0:Int),((0:Int),((0:Int),((0:Int),((0:Int),(([]:(List Int)),(List.replicate 3 (0:Int),(([]:Z5),(([]:(List Int)),(((0:Int),(([]:(List Int)),())),(([]:(List Int)),()))))))))))),((x.1,((0:Int),((0:Int),((0:Int),((0:Int),(([]:(List Int)),(List.replicate 3 (0:Int),(([]:Z5),(([]:(List Int)),(((0:Int),(([]:(List Int)),())),(([]:(List Int)),()))))))))))),(x.2,())))))) else some (Sum.inr (Sum.inl (((0:Int),((0:Int),((0:Int),((0:Int),((0:Int),(([]:(List Int)),(List.replicate 3 (0:Int),(([]:Z5),(([]:(List Int)),(((0:Int),(([]:(List Int)),())),(([]:(List Int)),()))))))))))),((x.1,((0:Int),((0:Int),((0:Int),((0:Int),(([]:(List Int)),(List.replicate 3 (0:Int),(([]:Z5),(([]:(List Int)),(((0:Int),(([]:(List Int)),())),(([]:(List Int)),()))))))))))),())))))))).bind fun z1=> match z1 with |.inl a2=>((C_slices_Clone___int_int_v a2.2.2.1.2.2.2.2.2.1).bind fun y4=> some (a2.1,((a2.2.1.1,(a2.2.1.2.1,(a2.2.1.2.2.1,(a2.2.2.1.2.2.2.1,(a2.2.1.2.2.2.2.1,(y4,a2.2.1.2.2.2.2.2.2)))))),()))) |.inr b3=>(match b3 with |.inl a5=>some (a5.1,(a5.2.1,())) |.inr b6=>((C_slices_Clone___api_Stage_api_Stage_v b6.2.2.1.2.2.2.2.2.2.2.1).bind fun y7=> some (b6.1,((b6.2.1.1,(b6.2.1.2.1,(b6.2.1.2.2.1,(b6.2.1.2.2.2.1,(b6.2.1.2.2.2.2.1,(b6.2.1.2.2.2.2.2.1,(b6.2.1.2.2.2.2.2.2.1,(y7,b6.2.1.2.2.2.2.2.2.2.2)))))))),()))))).bind fun z8=> some z8.2.1
theorem le_sub_chosen (x):Le (C_sub_chosen x) (F_sub_chosen x):=by
 unfold C_sub_chosen F_sub_chosen
 try dsimp only
 repeat' (first|exact Lr _|exact le_slices_Clone___int_int_v _|exact le_slices_Clone___api_Stage_api_Stage_v _|apply Lf|refine Lb ?_ fun _=>?_|(rename_i w;cases w)|(rename_i w _;cases w))
def C_sub_alone (x:Z165):Option Bool:= (C_sub_chosen (x.1,x)).bind fun y1=> bif x.2.2.1==y1.2.2.1 then (bif x.2.2.2.1==y1.2.2.2.1 then (bif x.2.2.2.2.1==y1.2.2.2.2.1 then (bif eqT (.arr 3 (.int .i64)) x.2.2.2.2.2.2.1 y1.2.2.2.2.2.2.1 then (bif ((List.length x.2.2.2.2.2.1:Nat):Int)==((List.length y1.2.2.2.2.2.1:Nat):Int) then some (((List.length x.2.2.2.2.2.2.2.1:Nat):Int)==((List.length y1.2.2.2.2.2.2.2.1:Nat):Int)) else some false) else some false) else some false) else some false) else some false
theorem le_sub_alone (x):Le (C_sub_alone x) (F_sub_alone x):=by
 unfold C_sub_alone F_sub_alone
 try dsimp only
 repeat' (first|exact Lr _|exact le_sub_chosen _|apply Lf|refine Lb ?_ fun _=>?_|(rename_i w;cases w)|(rename_i w _;cases w))
def C_parts_row (x:(Int×Int)):Option Bool:= bif decide ((1:Int)≤x.1) then (bif decide (x.1≤(4096:Int)) then (bif decide ((0:Int)≤x.2) then some (decide (x.2≤x.1)) else some false) else some false) else some false
theorem le_parts_row (x):Le (C_parts_row x) (F_parts_row x):=by
 unfold C_parts_row F_parts_row
 try dsimp only
 repeat' (first|exact Lr _|apply Lf|refine Lb ?_ fun _=>?_|(rename_i w;cases w)|(rename_i w _;cases w))
def C_parts_Sizes_l0 (st:Z14):Option Z62:= bif decide (st.1<0) then none else (bif decide (((List.length st.2.2.1:Nat):Int)<(gshl .i64 (1:Int) st.1)) then (bif lim ((List.length st.2.2.1)+1) then some (.inl (st.1,(st.2.1,(List.append st.2.2.1 ([st.2.1]:List Int),())))) else none) else some (.inr (st.2.2.1,())))
theorem le_parts_Sizes_l0 (st):Le (C_parts_Sizes_l0 st) (F_parts_Sizes_l0 st):=by
 unfold C_parts_Sizes_l0 F_parts_Sizes_l0
 try dsimp only
 repeat' (first|exact Lr _|apply Lf|refine Lb ?_ fun _=>?_|(rename_i w;cases w)|(rename_i w _;cases w))
def C_parts_Sizes (x:(Int×(Int×Int))):Option (List Int):= (show Option Z22 from (C_parts_row (x.2.1,x.2.2)).bind fun y1=> bif !y1 then some (x.1,(x.2.1,(x.2.2,(true,())))) else (bif decide (x.1<(0:Int)) then some (x.1,(x.2.1,(x.2.2,(true,())))) else some (x.1,(x.2.1,(x.2.2,(decide (x.1 > (8:Int)),())))))).bind fun z2=> bif z2.2.2.2.1 then some ([]:(List Int)) else (bif decide (z2.1<0) then none else ((show Option Z22 from bif decide (z2.1<0) then none else (bif (gshl .i64 (gshr .i64 z2.2.1 z2.1) z2.1) != z2.2.1 then some (z2.1,(z2.2.2.1,(gshr .i64 z2.2.1 z2.1,(true,())))) else some (z2.1,(z2.2.2.1,(gshr .i64 z2.2.1 z2.1,(decide ((gshr .i64 z2.2.1 z2.1)<z2.2.2.1),())))))).bind fun z3=> bif z3.2.2.2.1 then some ([]:(List Int)) else ((iterN C_parts_Sizes_l0 400 (z3.1,(z3.2.2.1,(([IntKind.wrap .i64 (z3.2.2.1-z3.2.1)]:List Int),())))).bind fun w4=> some w4.1)))
theorem le_parts_Sizes (x):Le (C_parts_Sizes x) (F_parts_Sizes x):=by
 unfold C_parts_Sizes F_parts_Sizes
 try dsimp only
 repeat' (first|exact Lr _|exact le_parts_row _|exact Li le_parts_Sizes_l0|apply Lf|refine Lb ?_ fun _=>?_|(rename_i w;cases w)|(rename_i w _;cases w))
def C_parts_May_l0 (st:Z13):Option Z69:= bif decide (st.2.2.1<st.2.1) then ((gidx st.1 st.2.2.1).bind fun x3=> (show Option Z32 from bif decide (x3<(0:Int)) then some (st.1,(st.2.1,(st.2.2.1,(x3 != (31:Int),())))) else (bif decide (x3 > (25:Int)) then some (st.1,(st.2.1,(st.2.2.1,(x3 != (31:Int),())))) else some (st.1,(st.2.1,(st.2.2.1,(false,())))))).bind fun z4=> bif z4.2.2.2.1 then some (.inr (Sum.inr ((false,())))) else some (.inl (z4.1,(z4.2.1,(IntKind.wrap .i64 (z4.2.2.1+(1:Int)),()))))) else some (.inr (Sum.inl ()))
theorem le_parts_May_l0 (st):Le (C_parts_May_l0 st) (F_parts_May_l0 st):=by
 unfold C_parts_May_l0 F_parts_May_l0
 try dsimp only
 repeat' (first|exact Lr _|apply Lf|refine Lb ?_ fun _=>?_|(rename_i w;cases w)|(rename_i w _;cases w))
def C_parts_May (x:(Z3×(Int×Int))):Option Bool:= (C_parts_Sizes (x.1.1,(x.2.1,x.2.2))).bind fun y1=> (show Option Z36 from bif ((List.length y1:Nat):Int)==(0:Int) then some (true,(x.1,())) else some (((List.length x.1.2.1:Nat):Int) != ((List.length y1:Nat):Int),(x.1,()))).bind fun z2=> bif z2.1 then some false else ((iterN C_parts_May_l0 400 (z2.2.1.2.1,(((List.length z2.2.1.2.1:Nat):Int),((0:Int),())))).bind fun w5=> match w5 with |.inl a6=>some true |.inr b7=>some b7.1)
theorem le_parts_May (x):Le (C_parts_May x) (F_parts_May x):=by
 unfold C_parts_May F_parts_May
 try dsimp only
 repeat' (first|exact Lr _|exact le_parts_Sizes _|exact Li le_parts_May_l0|apply Lf|refine Lb ?_ fun _=>?_|(rename_i w;cases w)|(rename_i w _;cases w))
def C_sub_stated (x:Z167):Option Bool:= (show Option Z178 from bif decide (x.2<(1:Int)) then some (x.2,(true,(x.1,()))) else (bif decide (x.2 > (4096:Int)) then some (x.2,(true,(x.1,()))) else ((C_sub_fit (x.1.1,(x.1,x.2))).bind fun y1=> bif !y1 then some (x.2,(true,(x.1,()))) else ((C_sub_alone x.1).bind fun y2=> some (x.2,(!y2,(x.1,()))))))).bind fun z3=> bif z3.2.1 then some false else ((show Option Z178 from bif decide (z3.2.2.1.2.1<(0:Int)) then some (z3.1,(true,(z3.2.2.1,()))) else (bif decide (z3.2.2.1.2.1 > (30:Int)) then some (z3.1,(true,(z3.2.2.1,()))) else (bif z3.2.2.1.1==(0:Int) then some (z3.1,(z3.2.2.1.2.1 != (0:Int),(z3.2.2.1,()))) else some (z3.1,(false,(z3.2.2.1,())))))).bind fun z4=> bif z4.2.1 then some false else ((C_sub_warmth (z4.2.2.1,z4.1)).bind fun y5=> (show Option Z183 from bif ((List.length z4.2.2.1.2.2.2.2.2.2.2.2.1:Nat):Int) != y5 then some (z4.1,(y5,(true,(z4.2.2.1,())))) else ((C_sub_allWide z4.2.2.1.2.2.2.2.2.2.2.2.1).bind fun y6=> bif !y6 then some (z4.1,(y5,(true,(z4.2.2.1,())))) else ((C_sub_allWide z4.2.2.1.2.2.2.2.2.2.2.2.2.2.1).bind fun y7=> some (z4.1,(y5,(!y7,(z4.2.2.1,()))))))).bind fun z8=> bif z8.2.2.1 then some false else ((C_sub_rested z8.2.2.2.1.1).bind fun y9=> bif !y9 then (bif ((List.length z8.2.2.2.1.2.2.2.2.2.2.2.2.2.2.1:Nat):Int)==(0:Int) then (bif z8.2.2.2.1.2.2.2.2.2.2.2.2.2.1.1==(0:Int) then some (((List.length z8.2.2.2.1.2.2.2.2.2.2.2.2.2.1.2.1:Nat):Int)==(0:Int)) else some false) else some false) else (bif ((List.length z8.2.2.2.1.2.2.2.2.2.2.2.2.2.2.1:Nat):Int)==(IntKind.wrap .i64 (z8.1-z8.2.1)) then ((C_parts_May (z8.2.2.2.1.2.2.2.2.2.2.2.2.2.1,(z8.1,z8.2.1))).bind fun y10=> some y10) else some false))))
theorem le_sub_stated (x):Le (C_sub_stated x) (F_sub_stated x):=by
 unfold C_sub_stated F_sub_stated
 try dsimp only
 repeat' (first|exact Lr _|exact le_sub_fit _|exact le_sub_alone _|exact le_sub_warmth _|exact le_sub_allWide _|exact le_sub_rested _|exact le_parts_May _|apply Lf|refine Lb ?_ fun _=>?_|(rename_i w;cases w)|(rename_i w _;cases w))
def C_fixed_wide_l0 (st:Z13):Option Z69:= bif decide (st.2.2.1<st.2.1) then ((gidx st.1 st.2.2.1).bind fun x1=> (show Option Z32 from bif decide (x1<(-1073741824:Int)) then some (st.1,(st.2.1,(st.2.2.1,(true,())))) else some (st.1,(st.2.1,(st.2.2.1,(decide (x1≥(1073741824:Int)),()))))).bind fun z2=> bif z2.2.2.2.1 then some (.inr (Sum.inr ((false,())))) else some (.inl (z2.1,(z2.2.1,(IntKind.wrap .i64 (z2.2.2.1+(1:Int)),()))))) else some (.inr (Sum.inl ()))
theorem le_fixed_wide_l0 (st):Le (C_fixed_wide_l0 st) (F_fixed_wide_l0 st):=by
 unfold C_fixed_wide_l0 F_fixed_wide_l0
 try dsimp only
 repeat' (first|exact Lr _|apply Lf|refine Lb ?_ fun _=>?_|(rename_i w;cases w)|(rename_i w _;cases w))
def C_fixed_wide (x:(List Int)):Option Bool:= (iterN C_fixed_wide_l0 400 (x,(((List.length x:Nat):Int),((0:Int),())))).bind fun w3=> match w3 with |.inl a4=>some true |.inr b5=>some b5.1
theorem le_fixed_wide (x):Le (C_fixed_wide x) (F_fixed_wide x):=by
 unfold C_fixed_wide F_fixed_wide
 try dsimp only
 repeat' (first|exact Lr _|exact Li le_fixed_wide_l0|apply Lf|refine Lb ?_ fun _=>?_|(rename_i w;cases w)|(rename_i w _;cases w))
def C_fixed_guess_1 (x:(Int×(List Int))):Option (Int×(List Int)):= (gidx x.2 (IntKind.wrap .i64 (((List.length x.2:Nat):Int)-x.1))).bind fun x1=> some (x1,x.2)
theorem le_fixed_guess_1 (x):Le (C_fixed_guess_1 x) (F_fixed_guess_1 x):=by
 unfold C_fixed_guess_1 F_fixed_guess_1
 try dsimp only
 repeat' (first|exact Lr _|apply Lf|refine Lb ?_ fun _=>?_|(rename_i w;cases w)|(rename_i w _;cases w))
def C_fixed_guess (x:((List Int)×Int)):Option Int:= bif x.2==(1:Int) then ((C_fixed_guess_1 ((1:Int),x.1)).bind fun y1=> some y1.1) else (bif x.2==(2:Int) then ((C_fixed_guess_1 ((1:Int),x.1)).bind fun y2=> (C_fixed_guess_1 ((2:Int),y2.2)).bind fun y3=> some (IntKind.wrap .i64 ((IntKind.wrap .i64 ((2:Int)*y2.1))-y3.1))) else (bif x.2==(3:Int) then ((C_fixed_guess_1 ((1:Int),x.1)).bind fun y4=> (C_fixed_guess_1 ((2:Int),y4.2)).bind fun y5=> (C_fixed_guess_1 ((3:Int),y5.2)).bind fun y6=> some (IntKind.wrap .i64 ((IntKind.wrap .i64 ((IntKind.wrap .i64 ((3:Int)*y4.1))-(IntKind.wrap .i64 ((3:Int)*y5.1))))+y6.1))) else (bif x.2==(4:Int) then ((C_fixed_guess_1 ((1:Int),x.1)).bind fun y7=> (C_fixed_guess_1 ((2:Int),y7.2)).bind fun y8=> (C_fixed_guess_1 ((3:Int),y8.2)).bind fun y9=> (C_fixed_guess_1 ((4:Int),y9.2)).bind fun y10=> some (IntKind.wrap .i64 ((IntKind.wrap .i64 ((IntKind.wrap .i64 ((IntKind.wrap .i64 ((4:Int)*y7.1))-(IntKind.wrap .i64 ((6:Int)*y8.1))))+(IntKind.wrap .i64 ((4:Int)*y9.1))))-y10.1))) else some (0:Int))))
theorem le_fixed_guess (x):Le (C_fixed_guess x) (F_fixed_guess x):=by
 unfold C_fixed_guess F_fixed_guess
 try dsimp only
 repeat' (first|exact Lr _|exact le_fixed_guess_1 _|apply Lf|refine Lb ?_ fun _=>?_|(rename_i w;cases w)|(rename_i w _;cases w))
def C_fixed_Back_l0 (st:Z57):Option Z138:= bif decide (st.2.2.2.1<st.2.2.1) then ((gidx st.2.1 st.2.2.2.1).bind fun x5=> (C_fixed_guess (st.2.2.2.2.1,st.1)).bind fun y6=> (C_fixed_wide ([IntKind.wrap .i64 (x5+y6)]:List Int)).bind fun y7=> bif !y7 then some (.inr (Sum.inr (((6:Int),(([]:(List Int)),()))))) else (bif lim ((List.length st.2.2.2.2.1)+1) then some (.inl (st.1,(st.2.1,(st.2.2.1,(IntKind.wrap .i64 (st.2.2.2.1+(1:Int)),(List.append st.2.2.2.2.1 ([IntKind.wrap .i64 (x5+y6)]:List Int),())))))) else none)) else some (.inr (Sum.inl (st.2.2.2.2.1,())))
theorem le_fixed_Back_l0 (st):Le (C_fixed_Back_l0 st) (F_fixed_Back_l0 st):=by
 unfold C_fixed_Back_l0 F_fixed_Back_l0
 try dsimp only
 repeat' (first|exact Lr _|exact le_fixed_guess _|exact le_fixed_wide _|apply Lf|refine Lb ?_ fun _=>?_|(rename_i w;cases w)|(rename_i w _;cases w))
def C_fixed_Back (x:Z10):Option ((List Int)×Int):= (show Option Z47 from bif decide (x.2.2<(0:Int)) then some (x.1,(x.2.1,(x.2.2,(true,())))) else (bif decide (x.2.2 > (4:Int)) then some (x.1,(x.2.1,(x.2.2,(true,())))) else some (x.1,(x.2.1,(x.2.2,(((List.length x.1:Nat):Int) != x.2.2,())))))).bind fun z1=> bif z1.2.2.2.1 then some (([]:(List Int)),(1:Int)) else ((show Option Z47 from (C_fixed_wide z1.1).bind fun y2=> bif !y2 then some (z1.1,(z1.2.1,(z1.2.2.1,(true,())))) else ((C_fixed_wide z1.2.1).bind fun y3=> some (z1.1,(z1.2.1,(z1.2.2.1,(!y3,())))))).bind fun z4=> bif z4.2.2.2.1 then some (([]:(List Int)),(6:Int)) else (bif lim (List.length z4.1) then ((iterN C_fixed_Back_l0 400 (z4.2.2.1,(z4.2.1,(((List.length z4.2.1:Nat):Int),((0:Int),(z4.1,())))))).bind fun w8=> match w8 with |.inl a9=>some (a9.1,(0:Int)) |.inr b10=>some (b10.2.1,b10.1)) else none))
theorem le_fixed_Back (x):Le (C_fixed_Back x) (F_fixed_Back x):=by
 unfold C_fixed_Back F_fixed_Back
 try dsimp only
 repeat' (first|exact Lr _|exact le_fixed_wide _|exact Li le_fixed_Back_l0|apply Lf|refine Lb ?_ fun _=>?_|(rename_i w;cases w)|(rename_i w _;cases w))
def C_linear_wide (x:Int):Option Bool:= bif decide (x≥(-1073741824:Int)) then some (decide (x<(1073741824:Int))) else some false
theorem le_linear_wide (x):Le (C_linear_wide x) (F_linear_wide x):=by
 unfold C_linear_wide F_linear_wide
 try dsimp only
 repeat' (first|exact Lr _|apply Lf|refine Lb ?_ fun _=>?_|(rename_i w;cases w)|(rename_i w _;cases w))
def C_linear_allWide_l0 (st:Z13):Option Z69:= bif decide (st.2.2.1<st.2.1) then ((gidx st.1 st.2.2.1).bind fun x1=> (C_linear_wide x1).bind fun y2=> bif !y2 then some (.inr (Sum.inr ((false,())))) else some (.inl (st.1,(st.2.1,(IntKind.wrap .i64 (st.2.2.1+(1:Int)),()))))) else some (.inr (Sum.inl ()))
theorem le_linear_allWide_l0 (st):Le (C_linear_allWide_l0 st) (F_linear_allWide_l0 st):=by
 unfold C_linear_allWide_l0 F_linear_allWide_l0
 try dsimp only
 repeat' (first|exact Lr _|exact le_linear_wide _|apply Lf|refine Lb ?_ fun _=>?_|(rename_i w;cases w)|(rename_i w _;cases w))
def C_linear_allWide (x:(List Int)):Option Bool:= (iterN C_linear_allWide_l0 400 (x,(((List.length x:Nat):Int),((0:Int),())))).bind fun w3=> match w3 with |.inl a4=>some true |.inr b5=>some b5.1
theorem le_linear_allWide (x):Le (C_linear_allWide x) (F_linear_allWide x):=by
 unfold C_linear_allWide F_linear_allWide
 try dsimp only
 repeat' (first|exact Lr _|exact Li le_linear_allWide_l0|apply Lf|refine Lb ?_ fun _=>?_|(rename_i w;cases w)|(rename_i w _;cases w))
def C_linear_predict_l0 (st:Z76):Option (Z76 ⊕ (Int×(Int×Unit))):= bif decide (st.2.2.2.2.2.1<st.2.2.2.2.1) then ((gidx st.2.2.2.1 st.2.2.2.2.2.1).bind fun x1=> bif decide ((IntKind.wrap .i64 ((IntKind.wrap .i64 (((List.length st.1:Nat):Int)-(1:Int)))-st.2.2.2.2.2.1))<(0:Int)) then some (.inr (st.2.1,(st.2.2.1,()))) else ((gidx st.1 (IntKind.wrap .i64 ((IntKind.wrap .i64 (((List.length st.1:Nat):Int)-(1:Int)))-st.2.2.2.2.2.1))).bind fun x2=> some (.inl (st.1,(st.2.1,(IntKind.wrap .i64 (st.2.2.1+(IntKind.wrap .i64 (x1*x2))),(st.2.2.2.1,(st.2.2.2.2.1,(IntKind.wrap .i64 (st.2.2.2.2.2.1+(1:Int)),()))))))))) else some (.inr (st.2.1,(st.2.2.1,())))
theorem le_linear_predict_l0 (st):Le (C_linear_predict_l0 st) (F_linear_predict_l0 st):=by
 unfold C_linear_predict_l0 F_linear_predict_l0
 try dsimp only
 repeat' (first|exact Lr _|apply Lf|refine Lb ?_ fun _=>?_|(rename_i w;cases w)|(rename_i w _;cases w))
def C_linear_predict (x:Z10):Option Int:= (iterN C_linear_predict_l0 400 (x.1,(x.2.2,((0:Int),(x.2.1,(((List.length x.2.1:Nat):Int),((0:Int),()))))))).bind fun w3=> bif decide (w3.1<0) then none else some (gshr .i64 w3.2.1 w3.1)
theorem le_linear_predict (x):Le (C_linear_predict x) (F_linear_predict x):=by
 unfold C_linear_predict F_linear_predict
 try dsimp only
 repeat' (first|exact Lr _|exact Li le_linear_predict_l0|apply Lf|refine Lb ?_ fun _=>?_|(rename_i w;cases w)|(rename_i w _;cases w))
def C_linear_Back_l0 (st:Z92):Option (Z92 ⊕ Z44):= bif decide (st.2.2.2.2.1<st.2.2.2.1) then ((gidx st.2.2.1 st.2.2.2.2.1).bind fun x6=> (C_linear_predict (st.2.2.2.2.2.1,(st.1,st.2.1))).bind fun y7=> (C_linear_wide (IntKind.wrap .i64 (y7+x6))).bind fun y8=> bif !y8 then some (.inr (Sum.inr (((6:Int),(([]:(List Int)),()))))) else (bif lim ((List.length st.2.2.2.2.2.1)+1) then some (.inl (st.1,(st.2.1,(st.2.2.1,(st.2.2.2.1,(IntKind.wrap .i64 (st.2.2.2.2.1+(1:Int)),(List.append st.2.2.2.2.2.1 ([IntKind.wrap .i64 (y7+x6)]:List Int),()))))))) else none)) else some (.inr (Sum.inl (st.2.2.2.2.2.1,())))
theorem le_linear_Back_l0 (st):Le (C_linear_Back_l0 st) (F_linear_Back_l0 st):=by
 unfold C_linear_Back_l0 F_linear_Back_l0
 try dsimp only
 repeat' (first|exact Lr _|exact le_linear_predict _|exact le_linear_wide _|apply Lf|refine Lb ?_ fun _=>?_|(rename_i w;cases w)|(rename_i w _;cases w))
def C_linear_Back (x:((List Int)×Z10)):Option ((List Int)×Int):= (show Option Z79 from (C_linear_May (x.2.2.1,x.2.2.2)).bind fun y1=> bif !y1 then some (x.1,(x.2.1,(x.2.2.1,(x.2.2.2,(true,()))))) else some (x.1,(x.2.1,(x.2.2.1,(x.2.2.2,(((List.length x.1:Nat):Int) != ((List.length x.2.2.1:Nat):Int),())))))).bind fun z2=> bif z2.2.2.2.2.1 then some (([]:(List Int)),(1:Int)) else ((show Option Z79 from (C_linear_allWide z2.1).bind fun y3=> bif !y3 then some (z2.1,(z2.2.1,(z2.2.2.1,(z2.2.2.2.1,(true,()))))) else ((C_linear_allWide z2.2.1).bind fun y4=> some (z2.1,(z2.2.1,(z2.2.2.1,(z2.2.2.2.1,(!y4,()))))))).bind fun z5=> bif z5.2.2.2.2.1 then some (([]:(List Int)),(6:Int)) else (bif (decide ((0:Int)≤(IntKind.wrap .i64 (((List.length z5.1:Nat):Int)+((List.length z5.2.1:Nat):Int)))))&&(lim (Int.toNat (IntKind.wrap .i64 (((List.length z5.1:Nat):Int)+((List.length z5.2.1:Nat):Int))))) then (bif lim (0+(List.length z5.1)) then ((iterN C_linear_Back_l0 400 (z5.2.2.1,(z5.2.2.2.1,(z5.2.1,(((List.length z5.2.1:Nat):Int),((0:Int),(List.append ([]:(List Int)) z5.1,()))))))).bind fun w9=> match w9 with |.inl a10=>some (a10.1,(0:Int)) |.inr b11=>some (b11.2.1,b11.1)) else none) else none))
theorem le_linear_Back (x):Le (C_linear_Back x) (F_linear_Back x):=by
 unfold C_linear_Back F_linear_Back
 try dsimp only
 repeat' (first|exact Lr _|exact le_linear_May _|exact le_linear_allWide _|exact Li le_linear_Back_l0|apply Lf|refine Lb ?_ fun _=>?_|(rename_i w;cases w)|(rename_i w _;cases w))
def C_long_wide (x:Int):Option Bool:= bif decide (x≥(-1073741824:Int)) then some (decide (x<(1073741824:Int))) else some false
theorem le_long_wide (x):Le (C_long_wide x) (F_long_wide x):=by
 unfold C_long_wide F_long_wide
 try dsimp only
 repeat' (first|exact Lr _|apply Lf|refine Lb ?_ fun _=>?_|(rename_i w;cases w)|(rename_i w _;cases w))
def C_long_allWide_l0 (st:Z13):Option Z69:= bif decide (st.2.2.1<st.2.1) then ((gidx st.1 st.2.2.1).bind fun x1=> (C_long_wide x1).bind fun y2=> bif !y2 then some (.inr (Sum.inr ((false,())))) else some (.inl (st.1,(st.2.1,(IntKind.wrap .i64 (st.2.2.1+(1:Int)),()))))) else some (.inr (Sum.inl ()))
theorem le_long_allWide_l0 (st):Le (C_long_allWide_l0 st) (F_long_allWide_l0 st):=by
 unfold C_long_allWide_l0 F_long_allWide_l0
 try dsimp only
 repeat' (first|exact Lr _|exact le_long_wide _|apply Lf|refine Lb ?_ fun _=>?_|(rename_i w;cases w)|(rename_i w _;cases w))
def C_long_allWide (x:(List Int)):Option Bool:= (iterN C_long_allWide_l0 400 (x,(((List.length x:Nat):Int),((0:Int),())))).bind fun w3=> match w3 with |.inl a4=>some true |.inr b5=>some b5.1
theorem le_long_allWide (x):Le (C_long_allWide x) (F_long_allWide x):=by
 unfold C_long_allWide F_long_allWide
 try dsimp only
 repeat' (first|exact Lr _|exact Li le_long_allWide_l0|apply Lf|refine Lb ?_ fun _=>?_|(rename_i w;cases w)|(rename_i w _;cases w))
def C_long_predict_l0 (st:Z77):Option (Z77 ⊕ (Int×Unit)):= bif decide (st.2.2.2.2.2.1<(3:Int)) then ((gidx st.2.2.2.2.1 st.2.2.2.2.2.1).bind fun x1=> bif decide ((IntKind.wrap .i64 ((IntKind.wrap .i64 ((IntKind.wrap .i64 (st.2.1-st.2.2.1))-(1:Int)))+st.2.2.2.2.2.1))≥(0:Int)) then ((gidx st.1 (IntKind.wrap .i64 ((IntKind.wrap .i64 ((IntKind.wrap .i64 (st.2.1-st.2.2.1))-(1:Int)))+st.2.2.2.2.2.1))).bind fun x2=> some (.inl (st.1,(st.2.1,(st.2.2.1,(IntKind.wrap .i64 (st.2.2.2.1+(IntKind.wrap .i64 (x1*x2))),(st.2.2.2.2.1,(IntKind.wrap .i64 (st.2.2.2.2.2.1+(1:Int)),())))))))) else some (.inl (st.1,(st.2.1,(st.2.2.1,(st.2.2.2.1,(st.2.2.2.2.1,(IntKind.wrap .i64 (st.2.2.2.2.2.1+(1:Int)),())))))))) else some (.inr (st.2.2.2.1,()))
theorem le_long_predict_l0 (st):Le (C_long_predict_l0 st) (F_long_predict_l0 st):=by
 unfold C_long_predict_l0 F_long_predict_l0
 try dsimp only
 repeat' (first|exact Lr _|apply Lf|refine Lb ?_ fun _=>?_|(rename_i w;cases w)|(rename_i w _;cases w))
def C_long_predict (x:((List Int)×Z1)):Option Int:= (iterN C_long_predict_l0 400 (x.1,(x.2.1,(x.2.2.1,((0:Int),(x.2.2.2,((0:Int),()))))))).bind fun w3=> some (gshr .i64 w3.1 (6:Int))
theorem le_long_predict (x):Le (C_long_predict x) (F_long_predict x):=by
 unfold C_long_predict F_long_predict
 try dsimp only
 repeat' (first|exact Lr _|exact Li le_long_predict_l0|apply Lf|refine Lb ?_ fun _=>?_|(rename_i w;cases w)|(rename_i w _;cases w))
def C_long_Back_l0 (st:Z91):Option (Z91 ⊕ Z44):= bif decide (st.2.2.2.1<st.2.2.1) then ((gidx st.2.1 st.2.2.2.1).bind fun x3=> (C_long_predict (st.2.2.2.2.1,(st.2.2.2.1,(st.1,st.2.2.2.2.2.1)))).bind fun y4=> (C_long_wide (IntKind.wrap .i64 (x3+y4))).bind fun y5=> bif !y5 then some (.inr (Sum.inr (((6:Int),(([]:(List Int)),()))))) else (bif lim ((List.length st.2.2.2.2.1)+1) then some (.inl (st.1,(st.2.1,(st.2.2.1,(IntKind.wrap .i64 (st.2.2.2.1+(1:Int)),(List.append st.2.2.2.2.1 ([IntKind.wrap .i64 (x3+y4)]:List Int),(st.2.2.2.2.2.1,()))))))) else none)) else some (.inr (Sum.inl (st.2.2.2.2.1,())))
theorem le_long_Back_l0 (st):Le (C_long_Back_l0 st) (F_long_Back_l0 st):=by
 unfold C_long_Back_l0 F_long_Back_l0
 try dsimp only
 repeat' (first|exact Lr _|exact le_long_predict _|exact le_long_wide _|apply Lf|refine Lb ?_ fun _=>?_|(rename_i w;cases w)|(rename_i w _;cases w))
def C_long_Back (x:Z11):Option ((List Int)×Int):= (C_long_May (x.2.1,x.2.2)).bind fun y1=> bif !y1 then some (([]:(List Int)),(1:Int)) else ((C_long_allWide x.1).bind fun y2=> bif !y2 then some (([]:(List Int)),(6:Int)) else (bif (decide ((0:Int)≤((List.length x.1:Nat):Int)))&&(lim (Int.toNat ((List.length x.1:Nat):Int))) then ((iterN C_long_Back_l0 400 (x.2.1,(x.1,(((List.length x.1:Nat):Int),((0:Int),(([]:(List Int)),(x.2.2,()))))))).bind fun w6=> match w6 with |.inl a7=>some (a7.1,(0:Int)) |.inr b8=>some (b8.2.1,b8.1)) else none))
theorem le_long_Back (x):Le (C_long_Back x) (F_long_Back x):=by
 unfold C_long_Back F_long_Back
 try dsimp only
 repeat' (first|exact Lr _|exact le_long_May _|exact le_long_allWide _|exact Li le_long_Back_l0|apply Lf|refine Lb ?_ fun _=>?_|(rename_i w;cases w)|(rename_i w _;cases w))
def C_learn_wide (x:Int):Option Bool:= bif decide (x≥(-1073741824:Int)) then some (decide (x<(1073741824:Int))) else some false
theorem le_learn_wide (x):Le (C_learn_wide x) (F_learn_wide x):=by
 unfold C_learn_wide F_learn_wide
 try dsimp only
 repeat' (first|exact Lr _|apply Lf|refine Lb ?_ fun _=>?_|(rename_i w;cases w)|(rename_i w _;cases w))
def C_learn_allWide_l0 (st:Z13):Option Z69:= bif decide (st.2.2.1<st.2.1) then ((gidx st.1 st.2.2.1).bind fun x1=> (C_learn_wide x1).bind fun y2=> bif !y2 then some (.inr (Sum.inr ((false,())))) else some (.inl (st.1,(st.2.1,(IntKind.wrap .i64 (st.2.2.1+(1:Int)),()))))) else some (.inr (Sum.inl ()))
theorem le_learn_allWide_l0 (st):Le (C_learn_allWide_l0 st) (F_learn_allWide_l0 st):=by
 unfold C_learn_allWide_l0 F_learn_allWide_l0
 try dsimp only
 repeat' (first|exact Lr _|exact le_learn_wide _|apply Lf|refine Lb ?_ fun _=>?_|(rename_i w;cases w)|(rename_i w _;cases w))
def C_learn_allWide (x:(List Int)):Option Bool:= (iterN C_learn_allWide_l0 400 (x,(((List.length x:Nat):Int),((0:Int),())))).bind fun w3=> match w3 with |.inl a4=>some true |.inr b5=>some b5.1
theorem le_learn_allWide (x):Le (C_learn_allWide x) (F_learn_allWide x):=by
 unfold C_learn_allWide F_learn_allWide
 try dsimp only
 repeat' (first|exact Lr _|exact Li le_learn_allWide_l0|apply Lf|refine Lb ?_ fun _=>?_|(rename_i w;cases w)|(rename_i w _;cases w))
def C_learn_New (x:(Int×(Int×Unit))):Option Z42:= (C_learn_valid x).bind fun y1=> bif !y1 then none else (bif (decide ((0:Int)≤x.1))&&((decide (x.1≤x.1))&&(lim (Int.toNat x.1))) then (bif (decide ((0:Int)≤x.1))&&((decide (x.1≤x.1))&&(lim (Int.toNat x.1))) then some ((x.2.1,(List.replicate (Int.toNat x.1) (0:Int),(List.replicate (Int.toNat x.1) (0:Int),()))),(0:Int)) else none) else none)
theorem le_learn_New (x):Le (C_learn_New x) (F_learn_New x):=by
 unfold C_learn_New F_learn_New
 try dsimp only
 repeat' (first|exact Lr _|exact le_learn_valid _|apply Lf|refine Lb ?_ fun _=>?_|(rename_i w;cases w)|(rename_i w _;cases w))
def C_learn_nearest (x:Int):Option Int:= some (imin (imax x (-1073741824:Int)) (1073741823:Int))
theorem le_learn_nearest (x):Le (C_learn_nearest x) (F_learn_nearest x):=by
 unfold C_learn_nearest F_learn_nearest
 try dsimp only
 repeat' (first|exact Lr _|apply Lf|refine Lb ?_ fun _=>?_|(rename_i w;cases w)|(rename_i w _;cases w))
def C_learn_Filter_Guess_l0 (st:Z98):Option (Z98 ⊕ Z63):= bif decide (st.2.2.1<st.2.1) then (bif (decide ((0:Int)≤st.2.2.1))&&(decide (st.2.2.1<((List.length st.2.2.2.1.2.1:Nat):Int))) then (bif (decide ((0:Int)≤st.2.2.1))&&(decide (st.2.2.1<((List.length st.2.2.2.1.2.2.1:Nat):Int))) then some (.inl (IntKind.wrap .i64 (st.1+(IntKind.wrap .i64 ((List.getD st.2.2.2.1.2.1 (Int.toNat st.2.2.1) (0:Int))*(List.getD st.2.2.2.1.2.2.1 (Int.toNat st.2.2.1) (0:Int))))),(st.2.1,(IntKind.wrap .i64 (st.2.2.1+(1:Int)),(st.2.2.2.1,()))))) else none) else none) else some (.inr (st.1,(st.2.2.2.1,())))
theorem le_learn_Filter_Guess_l0 (st):Le (C_learn_Filter_Guess_l0 st) (F_learn_Filter_Guess_l0 st):=by
 unfold C_learn_Filter_Guess_l0 F_learn_Filter_Guess_l0
 try dsimp only
 repeat' (first|exact Lr _|apply Lf|refine Lb ?_ fun _=>?_|(rename_i w;cases w)|(rename_i w _;cases w))
def C_learn_Filter_Guess (x:Z23):Option Z41:= (iterN C_learn_Filter_Guess_l0 400 ((0:Int),(((List.length x.2.1:Nat):Int),((0:Int),(x,()))))).bind fun w1=> (C_learn_nearest (gshr .i64 w1.1 (16:Int))).bind fun y2=> some (y2,w1.2.1)
theorem le_learn_Filter_Guess (x):Le (C_learn_Filter_Guess x) (F_learn_Filter_Guess x):=by
 unfold C_learn_Filter_Guess F_learn_Filter_Guess
 try dsimp only
 repeat' (first|exact Lr _|exact le_learn_nearest _|exact Li le_learn_Filter_Guess_l0|apply Lf|refine Lb ?_ fun _=>?_|(rename_i w;cases w)|(rename_i w _;cases w))
def C_learn_Filter_Tell_l0 (st:Z108):Option (Z108 ⊕ Z63):= bif decide (st.2.2.2.1<st.2.2.1) then (bif (decide ((0:Int)≤st.2.2.2.1))&&(decide (st.2.2.2.1<((List.length st.2.2.2.2.1.2.2.1:Nat):Int))) then (bif (decide ((0:Int)≤st.2.2.2.1))&&(decide (st.2.2.2.1<((List.length st.2.2.2.2.1.2.1:Nat):Int))) then ((show Option (Int×(Int×Z108)) from bif decide ((List.getD st.2.2.2.2.1.2.2.1 (Int.toNat st.2.2.2.1) (0:Int)) > (0:Int)) then some (st.1,(st.2.1,(st.2.2.2.1,(IntKind.wrap .i64 ((List.getD st.2.2.2.2.1.2.1 (Int.toNat st.2.2.2.1) (0:Int))+st.2.1),(st.2.2.1,(st.2.2.2.1,(st.2.2.2.2.1,()))))))) else (bif decide ((List.getD st.2.2.2.2.1.2.2.1 (Int.toNat st.2.2.2.1) (0:Int))<(0:Int)) then some (st.1,(st.2.1,(st.2.2.2.1,(IntKind.wrap .i64 ((List.getD st.2.2.2.2.1.2.1 (Int.toNat st.2.2.2.1) (0:Int))-st.2.1),(st.2.2.1,(st.2.2.2.1,(st.2.2.2.2.1,()))))))) else some (st.1,(st.2.1,(st.2.2.2.1,(List.getD st.2.2.2.2.1.2.1 (Int.toNat st.2.2.2.1) (0:Int),(st.2.2.1,(st.2.2.2.1,(st.2.2.2.2.1,()))))))))).bind fun z4=> bif (decide ((0:Int)≤z4.2.2.1))&&(decide (z4.2.2.1<((List.length z4.2.2.2.2.2.2.1.2.1:Nat):Int))) then some (.inl (z4.1,(z4.2.1,(z4.2.2.2.2.1,(IntKind.wrap .i64 (z4.2.2.2.2.2.1+(1:Int)),((z4.2.2.2.2.2.2.1.1,(List.set z4.2.2.2.2.2.2.1.2.1 (Int.toNat z4.2.2.1) (imin (imax z4.2.2.2.1 (-1048576:Int)) (1048576:Int)),z4.2.2.2.2.2.2.1.2.2)),())))))) else none) else none) else none) else some (.inr (st.1,(st.2.2.2.2.1,())))
theorem le_learn_Filter_Tell_l0 (st):Le (C_learn_Filter_Tell_l0 st) (F_learn_Filter_Tell_l0 st):=by
 unfold C_learn_Filter_Tell_l0 F_learn_Filter_Tell_l0
 try dsimp only
 repeat' (first|exact Lr _|apply Lf|refine Lb ?_ fun _=>?_|(rename_i w;cases w)|(rename_i w _;cases w))
def C_learn_Filter_Tell (x:Z42):Option Z23:= (C_learn_nearest x.2).bind fun y1=> (show Option Z82 from (C_learn_Filter_Guess x.1).bind fun y2=> bif decide (y1 > y2.1) then (bif decide (y2.2.1<0) then none else some (y1,(gshl .i64 (1:Int) y2.2.1,(y2.2,())))) else (bif decide (y1<y2.1) then (bif decide (y2.2.1<0) then none else some (y1,(IntKind.wrap .i64 (0-(gshl .i64 (1:Int) y2.2.1)),(y2.2,())))) else some (y1,((0:Int),(y2.2,()))))).bind fun z3=> (iterN C_learn_Filter_Tell_l0 400 (z3.1,(z3.2.1,(((List.length z3.2.2.1.2.2.1:Nat):Int),((0:Int),(z3.2.2.1,())))))).bind fun w5=> bif decide ((1:Int)≤((List.length w5.2.1.2.2.1:Nat):Int)) then (bif decide ((0:Int)<((List.length (gcopy w5.2.1.2.2.1 1 ((List.length w5.2.1.2.2.1)-1) w5.2.1.2.2.1):Nat):Int)) then some (w5.2.1.1,(w5.2.1.2.1,(List.set (gcopy w5.2.1.2.2.1 1 ((List.length w5.2.1.2.2.1)-1) w5.2.1.2.2.1) 0 w5.1,w5.2.1.2.2.2))) else none) else none
theorem le_learn_Filter_Tell (x):Le (C_learn_Filter_Tell x) (F_learn_Filter_Tell x):=by
 unfold C_learn_Filter_Tell F_learn_Filter_Tell
 try dsimp only
 repeat' (first|exact Lr _|exact le_learn_nearest _|exact le_learn_Filter_Guess _|exact Li le_learn_Filter_Tell_l0|apply Lf|refine Lb ?_ fun _=>?_|(rename_i w;cases w)|(rename_i w _;cases w))
def C_learn_Back_l1 (st:Z132):Option (Z132 ⊕ (Z25 ⊕ Z25)):= bif decide (st.2.1<st.1) then (bif (decide ((0:Int)≤st.2.1))&&(decide (st.2.1<((List.length st.2.2.2.2.1:Nat):Int))) then ((C_learn_Filter_Guess st.2.2.2.2.2.1).bind fun y6=> (C_learn_wide (IntKind.wrap .i64 (y6.1+(List.getD st.2.2.2.2.1 (Int.toNat st.2.1) (0:Int))))).bind fun y7=> bif !y7 then some (.inr (Sum.inr ((([]:(List Int)),((6:Int),(st.2.2.2.2.1,())))))) else ((C_learn_Filter_Tell (y6.2,IntKind.wrap .i64 (y6.1+(List.getD st.2.2.2.2.1 (Int.toNat st.2.1) (0:Int))))).bind fun y8=> bif (decide ((0:Int)≤st.2.1))&&(decide (st.2.1<((List.length st.2.2.2.2.1:Nat):Int))) then some (.inl (st.1,(IntKind.wrap .i64 (st.2.1+(1:Int)),(st.2.2.1,(st.2.2.2.1,(List.set st.2.2.2.2.1 (Int.toNat st.2.1) (IntKind.wrap .i64 (y6.1+(List.getD st.2.2.2.2.1 (Int.toNat st.2.1) (0:Int)))),(y8,()))))))) else none)) else none) else some (.inr (Sum.inl (st.2.2.1,(st.2.2.2.1,(st.2.2.2.2.1,())))))
theorem le_learn_Back_l1 (st):Le (C_learn_Back_l1 st) (F_learn_Back_l1 st):=by
 unfold C_learn_Back_l1 F_learn_Back_l1
 try dsimp only
 repeat' (first|exact Lr _|exact le_learn_Filter_Guess _|exact le_learn_wide _|exact le_learn_Filter_Tell _|apply Lf|refine Lb ?_ fun _=>?_|(rename_i w;cases w)|(rename_i w _;cases w))
def C_learn_Back_l0 (k:Int) (v:(Int×(Int×Unit))) (st:Z95):Option (Z95 ⊕ (Ex×Z95)):= (C_learn_New v).bind fun y4=> bif y4.2 != (0:Int) then some (.inr (.ret,(st.1,(([]:(List Int)),(y4.2,(st.2.2.2.1,())))))) else ((iterN C_learn_Back_l1 400 (((List.length st.2.2.2.1:Nat):Int),((0:Int),(st.2.1,(st.2.2.1,(st.2.2.2.1,(y4.1,()))))))).bind fun w9=> match w9 with |.inl a10=>some (.inl (st.1,(a10.1,(a10.2.1,(a10.2.2.1,()))))) |.inr b11=>some (.inr (.ret,(st.1,(b11.1,(b11.2.1,(b11.2.2.1,())))))))
theorem le_learn_Back_l0 (k) (v) (st):Le (C_learn_Back_l0 k v st) (F_learn_Back_l0 k v st):=by
 unfold C_learn_Back_l0 F_learn_Back_l0
 try dsimp only
 repeat' (first|exact Lr _|exact le_learn_New _|exact Li le_learn_Back_l1|apply Lf|refine Lb ?_ fun _=>?_|(rename_i w;cases w)|(rename_i w _;cases w))
def C_learn_Back (x:Z24):Option ((List Int)×Int):= (C_learn_May x.2).bind fun y1=> bif !y1 then some (([]:(List Int)),(1:Int)) else ((C_learn_allWide x.1).bind fun y2=> bif !y2 then some (([]:(List Int)),(6:Int)) else ((C_slices_Clone___int_int_ x.1).bind fun y3=> bif lim (List.length x.2) then ((backN C_learn_Back_l0 x.2 (List.length x.2) (x.2,(([]:(List Int)),((0:Int),(y3,()))))).bind fun w12=> match w12 with |.inl a13=>some (a13.2.2.2.1,(0:Int)) |.inr (.normal,a14)=>some (a14.2.2.2.1,(0:Int)) |.inr (.exit e15,a14)=>(bif e15==0 then some (a14.2.2.2.1,(0:Int)) else none) |.inr (.ret,a14)=>some (a14.2.1,a14.2.2.1)) else none))
theorem le_learn_Back (x):Le (C_learn_Back x) (F_learn_Back x):=by
 unfold C_learn_Back F_learn_Back
 try dsimp only
 repeat' (first|exact Lr _|exact le_learn_May _|exact le_learn_allWide _|exact le_slices_Clone___int_int_ _|exact Le.backN le_learn_Back_l0 _ _ _|apply Lf|refine Lb ?_ fun _=>?_|(rename_i w;cases w)|(rename_i w _;cases w))
def C_sample_wide (x:Int):Option Bool:= bif decide ((-1073741824:Int)≤x) then some (decide (x<(1073741824:Int))) else some false
theorem le_sample_wide (x):Le (C_sample_wide x) (F_sample_wide x):=by
 unfold C_sample_wide F_sample_wide
 try dsimp only
 repeat' (first|exact Lr _|apply Lf|refine Lb ?_ fun _=>?_|(rename_i w;cases w)|(rename_i w _;cases w))
def C_sample_Up_l0 (st:Z57):Option Z138:= bif decide (st.2.2.2.1<st.2.2.1) then ((gidx st.2.1 st.2.2.2.1).bind fun x2=> (show Option Z97 from (C_sample_wide x2).bind fun y3=> bif !y3 then some (st.1,(x2,(st.2.1,(st.2.2.1,(st.2.2.2.1,(true,(st.2.2.2.2.1,()))))))) else (bif decide (st.1<0) then none else ((C_sample_wide (gshl .i64 x2 st.1)).bind fun y4=> some (st.1,(x2,(st.2.1,(st.2.2.1,(st.2.2.2.1,(!y4,(st.2.2.2.2.1,())))))))))).bind fun z5=> bif z5.2.2.2.2.2.1 then some (.inr (Sum.inr (((6:Int),(([]:(List Int)),()))))) else (bif decide (z5.1<0) then none else (bif lim ((List.length z5.2.2.2.2.2.2.1)+1) then some (.inl (z5.1,(z5.2.2.1,(z5.2.2.2.1,(IntKind.wrap .i64 (z5.2.2.2.2.1+(1:Int)),(List.append z5.2.2.2.2.2.2.1 ([gshl .i64 z5.2.1 z5.1]:List Int),())))))) else none))) else some (.inr (Sum.inl (st.2.2.2.2.1,())))
theorem le_sample_Up_l0 (st):Le (C_sample_Up_l0 st) (F_sample_Up_l0 st):=by
 unfold C_sample_Up_l0 F_sample_Up_l0
 try dsimp only
 repeat' (first|exact Lr _|exact le_sample_wide _|apply Lf|refine Lb ?_ fun _=>?_|(rename_i w;cases w)|(rename_i w _;cases w))
def C_sample_Up (x:((List Int)×Int)):Option ((List Int)×Int):= (show Option Z18 from bif decide (x.2<(0:Int)) then some (x.1,(x.2,(true,()))) else some (x.1,(x.2,(decide (x.2 > (30:Int)),())))).bind fun z1=> bif z1.2.2.1 then some (([]:(List Int)),(1:Int)) else ((iterN C_sample_Up_l0 400 (z1.2.1,(z1.1,(((List.length z1.1:Nat):Int),((0:Int),(([]:(List Int)),())))))).bind fun w6=> match w6 with |.inl a7=>some (a7.1,(0:Int)) |.inr b8=>some (b8.2.1,b8.1))
theorem le_sample_Up (x):Le (C_sample_Up x) (F_sample_Up x):=by
 unfold C_sample_Up F_sample_Up
 try dsimp only
 repeat' (first|exact Lr _|exact Li le_sample_Up_l0|apply Lf|refine Lb ?_ fun _=>?_|(rename_i w;cases w)|(rename_i w _;cases w))
def C_sub_back_l0 (st:Z185):Option (Z185 ⊕ ((List Int)×Unit)):= bif decide (st.2.1<st.1) then ((gidx st.2.2.2.1.2.2.2.2.2.2.2.2.1 (0:Int)).bind fun x1=> bif lim ((List.length st.2.2.1)+1) then some (.inl (st.1,(IntKind.wrap .i64 (st.2.1+(1:Int)),(List.append st.2.2.1 ([x1]:List Int),(st.2.2.2.1,()))))) else none) else some (.inr (st.2.2.1,()))
theorem le_sub_back_l0 (st):Le (C_sub_back_l0 st) (F_sub_back_l0 st):=by
 unfold C_sub_back_l0 F_sub_back_l0
 try dsimp only
 repeat' (first|exact Lr _|apply Lf|refine Lb ?_ fun _=>?_|(rename_i w;cases w)|(rename_i w _;cases w))
def C_sub_back (x:Z167):Option ((List Int)×Int):= (show Option (Z180 ⊕ Z3) from bif x.1.1==(0:Int) then ((iterN C_sub_back_l0 400 (x.2,((0:Int),(([]:(List Int)),(x.1,()))))).bind fun w2=> some (Sum.inr (((0:Int),(w2.1,()))))) else (bif x.1.1==(1:Int) then some (Sum.inl (x.1.2.2.2.2.2.2.2.2.1,((0:Int),(x.1,())))) else (bif x.1.1==(2:Int) then ((C_fixed_Back (x.1.2.2.2.2.2.2.2.2.1,(x.1.2.2.2.2.2.2.2.2.2.2.1,x.1.2.2.1))).bind fun y3=> some (Sum.inl (y3.1,(y3.2,(x.1,()))))) else (bif x.1.1==(3:Int) then ((C_linear_Back (x.1.2.2.2.2.2.2.2.2.1,(x.1.2.2.2.2.2.2.2.2.2.2.1,(x.1.2.2.2.2.2.1,x.1.2.2.2.1)))).bind fun y4=> some (Sum.inl (y4.1,(y4.2,(x.1,()))))) else (bif x.1.1==(4:Int) then ((C_linear_Back (x.1.2.2.2.2.2.2.2.2.1,(x.1.2.2.2.2.2.2.2.2.2.2.1,(x.1.2.2.2.2.2.1,x.1.2.2.2.1)))).bind fun y5=> bif y5.2==(0:Int) then ((C_long_Back (y5.1,(x.1.2.2.2.2.1,x.1.2.2.2.2.2.2.1))).bind fun y6=> some (Sum.inl (y6.1,(y6.2,(x.1,()))))) else some (Sum.inl (y5.1,(y5.2,(x.1,()))))) else (bif x.1.1==(5:Int) then ((C_learn_Back (x.1.2.2.2.2.2.2.2.2.2.2.1,x.1.2.2.2.2.2.2.2.1)).bind fun y7=> some (Sum.inl (y7.1,(y7.2,(x.1,()))))) else some (Sum.inl (([]:(List Int)),((0:Int),(x.1,())))))))))).bind fun z8=> match z8 with |.inl a9=>(bif a9.2.1 != (0:Int) then some (([]:(List Int)),a9.2.1) else ((C_sample_Up (a9.1,a9.2.2.1.2.1)).bind fun y11=> some (y11.1,y11.2))) |.inr b10=>some (b10.2.1,b10.1)
theorem le_sub_back (x):Le (C_sub_back x) (F_sub_back x):=by
 unfold C_sub_back F_sub_back
 try dsimp only
 repeat' (first|exact Lr _|exact le_fixed_Back _|exact le_linear_Back _|exact le_long_Back _|exact le_learn_Back _|exact le_sample_Up _|exact Li le_sub_back_l0|apply Lf|refine Lb ?_ fun _=>?_|(rename_i w;cases w)|(rename_i w _;cases w))
def C_sub_Row (x:Z167):Option ((List Int)×Int):= (C_sub_stated (x.1,x.2)).bind fun y1=> bif !y1 then some (([]:(List Int)),(1:Int)) else ((C_sub_back (x.1,x.2)).bind fun y2=> bif y2.2 != (0:Int) then some (([]:(List Int)),(1:Int)) else some (y2.1,(0:Int)))
theorem le_sub_Row (x):Le (C_sub_Row x) (F_sub_Row x):=by
 unfold C_sub_Row F_sub_Row
 try dsimp only
 repeat' (first|exact Lr _|exact le_sub_stated _|exact le_sub_back _|apply Lf|refine Lb ?_ fun _=>?_|(rename_i w;cases w)|(rename_i w _;cases w))
def C_sub_May (x:Z167):Option Bool:= (C_sub_Row (x.1,x.2)).bind fun y1=> some (y1.2==(0:Int))
theorem le_sub_May (x):Le (C_sub_May x) (F_sub_May x):=by
 unfold C_sub_May F_sub_May
 try dsimp only
 repeat' (first|exact Lr _|exact le_sub_Row _|apply Lf|refine Lb ?_ fun _=>?_|(rename_i w;cases w)|(rename_i w _;cases w))
def C_bits_Writer_bit (x:Z16):Option Z4:= (show Option Z34 from bif (Int.tmod x.1.2.1 (8:Int))==(0:Int) then (bif lim ((List.length x.1.1)+1) then some (x.2,((List.append x.1.1 ([(0:Int)]:List Int),x.1.2),())) else none) else some (x.2,(x.1,()))).bind fun z1=> bif (decide ((0:Int)≤(IntKind.wrap .i64 (Int.tdiv z1.2.1.2.1 (8:Int)))))&&(decide ((IntKind.wrap .i64 (Int.tdiv z1.2.1.2.1 (8:Int)))<((List.length z1.2.1.1:Nat):Int))) then (bif decide ((IntKind.wrap .i64 ((7:Int)-(Int.tmod z1.2.1.2.1 (8:Int))))<0) then none else (bif (decide ((0:Int)≤(IntKind.wrap .i64 (Int.tdiv z1.2.1.2.1 (8:Int)))))&&(decide ((IntKind.wrap .i64 (Int.tdiv z1.2.1.2.1 (8:Int)))<((List.length z1.2.1.1:Nat):Int))) then some (List.set z1.2.1.1 (Int.toNat (IntKind.wrap .i64 (Int.tdiv z1.2.1.2.1 (8:Int)))) (bits .u8 .or (List.getD z1.2.1.1 (Int.toNat (IntKind.wrap .i64 (Int.tdiv z1.2.1.2.1 (8:Int)))) (0:Int)) (gshl .u8 z1.1 (IntKind.wrap .i64 ((7:Int)-(Int.tmod z1.2.1.2.1 (8:Int)))))),(IntKind.wrap .i64 (z1.2.1.2.1+(1:Int)),z1.2.1.2.2)) else none)) else none
theorem le_bits_Writer_bit (x):Le (C_bits_Writer_bit x) (F_bits_Writer_bit x):=by
 unfold C_bits_Writer_bit F_bits_Writer_bit
 try dsimp only
 repeat' (first|exact Lr _|apply Lf|refine Lb ?_ fun _=>?_|(rename_i w;cases w)|(rename_i w _;cases w))
def C_bits_Writer_Put_l0 (st:Z52):Option Z121:= bif decide (st.2.1≥(0:Int)) then (bif decide (st.2.1<0) then none else ((C_bits_Writer_bit (st.2.2.1,IntKind.wrap .u8 (bits .u64 .and (gshr .u64 st.1 st.2.1) (1:Int)))).bind fun y2=> some (.inl (st.1,(IntKind.wrap .i64 (st.2.1-(1:Int)),(y2,())))))) else some (.inr (st.2.2.1,()))
theorem le_bits_Writer_Put_l0 (st):Le (C_bits_Writer_Put_l0 st) (F_bits_Writer_Put_l0 st):=by
 unfold C_bits_Writer_Put_l0 F_bits_Writer_Put_l0
 try dsimp only
 repeat' (first|exact Lr _|exact le_bits_Writer_bit _|apply Lf|refine Lb ?_ fun _=>?_|(rename_i w;cases w)|(rename_i w _;cases w))
def C_bits_Writer_Put (x:Z31):Option Z15:= (show Option (Int×Z54) from bif decide (x.2.2<(0:Int)) then some (x.2.1,(x.2.2,(true,(x.1,())))) else (bif decide (x.2.2 > (64:Int)) then some (x.2.1,(x.2.2,(true,(x.1,())))) else (bif decide (x.2.2<0) then none else some (x.2.1,(x.2.2,((gshr .u64 x.2.1 x.2.2) != (0:Int),(x.1,()))))))).bind fun z1=> bif z1.2.2.1 then some ((1:Int),z1.2.2.2.1) else ((iterN C_bits_Writer_Put_l0 400 (z1.1,(IntKind.wrap .i64 (z1.2.1-(1:Int)),(z1.2.2.2.1,())))).bind fun w3=> some ((0:Int),w3.1))
theorem le_bits_Writer_Put (x):Le (C_bits_Writer_Put x) (F_bits_Writer_Put x):=by
 unfold C_bits_Writer_Put F_bits_Writer_Put
 try dsimp only
 repeat' (first|exact Lr _|exact Li le_bits_Writer_Put_l0|apply Lf|refine Lb ?_ fun _=>?_|(rename_i w;cases w)|(rename_i w _;cases w))
def C_sample_Low (x:Int):Option Int:= (show Option (Int×(Bool×Unit)) from bif decide (x<(1:Int)) then some (x,(true,())) else some (x,(decide (x > (31:Int)),()))).bind fun z1=> bif z1.2.1 then some (0:Int) else (bif decide ((IntKind.wrap .i64 (z1.1-(1:Int)))<0) then none else some (gshl .i64 (-1:Int) (IntKind.wrap .i64 (z1.1-(1:Int)))))
theorem le_sample_Low (x):Le (C_sample_Low x) (F_sample_Low x):=by
 unfold C_sample_Low F_sample_Low
 try dsimp only
 repeat' (first|exact Lr _|apply Lf|refine Lb ?_ fun _=>?_|(rename_i w;cases w)|(rename_i w _;cases w))
def C_sample_High (x:Int):Option Int:= (show Option (Int×(Bool×Unit)) from bif decide (x<(1:Int)) then some (x,(true,())) else some (x,(decide (x > (31:Int)),()))).bind fun z1=> bif z1.2.1 then some (0:Int) else (bif decide ((IntKind.wrap .i64 (z1.1-(1:Int)))<0) then none else some (IntKind.wrap .i64 ((gshl .i64 (1:Int) (IntKind.wrap .i64 (z1.1-(1:Int))))-(1:Int))))
theorem le_sample_High (x):Le (C_sample_High x) (F_sample_High x):=by
 unfold C_sample_High F_sample_High
 try dsimp only
 repeat' (first|exact Lr _|apply Lf|refine Lb ?_ fun _=>?_|(rename_i w;cases w)|(rename_i w _;cases w))
def C_sample_Fits (x:(Int×Int)):Option Bool:= bif decide (x.2≥(1:Int)) then (bif decide (x.2≤(31:Int)) then ((C_sample_Low x.2).bind fun y1=> bif decide (y1≤x.1) then ((C_sample_High x.2).bind fun y2=> some (decide (x.1≤y2))) else some false) else some false) else some false
theorem le_sample_Fits (x):Le (C_sample_Fits x) (F_sample_Fits x):=by
 unfold C_sample_Fits F_sample_Fits
 try dsimp only
 repeat' (first|exact Lr _|exact le_sample_Low _|exact le_sample_High _|apply Lf|refine Lb ?_ fun _=>?_|(rename_i w;cases w)|(rename_i w _;cases w))
def C_sample_Width_l0 (st:Z46):Option (Z46 ⊕ Z27):= bif st.2.1 != (0:Int) then (bif decide (st.1<(32:Int)) then ((C_sample_Fits (st.2.1,st.1)).bind fun y2=> bif !y2 then some (.inl (IntKind.wrap .i64 (st.1+(1:Int)),(st.2.1,(st.2.2.1,(st.2.2.2.1,(st.2.2.2.2.1,())))))) else some (.inr (st.1,(st.2.2.1,(st.2.2.2.1,(st.2.2.2.2.1,())))))) else some (.inr (st.1,(st.2.2.1,(st.2.2.2.1,(st.2.2.2.2.1,())))))) else some (.inr (st.1,(st.2.2.1,(st.2.2.2.1,(st.2.2.2.2.1,())))))
theorem le_sample_Width_l0 (st):Le (C_sample_Width_l0 st) (F_sample_Width_l0 st):=by
 unfold C_sample_Width_l0 F_sample_Width_l0
 try dsimp only
 repeat' (first|exact Lr _|exact le_sample_Fits _|apply Lf|refine Lb ?_ fun _=>?_|(rename_i w;cases w)|(rename_i w _;cases w))
def C_sample_Width_l1 (st:Z27):Option Z66:= bif decide (st.2.2.2.1<st.2.2.1) then ((gidx st.2.1 st.2.2.2.1).bind fun x1=> (iterN C_sample_Width_l0 400 (st.1,(x1,(st.2.1,(st.2.2.1,(st.2.2.2.1,())))))).bind fun w3=> some (.inl (w3.1,(w3.2.1,(w3.2.2.1,(IntKind.wrap .i64 (w3.2.2.2.1+(1:Int)),())))))) else some (.inr (st.1,()))
theorem le_sample_Width_l1 (st):Le (C_sample_Width_l1 st) (F_sample_Width_l1 st):=by
 unfold C_sample_Width_l1 F_sample_Width_l1
 try dsimp only
 repeat' (first|exact Lr _|exact Li le_sample_Width_l0|apply Lf|refine Lb ?_ fun _=>?_|(rename_i w;cases w)|(rename_i w _;cases w))
def C_sample_Width (x:(List Int)):Option Int:= (iterN C_sample_Width_l1 400 ((0:Int),(x,(((List.length x:Nat):Int),((0:Int),()))))).bind fun w4=> some w4.1
theorem le_sample_Width (x):Le (C_sample_Width x) (F_sample_Width x):=by
 unfold C_sample_Width F_sample_Width
 try dsimp only
 repeat' (first|exact Lr _|exact Li le_sample_Width_l1|apply Lf|refine Lb ?_ fun _=>?_|(rename_i w;cases w)|(rename_i w _;cases w))
def C_sub_putSigned (x:Z31):Option Z4:= bif decide (x.2.2<0) then none else ((C_bits_Writer_Put (x.1,(bits .u64 .and (IntKind.wrap .u64 x.2.1) (IntKind.wrap .u64 ((gshl .u64 (1:Int) x.2.2)-(1:Int))),x.2.2))).bind fun y1=> some y1.2)
theorem le_sub_putSigned (x):Le (C_sub_putSigned x) (F_sub_putSigned x):=by
 unfold C_sub_putSigned F_sub_putSigned
 try dsimp only
 repeat' (first|exact Lr _|exact le_bits_Writer_Put _|apply Lf|refine Lb ?_ fun _=>?_|(rename_i w;cases w)|(rename_i w _;cases w))
def C_sub_putCoefs_l0 (st:Z100):Option Z142:= bif decide (st.2.2.2.1<st.2.2.1) then ((gidx st.2.1 st.2.2.2.1).bind fun x6=> (C_sub_putSigned (st.2.2.2.2.1,(x6,st.1))).bind fun y7=> some (.inl (st.1,(st.2.1,(st.2.2.1,(IntKind.wrap .i64 (st.2.2.2.1+(1:Int)),(y7,()))))))) else some (.inr (st.2.2.2.2.1,()))
theorem le_sub_putCoefs_l0 (st):Le (C_sub_putCoefs_l0 st) (F_sub_putCoefs_l0 st):=by
 unfold C_sub_putCoefs_l0 F_sub_putCoefs_l0
 try dsimp only
 repeat' (first|exact Lr _|exact le_sub_putSigned _|apply Lf|refine Lb ?_ fun _=>?_|(rename_i w;cases w)|(rename_i w _;cases w))
def C_sub_putCoefs (x:(Z4×Z165)):Option Z4:= (C_bits_Writer_Put (x.1,(IntKind.wrap .u64 (IntKind.wrap .i64 (((List.length x.2.2.2.2.2.2.1:Nat):Int)-(1:Int))),(5:Int)))).bind fun y1=> (C_bits_Writer_Put (y1.2,(IntKind.wrap .u64 x.2.2.2.2.1,(4:Int)))).bind fun y2=> (C_sample_Width x.2.2.2.2.2.2.1).bind fun y3=> (C_bits_Writer_Put (y2.2,(IntKind.wrap .u64 y3,(5:Int)))).bind fun y4=> (iterN C_sub_putCoefs_l0 400 (y3,(x.2.2.2.2.2.2.1,(((List.length x.2.2.2.2.2.2.1:Nat):Int),((0:Int),(y4.2,())))))).bind fun w8=> some w8.1
theorem le_sub_putCoefs (x):Le (C_sub_putCoefs x) (F_sub_putCoefs x):=by
 unfold C_sub_putCoefs F_sub_putCoefs
 try dsimp only
 repeat' (first|exact Lr _|exact le_bits_Writer_Put _|exact le_sample_Width _|exact Li le_sub_putCoefs_l0|apply Lf|refine Lb ?_ fun _=>?_|(rename_i w;cases w)|(rename_i w _;cases w))
def C_parts_right_l0 (st:Z13):Option Z69:= bif decide (st.2.2.1<st.2.1) then ((gidx st.1 st.2.2.1).bind fun x3=> (show Option Z32 from bif decide (x3<(-1073741824:Int)) then some (st.1,(st.2.1,(st.2.2.1,(true,())))) else some (st.1,(st.2.1,(st.2.2.1,(decide (x3≥(1073741824:Int)),()))))).bind fun z4=> bif z4.2.2.2.1 then some (.inr (Sum.inr ((false,())))) else some (.inl (z4.1,(z4.2.1,(IntKind.wrap .i64 (z4.2.2.1+(1:Int)),()))))) else some (.inr (Sum.inl ()))
theorem le_parts_right_l0 (st):Le (C_parts_right_l0 st) (F_parts_right_l0 st):=by
 unfold C_parts_right_l0 F_parts_right_l0
 try dsimp only
 repeat' (first|exact Lr _|apply Lf|refine Lb ?_ fun _=>?_|(rename_i w;cases w)|(rename_i w _;cases w))
def C_parts_right (x:Z1):Option Bool:= (show Option Z7 from (C_parts_row (x.1,x.2.1)).bind fun y1=> bif !y1 then some (x.2.2,(true,())) else some (x.2.2,(((List.length x.2.2:Nat):Int) != (IntKind.wrap .i64 (x.1-x.2.1)),()))).bind fun z2=> bif z2.2.1 then some false else ((iterN C_parts_right_l0 400 (z2.1,(((List.length z2.1:Nat):Int),((0:Int),())))).bind fun w5=> match w5 with |.inl a6=>some true |.inr b7=>some b7.1)
theorem le_parts_right (x):Le (C_parts_right x) (F_parts_right x):=by
 unfold C_parts_right F_parts_right
 try dsimp only
 repeat' (first|exact Lr _|exact le_parts_row _|exact Li le_parts_right_l0|apply Lf|refine Lb ?_ fun _=>?_|(rename_i w;cases w)|(rename_i w _;cases w))
def C_parts_raw (x:(List Int)):Option Int:= (C_sample_Width x).bind fun y1=> some (IntKind.wrap .i64 ((5:Int)+(IntKind.wrap .i64 (y1*((List.length x:Nat):Int)))))
theorem le_parts_raw (x):Le (C_parts_raw x) (F_parts_raw x):=by
 unfold C_parts_raw F_parts_raw
 try dsimp only
 repeat' (first|exact Lr _|exact le_sample_Width _|apply Lf|refine Lb ?_ fun _=>?_|(rename_i w;cases w)|(rename_i w _;cases w))
def C_rice_parameter (x:Int):Option Bool:= bif decide ((0:Int)≤x) then some (decide (x≤(25:Int))) else some false
theorem le_rice_parameter (x):Le (C_rice_parameter x) (F_rice_parameter x):=by
 unfold C_rice_parameter F_rice_parameter
 try dsimp only
 repeat' (first|exact Lr _|apply Lf|refine Lb ?_ fun _=>?_|(rename_i w;cases w)|(rename_i w _;cases w))
def C_rice_wide (x:Int):Option Bool:= bif decide ((-1073741824:Int)≤x) then some (decide (x<(1073741824:Int))) else some false
theorem le_rice_wide (x):Le (C_rice_wide x) (F_rice_wide x):=by
 unfold C_rice_wide F_rice_wide
 try dsimp only
 repeat' (first|exact Lr _|apply Lf|refine Lb ?_ fun _=>?_|(rename_i w;cases w)|(rename_i w _;cases w))
def C_rice_Fold (x:Int):Option Int:= (C_rice_wide x).bind fun y1=> bif !y1 then some (0:Int) else (bif decide (x≥(0:Int)) then some (IntKind.wrap .u64 (IntKind.wrap .i64 ((2:Int)*x))) else some (IntKind.wrap .u64 (IntKind.wrap .i64 ((IntKind.wrap .i64 ((-2:Int)*x))-(1:Int)))))
theorem le_rice_Fold (x):Le (C_rice_Fold x) (F_rice_Fold x):=by
 unfold C_rice_Fold F_rice_Fold
 try dsimp only
 repeat' (first|exact Lr _|exact le_rice_wide _|apply Lf|refine Lb ?_ fun _=>?_|(rename_i w;cases w)|(rename_i w _;cases w))
def C_rice_Cost (x:(Int×Int)):Option Int:= (show Option Z9 from (C_rice_parameter x.1).bind fun y1=> bif !y1 then some (x.1,(x.2,(true,()))) else ((C_rice_wide x.2).bind fun y2=> some (x.1,(x.2,(!y2,()))))).bind fun z3=> bif z3.2.2.1 then some (0:Int) else ((C_rice_Fold z3.2.1).bind fun y4=> bif decide (z3.1<0) then none else (bif decide ((IntKind.wrap .i64 (gshr .u64 y4 z3.1))<(32:Int)) then some (IntKind.wrap .i64 ((IntKind.wrap .i64 ((IntKind.wrap .i64 (gshr .u64 y4 z3.1))+(1:Int)))+z3.1)) else some (65:Int)))
theorem le_rice_Cost (x):Le (C_rice_Cost x) (F_rice_Cost x):=by
 unfold C_rice_Cost F_rice_Cost
 try dsimp only
 repeat' (first|exact Lr _|exact le_rice_parameter _|exact le_rice_wide _|exact le_rice_Fold _|apply Lf|refine Lb ?_ fun _=>?_|(rename_i w;cases w)|(rename_i w _;cases w))
def C_rice_Sum_l0 (st:Z46):Option Z86:= bif decide (st.2.2.2.2.1<st.2.2.2.1) then ((gidx st.2.2.1 st.2.2.2.2.1).bind fun x1=> (C_rice_Cost (st.1,x1)).bind fun y2=> some (.inl (st.1,(IntKind.wrap .i64 (st.2.1+y2),(st.2.2.1,(st.2.2.2.1,(IntKind.wrap .i64 (st.2.2.2.2.1+(1:Int)),()))))))) else some (.inr (st.2.1,()))
theorem le_rice_Sum_l0 (st):Le (C_rice_Sum_l0 st) (F_rice_Sum_l0 st):=by
 unfold C_rice_Sum_l0 F_rice_Sum_l0
 try dsimp only
 repeat' (first|exact Lr _|exact le_rice_Cost _|apply Lf|refine Lb ?_ fun _=>?_|(rename_i w;cases w)|(rename_i w _;cases w))
def C_rice_Sum (x:(Int×(List Int))):Option Int:= (iterN C_rice_Sum_l0 400 (x.1,((0:Int),(x.2,(((List.length x.2:Nat):Int),((0:Int),())))))).bind fun w3=> some w3.1
theorem le_rice_Sum (x):Le (C_rice_Sum x) (F_rice_Sum x):=by
 unfold C_rice_Sum F_rice_Sum
 try dsimp only
 repeat' (first|exact Lr _|exact Li le_rice_Sum_l0|apply Lf|refine Lb ?_ fun _=>?_|(rename_i w;cases w)|(rename_i w _;cases w))
def C_parts_Cost_l0 (st:Z118):Option (Z118 ⊕ (Int×Unit)):= bif decide (st.2.2.2.1<st.2.2.1) then (bif (decide ((0:Int)≤st.2.2.2.1))&&(decide (st.2.2.2.1<((List.length st.2.2.2.2.1:Nat):Int))) then (bif (decide ((0:Int)≤(List.getD st.2.2.2.2.1 (Int.toNat st.2.2.2.1) (0:Int))))&&(decide ((List.getD st.2.2.2.2.1 (Int.toNat st.2.2.2.1) (0:Int))≤((List.length st.1:Nat):Int))) then (bif (decide ((0:Int)≤(List.getD st.2.2.2.2.1 (Int.toNat st.2.2.2.1) (0:Int))))&&(decide ((List.getD st.2.2.2.2.1 (Int.toNat st.2.2.2.1) (0:Int))≤((List.length st.1:Nat):Int))) then ((gidx st.2.2.2.2.2.1.2.1 st.2.2.2.1).bind fun x5=> bif x5==(31:Int) then ((C_parts_raw (List.take (Int.toNat (List.getD st.2.2.2.2.1 (Int.toNat st.2.2.2.1) (0:Int))) st.1)).bind fun y6=> some (.inl (List.drop (Int.toNat (List.getD st.2.2.2.2.1 (Int.toNat st.2.2.2.1) (0:Int))) (List.take (List.length st.1) st.1),(IntKind.wrap .i64 (st.2.1+(IntKind.wrap .i64 ((5:Int)+y6))),(st.2.2.1,(IntKind.wrap .i64 (st.2.2.2.1+(1:Int)),(st.2.2.2.2.1,(st.2.2.2.2.2.1,())))))))) else ((gidx st.2.2.2.2.2.1.2.1 st.2.2.2.1).bind fun x7=> (C_rice_Sum (x7,List.take (Int.toNat (List.getD st.2.2.2.2.1 (Int.toNat st.2.2.2.1) (0:Int))) st.1)).bind fun y8=> some (.inl (List.drop (Int.toNat (List.getD st.2.2.2.2.1 (Int.toNat st.2.2.2.1) (0:Int))) (List.take (List.length st.1) st.1),(IntKind.wrap .i64 (st.2.1+(IntKind.wrap .i64 ((5:Int)+y8))),(st.2.2.1,(IntKind.wrap .i64 (st.2.2.2.1+(1:Int)),(st.2.2.2.2.1,(st.2.2.2.2.2.1,()))))))))) else none) else none) else none) else some (.inr (st.2.1,()))
theorem le_parts_Cost_l0 (st):Le (C_parts_Cost_l0 st) (F_parts_Cost_l0 st):=by
 unfold C_parts_Cost_l0 F_parts_Cost_l0
 try dsimp only
 repeat' (first|exact Lr _|exact le_parts_raw _|exact le_rice_Sum _|apply Lf|refine Lb ?_ fun _=>?_|(rename_i w;cases w)|(rename_i w _;cases w))
def C_parts_Cost (x:Z58):Option Int:= (show Option (Int×(Int×((List Int)×Z36))) from (C_parts_May (x.1,(x.2.1,x.2.2.1))).bind fun y1=> bif !y1 then some (x.2.1,(x.2.2.1,(x.2.2.2,(true,(x.1,()))))) else ((C_parts_right (x.2.1,(x.2.2.1,x.2.2.2))).bind fun y2=> some (x.2.1,(x.2.2.1,(x.2.2.2,(!y2,(x.1,()))))))).bind fun z3=> bif z3.2.2.2.1 then some (0:Int) else ((C_parts_Sizes (z3.2.2.2.2.1.1,(z3.1,z3.2.1))).bind fun y4=> (iterN C_parts_Cost_l0 400 (z3.2.2.1,((4:Int),(((List.length y4:Nat):Int),((0:Int),(y4,(z3.2.2.2.2.1,()))))))).bind fun w9=> some w9.1)
theorem le_parts_Cost (x):Le (C_parts_Cost x) (F_parts_Cost x):=by
 unfold C_parts_Cost F_parts_Cost
 try dsimp only
 repeat' (first|exact Lr _|exact le_parts_May _|exact le_parts_right _|exact le_parts_Sizes _|exact Li le_parts_Cost_l0|apply Lf|refine Lb ?_ fun _=>?_|(rename_i w;cases w)|(rename_i w _;cases w))
def C_bits_Writer_Unary_l0 (st:Z52):Option Z121:= bif decide (st.2.1<st.1) then ((C_bits_Writer_bit (st.2.2.1,(0:Int))).bind fun y2=> some (.inl (st.1,(IntKind.wrap .i64 (st.2.1+(1:Int)),(y2,()))))) else some (.inr (st.2.2.1,()))
theorem le_bits_Writer_Unary_l0 (st):Le (C_bits_Writer_Unary_l0 st) (F_bits_Writer_Unary_l0 st):=by
 unfold C_bits_Writer_Unary_l0 F_bits_Writer_Unary_l0
 try dsimp only
 repeat' (first|exact Lr _|exact le_bits_Writer_bit _|apply Lf|refine Lb ?_ fun _=>?_|(rename_i w;cases w)|(rename_i w _;cases w))
def C_bits_Writer_Unary (x:Z16):Option Z15:= (show Option Z54 from bif decide (x.2<(0:Int)) then some (x.2,(true,(x.1,()))) else some (x.2,(decide (x.2 > (4096:Int)),(x.1,())))).bind fun z1=> bif z1.2.1 then some ((1:Int),z1.2.2.1) else ((iterN C_bits_Writer_Unary_l0 400 (z1.1,((0:Int),(z1.2.2.1,())))).bind fun w3=> (C_bits_Writer_bit (w3.1,(1:Int))).bind fun y4=> some ((0:Int),y4))
theorem le_bits_Writer_Unary (x):Le (C_bits_Writer_Unary x) (F_bits_Writer_Unary x):=by
 unfold C_bits_Writer_Unary F_bits_Writer_Unary
 try dsimp only
 repeat' (first|exact Lr _|exact le_bits_Writer_bit _|exact Li le_bits_Writer_Unary_l0|apply Lf|refine Lb ?_ fun _=>?_|(rename_i w;cases w)|(rename_i w _;cases w))
def C_rice_Put_l0 (st:Z119):Option (Z119 ⊕ ((Int×((List Int)×Z20)) ⊕ Z34)):= bif decide (st.2.2.2.2.1<st.2.2.2.1) then ((gidx st.2.2.1 st.2.2.2.2.1).bind fun x2=> (C_rice_wide x2).bind fun y3=> bif !y3 then some (.inr (Sum.inr (((1:Int),(st.2.2.2.2.2.1,()))))) else some (.inl (st.1,(st.2.1,(st.2.2.1,(st.2.2.2.1,(IntKind.wrap .i64 (st.2.2.2.2.1+(1:Int)),(st.2.2.2.2.2.1,())))))))) else some (.inr (Sum.inl (st.1,(st.2.1,(st.2.2.2.2.2.1,())))))
theorem le_rice_Put_l0 (st):Le (C_rice_Put_l0 st) (F_rice_Put_l0 st):=by
 unfold C_rice_Put_l0 F_rice_Put_l0
 try dsimp only
 repeat' (first|exact Lr _|exact le_rice_wide _|apply Lf|refine Lb ?_ fun _=>?_|(rename_i w;cases w)|(rename_i w _;cases w))
def C_rice_Put_l1 (st:Z100):Option Z142:= bif decide (st.2.2.2.1<st.2.2.1) then ((gidx st.2.1 st.2.2.2.1).bind fun x7=> (C_rice_Fold x7).bind fun y8=> bif decide (st.1<0) then none else (bif decide ((gshr .u64 y8 st.1)<(32:Int)) then ((C_bits_Writer_Unary (st.2.2.2.2.1,IntKind.wrap .i64 (gshr .u64 y8 st.1))).bind fun y9=> bif decide (st.1<0) then none else ((C_bits_Writer_Put (y9.2,(IntKind.wrap .u64 (y8-(gshl .u64 (gshr .u64 y8 st.1) st.1)),st.1))).bind fun y10=> some (.inl (st.1,(st.2.1,(st.2.2.1,(IntKind.wrap .i64 (st.2.2.2.1+(1:Int)),(y10.2,())))))))) else ((C_bits_Writer_Unary (st.2.2.2.2.1,(32:Int))).bind fun y11=> (C_bits_Writer_Put (y11.2,(y8,(32:Int)))).bind fun y12=> some (.inl (st.1,(st.2.1,(st.2.2.1,(IntKind.wrap .i64 (st.2.2.2.1+(1:Int)),(y12.2,()))))))))) else some (.inr (st.2.2.2.2.1,()))
theorem le_rice_Put_l1 (st):Le (C_rice_Put_l1 st) (F_rice_Put_l1 st):=by
 unfold C_rice_Put_l1 F_rice_Put_l1
 try dsimp only
 repeat' (first|exact Lr _|exact le_rice_Fold _|exact le_bits_Writer_Unary _|exact le_bits_Writer_Put _|apply Lf|refine Lb ?_ fun _=>?_|(rename_i w;cases w)|(rename_i w _;cases w))
def C_rice_Put (x:(Z4×(Int×(List Int)))):Option Z15:= (C_rice_parameter x.2.1).bind fun y1=> bif !y1 then some ((1:Int),x.1) else ((iterN C_rice_Put_l0 400 (x.2.1,(x.2.2,(x.2.2,(((List.length x.2.2:Nat):Int),((0:Int),(x.1,()))))))).bind fun w4=> match w4 with |.inl a5=>((iterN C_rice_Put_l1 400 (a5.1,(a5.2.1,(((List.length a5.2.1:Nat):Int),((0:Int),(a5.2.2.1,())))))).bind fun w13=> some ((0:Int),w13.1)) |.inr b6=>some (b6.1,b6.2.1))
theorem le_rice_Put (x):Le (C_rice_Put x) (F_rice_Put x):=by
 unfold C_rice_Put F_rice_Put
 try dsimp only
 repeat' (first|exact Lr _|exact le_rice_parameter _|exact Li le_rice_Put_l0|exact Li le_rice_Put_l1|apply Lf|refine Lb ?_ fun _=>?_|(rename_i w;cases w)|(rename_i w _;cases w))
def C_parts_Put_l0 (st:Z160):Option (Z160 ⊕ Z139):= bif decide (st.2.2.2.2.2.2.1<st.2.2.2.2.2.1) then ((gidx st.2.2.2.2.1 st.2.2.2.2.2.2.1).bind fun x11=> bif decide (st.2.1<0) then none else ((C_bits_Writer_Put (st.2.2.2.2.2.2.2.2.1,(bits .u64 .and (IntKind.wrap .u64 x11) (IntKind.wrap .u64 ((gshl .u64 (1:Int) st.2.1)-(1:Int))),st.2.1))).bind fun y12=> some (.inl (st.1,(st.2.1,(st.2.2.1,(st.2.2.2.1,(st.2.2.2.2.1,(st.2.2.2.2.2.1,(IntKind.wrap .i64 (st.2.2.2.2.2.2.1+(1:Int)),(st.2.2.2.2.2.2.2.1,(y12.2,(st.2.2.2.2.2.2.2.2.2.1,()))))))))))))) else some (.inr (st.1,(st.2.2.1,(st.2.2.2.1,(st.2.2.2.2.2.2.2.1,(st.2.2.2.2.2.2.2.2.1,(st.2.2.2.2.2.2.2.2.2.1,())))))))
theorem le_parts_Put_l0 (st):Le (C_parts_Put_l0 st) (F_parts_Put_l0 st):=by
 unfold C_parts_Put_l0 F_parts_Put_l0
 try dsimp only
 repeat' (first|exact Lr _|exact le_bits_Writer_Put _|apply Lf|refine Lb ?_ fun _=>?_|(rename_i w;cases w)|(rename_i w _;cases w))
def C_parts_Put_l1 (st:Z139):Option (Z139 ⊕ Z20):= bif decide (st.2.2.1<st.2.1) then (bif (decide ((0:Int)≤st.2.2.1))&&(decide (st.2.2.1<((List.length st.2.2.2.1:Nat):Int))) then (bif (decide ((0:Int)≤(List.getD st.2.2.2.1 (Int.toNat st.2.2.1) (0:Int))))&&(decide ((List.getD st.2.2.2.1 (Int.toNat st.2.2.1) (0:Int))≤((List.length st.1:Nat):Int))) then (bif (decide ((0:Int)≤(List.getD st.2.2.2.1 (Int.toNat st.2.2.1) (0:Int))))&&(decide ((List.getD st.2.2.2.1 (Int.toNat st.2.2.1) (0:Int))≤((List.length st.1:Nat):Int))) then ((gidx st.2.2.2.2.2.1.2.1 st.2.2.1).bind fun x4=> (C_bits_Writer_Put (st.2.2.2.2.1,(IntKind.wrap .u64 x4,(5:Int)))).bind fun y5=> (gidx st.2.2.2.2.2.1.2.1 st.2.2.1).bind fun x6=> bif x6 != (31:Int) then ((gidx st.2.2.2.2.2.1.2.1 st.2.2.1).bind fun x7=> (C_rice_Put (y5.2,(x7,List.take (Int.toNat (List.getD st.2.2.2.1 (Int.toNat st.2.2.1) (0:Int))) st.1))).bind fun y8=> some (.inl (List.drop (Int.toNat (List.getD st.2.2.2.1 (Int.toNat st.2.2.1) (0:Int))) (List.take (List.length st.1) st.1),(st.2.1,(IntKind.wrap .i64 (st.2.2.1+(1:Int)),(st.2.2.2.1,(y8.2,(st.2.2.2.2.2.1,())))))))) else ((C_sample_Width (List.take (Int.toNat (List.getD st.2.2.2.1 (Int.toNat st.2.2.1) (0:Int))) st.1)).bind fun y9=> (C_bits_Writer_Put (y5.2,(IntKind.wrap .u64 y9,(5:Int)))).bind fun y10=> (iterN C_parts_Put_l0 400 (List.drop (Int.toNat (List.getD st.2.2.2.1 (Int.toNat st.2.2.1) (0:Int))) (List.take (List.length st.1) st.1),(y9,(st.2.1,(st.2.2.1,(List.take (Int.toNat (List.getD st.2.2.2.1 (Int.toNat st.2.2.1) (0:Int))) st.1,(((List.length (List.take (Int.toNat (List.getD st.2.2.2.1 (Int.toNat st.2.2.1) (0:Int))) st.1):Nat):Int),((0:Int),(st.2.2.2.1,(y10.2,(st.2.2.2.2.2.1,()))))))))))).bind fun w13=> some (.inl (w13.1,(w13.2.1,(IntKind.wrap .i64 (w13.2.2.1+(1:Int)),(w13.2.2.2.1,(w13.2.2.2.2.1,(w13.2.2.2.2.2.1,()))))))))) else none) else none) else none) else some (.inr (st.2.2.2.2.1,()))
theorem le_parts_Put_l1 (st):Le (C_parts_Put_l1 st) (F_parts_Put_l1 st):=by
 unfold C_parts_Put_l1 F_parts_Put_l1
 try dsimp only
 repeat' (first|exact Lr _|exact le_bits_Writer_Put _|exact le_rice_Put _|exact le_sample_Width _|exact Li le_parts_Put_l0|apply Lf|refine Lb ?_ fun _=>?_|(rename_i w;cases w)|(rename_i w _;cases w))
def C_parts_Put (x:(Z4×Z58)):Option Z15:= (C_parts_Cost (x.2.1,(x.2.2.1,(x.2.2.2.1,x.2.2.2.2)))).bind fun y1=> bif y1==(0:Int) then some ((1:Int),x.1) else ((C_bits_Writer_Put (x.1,(IntKind.wrap .u64 x.2.1.1,(4:Int)))).bind fun y2=> (C_parts_Sizes (x.2.1.1,(x.2.2.1,x.2.2.2.1))).bind fun y3=> (iterN C_parts_Put_l1 400 (x.2.2.2.2,(((List.length y3:Nat):Int),((0:Int),(y3,(y2.2,(x.2.1,()))))))).bind fun w14=> some ((0:Int),w14.1))
theorem le_parts_Put (x):Le (C_parts_Put x) (F_parts_Put x):=by
 unfold C_parts_Put F_parts_Put
 try dsimp only
 repeat' (first|exact Lr _|exact le_parts_Cost _|exact le_bits_Writer_Put _|exact le_parts_Sizes _|exact Li le_parts_Put_l1|apply Lf|refine Lb ?_ fun _=>?_|(rename_i w;cases w)|(rename_i w _;cases w))
def C_sub_Put_l0 (st:Z192):Option (Z192 ⊕ Z188):= bif decide (st.2.2.2.1<(3:Int)) then ((gidx st.2.2.1 st.2.2.2.1).bind fun x8=> (C_sub_putSigned (st.2.2.2.2.1,(x8,(8:Int)))).bind fun y9=> some (.inl (st.1,(st.2.1,(st.2.2.1,(IntKind.wrap .i64 (st.2.2.2.1+(1:Int)),(y9,(st.2.2.2.2.2.1,())))))))) else some (.inr (st.1,(st.2.1,(st.2.2.2.2.1,(st.2.2.2.2.2.1,())))))
theorem le_sub_Put_l0 (st):Le (C_sub_Put_l0 st) (F_sub_Put_l0 st):=by
 unfold C_sub_Put_l0 F_sub_Put_l0
 try dsimp only
 repeat' (first|exact Lr _|exact le_sub_putSigned _|apply Lf|refine Lb ?_ fun _=>?_|(rename_i w;cases w)|(rename_i w _;cases w))
def C_sub_Put_l1 (st:Z197):Option (Z197 ⊕ Z188):= bif decide (st.2.2.2.2.1<st.2.2.2.1) then ((gidx st.2.2.1 st.2.2.2.2.1).bind fun x18=> (C_bits_Writer_Put (st.2.2.2.2.2.1,(IntKind.wrap .u64 (IntKind.wrap .i64 (x18.1-(1:Int))),(5:Int)))).bind fun y19=> (C_bits_Writer_Put (y19.2,(IntKind.wrap .u64 x18.2.1,(4:Int)))).bind fun y20=> some (.inl (st.1,(st.2.1,(st.2.2.1,(st.2.2.2.1,(IntKind.wrap .i64 (st.2.2.2.2.1+(1:Int)),(y20.2,(st.2.2.2.2.2.2.1,()))))))))) else some (.inr (st.1,(st.2.1,(st.2.2.2.2.2.1,(st.2.2.2.2.2.2.1,())))))
theorem le_sub_Put_l1 (st):Le (C_sub_Put_l1 st) (F_sub_Put_l1 st):=by
 unfold C_sub_Put_l1 F_sub_Put_l1
 try dsimp only
 repeat' (first|exact Lr _|exact le_bits_Writer_Put _|apply Lf|refine Lb ?_ fun _=>?_|(rename_i w;cases w)|(rename_i w _;cases w))
def C_sub_Put_l2 (st:Z194):Option (Z194 ⊕ Z187):= bif decide (st.2.2.2.2.1<st.2.2.2.1) then ((gidx st.2.2.1 st.2.2.2.2.1).bind fun x23=> (C_sub_putSigned (st.2.2.2.2.2.1,(x23,st.2.1))).bind fun y24=> some (.inl (st.1,(st.2.1,(st.2.2.1,(st.2.2.2.1,(IntKind.wrap .i64 (st.2.2.2.2.1+(1:Int)),(y24,(st.2.2.2.2.2.2.1,()))))))))) else some (.inr (st.1,(st.2.2.2.2.2.1,(st.2.2.2.2.2.2.1,()))))
theorem le_sub_Put_l2 (st):Le (C_sub_Put_l2 st) (F_sub_Put_l2 st):=by
 unfold C_sub_Put_l2 F_sub_Put_l2
 try dsimp only
 repeat' (first|exact Lr _|exact le_sub_putSigned _|apply Lf|refine Lb ?_ fun _=>?_|(rename_i w;cases w)|(rename_i w _;cases w))
def C_sub_Put (x:(Z4×Z167)):Option Z15:= (C_sub_May (x.2.1,x.2.2)).bind fun y1=> bif !y1 then some ((1:Int),x.1) else ((C_sample_Width x.2.1.2.2.2.2.2.2.2.2.1).bind fun y2=> (C_bits_Writer_Put (x.1,(IntKind.wrap .u64 x.2.1.1,(3:Int)))).bind fun y3=> (C_bits_Writer_Put (y3.2,(IntKind.wrap .u64 x.2.1.2.1,(5:Int)))).bind fun y4=> (C_bits_Writer_Put (y4.2,(IntKind.wrap .u64 y2,(5:Int)))).bind fun y5=> (show Option Z188 from (show Option (Z188 ⊕ (Z188 ⊕ Z188)) from bif x.2.1.1==(2:Int) then ((C_bits_Writer_Put (y5.2,(IntKind.wrap .u64 x.2.1.2.2.1,(3:Int)))).bind fun y6=> some (Sum.inr (Sum.inl (x.2.2,(y2,(y6.2,(x.2.1,()))))))) else (bif x.2.1.1==(4:Int) then ((C_bits_Writer_Put (y5.2,(IntKind.wrap .u64 (IntKind.wrap .i64 (x.2.1.2.2.2.2.1-(1:Int))),(10:Int)))).bind fun y7=> (iterN C_sub_Put_l0 400 (x.2.2,(y2,(x.2.1.2.2.2.2.2.2.1,((0:Int),(y7.2,(x.2.1,()))))))).bind fun w10=> some (Sum.inl (w10.1,(w10.2.1,(w10.2.2.1,(w10.2.2.2.1,())))))) else (bif x.2.1.1==(3:Int) then some (Sum.inl (x.2.2,(y2,(y5.2,(x.2.1,()))))) else (bif x.2.1.1==(5:Int) then some (Sum.inr (Sum.inr ((x.2.2,(y2,(y5.2,(x.2.1,()))))))) else some (Sum.inr (Sum.inl (x.2.2,(y2,(y5.2,(x.2.1,())))))))))).bind fun z11=> match z11 with |.inl a12=>((C_sub_putCoefs (a12.2.2.1,a12.2.2.2.1)).bind fun y14=> some (a12.1,(a12.2.1,(y14,(a12.2.2.2.1,()))))) |.inr b13=>(match b13 with |.inl a15=>some (a15.1,(a15.2.1,(a15.2.2.1,(a15.2.2.2.1,())))) |.inr b16=>((C_bits_Writer_Put (b16.2.2.1,(IntKind.wrap .u64 ((List.length b16.2.2.2.1.2.2.2.2.2.2.2.1:Nat):Int),(2:Int)))).bind fun y17=> (iterN C_sub_Put_l1 400 (b16.1,(b16.2.1,(b16.2.2.2.1.2.2.2.2.2.2.2.1,(((List.length b16.2.2.2.1.2.2.2.2.2.2.2.1:Nat):Int),((0:Int),(y17.2,(b16.2.2.2.1,())))))))).bind fun w21=> some (w21.1,(w21.2.1,(w21.2.2.1,(w21.2.2.2.1,()))))))).bind fun z22=> (iterN C_sub_Put_l2 400 (z22.1,(z22.2.1,(z22.2.2.2.1.2.2.2.2.2.2.2.2.1,(((List.length z22.2.2.2.1.2.2.2.2.2.2.2.2.1:Nat):Int),((0:Int),(z22.2.2.1,(z22.2.2.2.1,())))))))).bind fun w25=> (C_sub_rested w25.2.2.1.1).bind fun y26=> bif !y26 then some ((0:Int),w25.2.1) else ((C_parts_Put (w25.2.1,(w25.2.2.1.2.2.2.2.2.2.2.2.2.1,(w25.1,(((List.length w25.2.2.1.2.2.2.2.2.2.2.2.1:Nat):Int),w25.2.2.1.2.2.2.2.2.2.2.2.2.2.1))))).bind fun y27=> some (y27.1,y27.2)))
theorem le_sub_Put (x):Le (C_sub_Put x) (F_sub_Put x):=by
 unfold C_sub_Put F_sub_Put
 refine Lb (le_sub_May _) fun y1=>Lf (Lr _) ?_
 refine Lb (le_sample_Width _) fun y2=>?_
 refine Lb (le_bits_Writer_Put _) fun y3=>?_
 refine Lb (le_bits_Writer_Put _) fun y4=>?_
 refine Lb (le_bits_Writer_Put _) fun y5=>?_
 refine Lb ?_ fun z22=>?_
 ·refine Lb ?_ fun z11=>?_
  ·exact Lf (Lb (le_bits_Writer_Put _) fun _=>Lr _) (Lf (Lb (le_bits_Writer_Put _) fun _=>Lb (Li le_sub_Put_l0) fun _=>Lr _) (Lf (Lr _) (Lf (Lr _) (Lr _))))
  ·cases z11 with
   |inl a=>exact Lb (le_sub_putCoefs _) fun _=>Lr _
   |inr b=>cases b with
    |inl a=>exact Lr _
    |inr b=>exact Lb (le_bits_Writer_Put _) fun _=>Lb (Li le_sub_Put_l1) fun _=>Lr _
 ·exact Lb (Li le_sub_Put_l2) fun _=>Lb (le_sub_rested _) fun _=>Lf (Lr _) (Lb (le_parts_Put _) fun _=>Lr _)
def C_bits_Writer_Len (x:Z4):Option Z15:= some (x.2.1,x)
theorem le_bits_Writer_Len (x):Le (C_bits_Writer_Len x) (F_bits_Writer_Len x):=by
 unfold C_bits_Writer_Len F_bits_Writer_Len
 try dsimp only
 repeat' (first|exact Lr _|apply Lf|refine Lb ?_ fun _=>?_|(rename_i w;cases w)|(rename_i w _;cases w))
def C_sub_Cost (x:Z167):Option Int:= (C_sub_Put ((([]:(List Int)),((0:Int),())),(x.1,x.2))).bind fun y1=> bif y1.1 != (0:Int) then some (0:Int) else ((C_bits_Writer_Len y1.2).bind fun y2=> some y2.1)
theorem le_sub_Cost (x):Le (C_sub_Cost x) (F_sub_Cost x):=by
 unfold C_sub_Cost F_sub_Cost
 try dsimp only
 repeat' (first|exact Lr _|exact le_sub_Put _|exact le_bits_Writer_Len _|apply Lf|refine Lb ?_ fun _=>?_|(rename_i w;cases w)|(rename_i w _;cases w))
def C_r2_SameInts_l0 (st:Z26):Option (Z26 ⊕ Z0):= bif decide (st.2.2.1<((List.length st.1:Nat):Int)) then ((gidx st.1 st.2.2.1).bind fun x1=> (gidx st.2.1 st.2.2.1).bind fun x2=> bif x1 != x2 then some (.inr (Sum.inr ((false,())))) else some (.inl (st.1,(st.2.1,(IntKind.wrap .i64 (st.2.2.1+(1:Int)),()))))) else some (.inr (Sum.inl ()))
theorem le_r2_SameInts_l0 (st):Le (C_r2_SameInts_l0 st) (F_r2_SameInts_l0 st):=by
 unfold C_r2_SameInts_l0 F_r2_SameInts_l0
 try dsimp only
 repeat' (first|exact Lr _|apply Lf|refine Lb ?_ fun _=>?_|(rename_i w;cases w)|(rename_i w _;cases w))
def C_r2_SameInts (x:((List Int)×(List Int))):Option Bool:= bif ((List.length x.1:Nat):Int) != ((List.length x.2:Nat):Int) then some false else ((iterN C_r2_SameInts_l0 400 (x.1,(x.2,((0:Int),())))).bind fun w3=> match w3 with |.inl a4=>some true |.inr b5=>some b5.1)
theorem le_r2_SameInts (x):Le (C_r2_SameInts x) (F_r2_SameInts x):=by
 unfold C_r2_SameInts F_r2_SameInts
 try dsimp only
 repeat' (first|exact Lr _|exact Li le_r2_SameInts_l0|apply Lf|refine Lb ?_ fun _=>?_|(rename_i w;cases w)|(rename_i w _;cases w))
def C_sample_Down_l0 (st:Z57):Option Z138:= bif decide (st.2.2.2.1<st.2.2.1) then ((gidx st.2.1 st.2.2.2.1).bind fun x2=> (show Option Z97 from (C_sample_wide x2).bind fun y3=> bif !y3 then some (st.1,(x2,(st.2.1,(st.2.2.1,(st.2.2.2.1,(true,(st.2.2.2.2.1,()))))))) else (bif decide (st.1<0) then none else (bif (gshl .i64 (1:Int) st.1)==0 then none else some (st.1,(x2,(st.2.1,(st.2.2.1,(st.2.2.2.1,((Int.tmod x2 (gshl .i64 (1:Int) st.1)) != (0:Int),(st.2.2.2.2.1,())))))))))).bind fun z4=> bif z4.2.2.2.2.2.1 then some (.inr (Sum.inr (((6:Int),(([]:(List Int)),()))))) else (bif decide (z4.1<0) then none else (bif lim ((List.length z4.2.2.2.2.2.2.1)+1) then some (.inl (z4.1,(z4.2.2.1,(z4.2.2.2.1,(IntKind.wrap .i64 (z4.2.2.2.2.1+(1:Int)),(List.append z4.2.2.2.2.2.2.1 ([gshr .i64 z4.2.1 z4.1]:List Int),())))))) else none))) else some (.inr (Sum.inl (st.2.2.2.2.1,())))
theorem le_sample_Down_l0 (st):Le (C_sample_Down_l0 st) (F_sample_Down_l0 st):=by
 unfold C_sample_Down_l0 F_sample_Down_l0
 try dsimp only
 repeat' (first|exact Lr _|exact le_sample_wide _|apply Lf|refine Lb ?_ fun _=>?_|(rename_i w;cases w)|(rename_i w _;cases w))
def C_sample_Down (x:((List Int)×Int)):Option ((List Int)×Int):= (show Option Z18 from bif decide (x.2<(0:Int)) then some (x.1,(x.2,(true,()))) else some (x.1,(x.2,(decide (x.2 > (30:Int)),())))).bind fun z1=> bif z1.2.2.1 then some (([]:(List Int)),(1:Int)) else ((iterN C_sample_Down_l0 400 (z1.2.1,(z1.1,(((List.length z1.1:Nat):Int),((0:Int),(([]:(List Int)),())))))).bind fun w5=> match w5 with |.inl a6=>some (a6.1,(0:Int)) |.inr b7=>some (b7.2.1,b7.1))
theorem le_sample_Down (x):Le (C_sample_Down x) (F_sample_Down x):=by
 unfold C_sample_Down F_sample_Down
 try dsimp only
 repeat' (first|exact Lr _|exact Li le_sample_Down_l0|apply Lf|refine Lb ?_ fun _=>?_|(rename_i w;cases w)|(rename_i w _;cases w))
def C_math_bits_TrailingZeros64 (x:Int):Option Int:= bif x==(0:Int) then some (64:Int) else ((gidx glob0 (gshr .u64 (IntKind.wrap .u64 ((bits .u64 .and x (IntKind.wrap .u64 (0-x)))*(285870213051353865:Int))) (58:Int))).bind fun x1=> some (IntKind.wrap .i64 x1))
theorem le_math_bits_TrailingZeros64 (x):Le (C_math_bits_TrailingZeros64 x) (F_math_bits_TrailingZeros64 x):=by
 unfold C_math_bits_TrailingZeros64 F_math_bits_TrailingZeros64
 try dsimp only
 repeat' (first|exact Lr _|apply Lf|refine Lb ?_ fun _=>?_|(rename_i w;cases w)|(rename_i w _;cases w))
def C_sample_Wasted_l0 (st:Z27):Option Z66:= bif decide (st.2.2.2.1<st.2.2.1) then ((gidx st.2.1 st.2.2.2.1).bind fun x1=> some (.inl (bits .i64 .or st.1 x1,(st.2.1,(st.2.2.1,(IntKind.wrap .i64 (st.2.2.2.1+(1:Int)),())))))) else some (.inr (st.1,()))
theorem le_sample_Wasted_l0 (st):Le (C_sample_Wasted_l0 st) (F_sample_Wasted_l0 st):=by
 unfold C_sample_Wasted_l0 F_sample_Wasted_l0
 try dsimp only
 repeat' (first|exact Lr _|apply Lf|refine Lb ?_ fun _=>?_|(rename_i w;cases w)|(rename_i w _;cases w))
def C_sample_Wasted (x:(List Int)):Option Int:= (iterN C_sample_Wasted_l0 400 ((0:Int),(x,(((List.length x:Nat):Int),((0:Int),()))))).bind fun w2=> bif w2.1==(0:Int) then some (0:Int) else ((C_math_bits_TrailingZeros64 (IntKind.wrap .u64 w2.1)).bind fun y3=> some (imin y3 (30:Int)))
theorem le_sample_Wasted (x):Le (C_sample_Wasted x) (F_sample_Wasted x):=by
 unfold C_sample_Wasted F_sample_Wasted
 try dsimp only
 repeat' (first|exact Lr _|exact le_math_bits_TrailingZeros64 _|exact Li le_sample_Wasted_l0|apply Lf|refine Lb ?_ fun _=>?_|(rename_i w;cases w)|(rename_i w _;cases w))
def C_fixed_Rest_l0 (st:Z28):Option (Z28 ⊕ Z14):= bif decide ((IntKind.wrap .i64 (st.1+(1:Int)))<((List.length st.2.2.2.1:Nat):Int)) then (bif (decide ((0:Int)≤(IntKind.wrap .i64 (st.1+(1:Int)))))&&(decide ((IntKind.wrap .i64 (st.1+(1:Int)))<((List.length st.2.2.2.1:Nat):Int))) then (bif (decide ((0:Int)≤st.1))&&(decide (st.1<((List.length st.2.2.2.1:Nat):Int))) then (bif (decide ((0:Int)≤st.1))&&(decide (st.1<((List.length st.2.2.2.1:Nat):Int))) then some (.inl (IntKind.wrap .i64 (st.1+(1:Int)),(st.2.1,(st.2.2.1,(List.set st.2.2.2.1 (Int.toNat st.1) (IntKind.wrap .i64 ((List.getD st.2.2.2.1 (Int.toNat (IntKind.wrap .i64 (st.1+(1:Int)))) (0:Int))-(List.getD st.2.2.2.1 (Int.toNat st.1) (0:Int)))),()))))) else none) else none) else none) else some (.inr (st.2.1,(st.2.2.1,(st.2.2.2.1,()))))
theorem le_fixed_Rest_l0 (st):Le (C_fixed_Rest_l0 st) (F_fixed_Rest_l0 st):=by
 unfold C_fixed_Rest_l0 F_fixed_Rest_l0
 try dsimp only
 repeat' (first|exact Lr _|apply Lf|refine Lb ?_ fun _=>?_|(rename_i w;cases w)|(rename_i w _;cases w))
def C_fixed_Rest_l1 (st:Z14):Option Z62:= bif decide (st.2.1<st.1) then ((iterN C_fixed_Rest_l0 400 ((0:Int),(st.1,(st.2.1,(st.2.2.1,()))))).bind fun w3=> bif (decide ((0:Int)≤(IntKind.wrap .i64 (((List.length w3.2.2.1:Nat):Int)-(1:Int)))))&&(decide ((IntKind.wrap .i64 (((List.length w3.2.2.1:Nat):Int)-(1:Int)))≤((List.length w3.2.2.1:Nat):Int))) then (bif decide ((Int.toNat (IntKind.wrap .i64 (((List.length w3.2.2.1:Nat):Int)-(1:Int))))≤(List.length w3.2.2.1)) then some (.inl (w3.1,(IntKind.wrap .i64 (w3.2.1+(1:Int)),(List.take (Int.toNat (IntKind.wrap .i64 (((List.length w3.2.2.1:Nat):Int)-(1:Int)))) w3.2.2.1,())))) else none) else none) else some (.inr (st.2.2.1,()))
theorem le_fixed_Rest_l1 (st):Le (C_fixed_Rest_l1 st) (F_fixed_Rest_l1 st):=by
 unfold C_fixed_Rest_l1 F_fixed_Rest_l1
 try dsimp only
 repeat' (first|exact Lr _|exact Li le_fixed_Rest_l0|apply Lf|refine Lb ?_ fun _=>?_|(rename_i w;cases w)|(rename_i w _;cases w))
end Go.Ab
namespace Go.Ab
set_option linter.unusedVariables false
def C_fixed_Rest (x:((List Int)×Int)):Option ((List Int)×Int):= (show Option Z18 from bif decide (x.2<(0:Int)) then some (x.1,(x.2,(true,()))) else (bif decide (x.2 > (4:Int)) then some (x.1,(x.2,(true,()))) else some (x.1,(x.2,(decide (((List.length x.1:Nat):Int)<x.2),()))))).bind fun z1=> bif z1.2.2.1 then some (([]:(List Int)),(1:Int)) else ((C_fixed_wide z1.1).bind fun y2=> bif !y2 then some (([]:(List Int)),(6:Int)) else (bif lim (List.length z1.1) then ((iterN C_fixed_Rest_l1 400 (z1.2.1,((0:Int),(z1.1,())))).bind fun w4=> (C_fixed_wide w4.1).bind fun y5=> bif !y5 then some (([]:(List Int)),(6:Int)) else some (w4.1,(0:Int))) else none))
theorem le_fixed_Rest (x):Le (C_fixed_Rest x) (F_fixed_Rest x):=by
 unfold C_fixed_Rest F_fixed_Rest
 try dsimp only
 repeat' (first|exact Lr _|exact le_fixed_wide _|exact Li le_fixed_Rest_l1|apply Lf|refine Lb ?_ fun _=>?_|(rename_i w;cases w)|(rename_i w _;cases w))
def C_linear_Rest_l0 (st:Z72):Option (Z72 ⊕ Z44):= bif decide (st.2.2.2.1<((List.length st.1:Nat):Int)) then ((gidx st.1 st.2.2.2.1).bind fun x4=> bif (decide ((0:Int)≤st.2.2.2.1))&&(decide (st.2.2.2.1≤((List.length st.1:Nat):Int))) then ((C_linear_predict (List.take (Int.toNat st.2.2.2.1) st.1,(st.2.1,st.2.2.1))).bind fun y5=> (C_linear_wide (IntKind.wrap .i64 (x4-y5))).bind fun y6=> bif !y6 then some (.inr (Sum.inr (((6:Int),(([]:(List Int)),()))))) else (bif lim ((List.length st.2.2.2.2.1)+1) then some (.inl (st.1,(st.2.1,(st.2.2.1,(IntKind.wrap .i64 (st.2.2.2.1+(1:Int)),(List.append st.2.2.2.2.1 ([IntKind.wrap .i64 (x4-y5)]:List Int),())))))) else none)) else none) else some (.inr (Sum.inl (st.2.2.2.2.1,())))
theorem le_linear_Rest_l0 (st):Le (C_linear_Rest_l0 st) (F_linear_Rest_l0 st):=by
 unfold C_linear_Rest_l0 F_linear_Rest_l0
 try dsimp only
 repeat' (first|exact Lr _|exact le_linear_predict _|exact le_linear_wide _|apply Lf|refine Lb ?_ fun _=>?_|(rename_i w;cases w)|(rename_i w _;cases w))
def C_linear_Rest (x:Z10):Option ((List Int)×Int):= (show Option Z47 from (C_linear_May (x.2.1,x.2.2)).bind fun y1=> bif !y1 then some (x.1,(x.2.1,(x.2.2,(true,())))) else some (x.1,(x.2.1,(x.2.2,(decide (((List.length x.1:Nat):Int)<((List.length x.2.1:Nat):Int)),()))))).bind fun z2=> bif z2.2.2.2.1 then some (([]:(List Int)),(1:Int)) else ((C_linear_allWide z2.1).bind fun y3=> bif !y3 then some (([]:(List Int)),(6:Int)) else (bif (decide ((0:Int)≤(IntKind.wrap .i64 (((List.length z2.1:Nat):Int)-((List.length z2.2.1:Nat):Int)))))&&(lim (Int.toNat (IntKind.wrap .i64 (((List.length z2.1:Nat):Int)-((List.length z2.2.1:Nat):Int))))) then ((iterN C_linear_Rest_l0 400 (z2.1,(z2.2.1,(z2.2.2.1,(((List.length z2.2.1:Nat):Int),(([]:(List Int)),())))))).bind fun w7=> match w7 with |.inl a8=>some (a8.1,(0:Int)) |.inr b9=>some (b9.2.1,b9.1)) else none))
theorem le_linear_Rest (x):Le (C_linear_Rest x) (F_linear_Rest x):=by
 unfold C_linear_Rest F_linear_Rest
 try dsimp only
 repeat' (first|exact Lr _|exact le_linear_May _|exact le_linear_allWide _|exact Li le_linear_Rest_l0|apply Lf|refine Lb ?_ fun _=>?_|(rename_i w;cases w)|(rename_i w _;cases w))
def C_long_Rest_l0 (st:Z112):Option (Z112 ⊕ Z44):= bif decide (st.2.2.2.2.1<st.2.2.2.1) then ((gidx st.2.2.1 st.2.2.2.2.1).bind fun x3=> (C_long_predict (st.1,(st.2.2.2.2.1,(st.2.1,st.2.2.2.2.2.2.1)))).bind fun y4=> (C_long_wide (IntKind.wrap .i64 (x3-y4))).bind fun y5=> bif !y5 then some (.inr (Sum.inr (((6:Int),(([]:(List Int)),()))))) else (bif lim ((List.length st.2.2.2.2.2.1)+1) then some (.inl (st.1,(st.2.1,(st.2.2.1,(st.2.2.2.1,(IntKind.wrap .i64 (st.2.2.2.2.1+(1:Int)),(List.append st.2.2.2.2.2.1 ([IntKind.wrap .i64 (x3-y4)]:List Int),(st.2.2.2.2.2.2.1,())))))))) else none)) else some (.inr (Sum.inl (st.2.2.2.2.2.1,())))
theorem le_long_Rest_l0 (st):Le (C_long_Rest_l0 st) (F_long_Rest_l0 st):=by
 unfold C_long_Rest_l0 F_long_Rest_l0
 try dsimp only
 repeat' (first|exact Lr _|exact le_long_predict _|exact le_long_wide _|apply Lf|refine Lb ?_ fun _=>?_|(rename_i w;cases w)|(rename_i w _;cases w))
def C_long_Rest (x:Z11):Option ((List Int)×Int):= (C_long_May (x.2.1,x.2.2)).bind fun y1=> bif !y1 then some (([]:(List Int)),(1:Int)) else ((C_long_allWide x.1).bind fun y2=> bif !y2 then some (([]:(List Int)),(6:Int)) else (bif (decide ((0:Int)≤((List.length x.1:Nat):Int)))&&(lim (Int.toNat ((List.length x.1:Nat):Int))) then ((iterN C_long_Rest_l0 400 (x.1,(x.2.1,(x.1,(((List.length x.1:Nat):Int),((0:Int),(([]:(List Int)),(x.2.2,())))))))).bind fun w6=> match w6 with |.inl a7=>some (a7.1,(0:Int)) |.inr b8=>some (b8.2.1,b8.1)) else none))
theorem le_long_Rest (x):Le (C_long_Rest x) (F_long_Rest x):=by
 unfold C_long_Rest F_long_Rest
 try dsimp only
 repeat' (first|exact Lr _|exact le_long_May _|exact le_long_allWide _|exact Li le_long_Rest_l0|apply Lf|refine Lb ?_ fun _=>?_|(rename_i w;cases w)|(rename_i w _;cases w))
def C_learn_Rest_l0 (st:Z149):Option (Z149 ⊕ (Z83 ⊕ Z3)):= bif decide (st.2.2.2.2.1<st.2.2.2.1) then (bif (decide ((0:Int)≤st.2.2.2.2.1))&&(decide (st.2.2.2.2.1<((List.length st.2.2.2.2.2.1:Nat):Int))) then ((C_learn_Filter_Guess st.2.2.2.2.2.2.1).bind fun y6=> (C_learn_wide (IntKind.wrap .i64 ((List.getD st.2.2.2.2.2.1 (Int.toNat st.2.2.2.2.1) (0:Int))-y6.1))).bind fun y7=> bif !y7 then some (.inr (Sum.inr (((6:Int),(([]:(List Int)),()))))) else ((C_learn_Filter_Tell (y6.2,List.getD st.2.2.2.2.2.1 (Int.toNat st.2.2.2.2.1) (0:Int))).bind fun y8=> bif (decide ((0:Int)≤st.2.2.2.2.1))&&(decide (st.2.2.2.2.1<((List.length st.2.2.2.2.2.1:Nat):Int))) then some (.inl (st.1,(st.2.1,(st.2.2.1,(st.2.2.2.1,(IntKind.wrap .i64 (st.2.2.2.2.1+(1:Int)),(List.set st.2.2.2.2.2.1 (Int.toNat st.2.2.2.2.1) (IntKind.wrap .i64 ((List.getD st.2.2.2.2.2.1 (Int.toNat st.2.2.2.2.1) (0:Int))-y6.1)),(y8,())))))))) else none)) else none) else some (.inr (Sum.inl (st.1,(st.2.1,(st.2.2.1,(st.2.2.2.2.2.1,()))))))
theorem le_learn_Rest_l0 (st):Le (C_learn_Rest_l0 st) (F_learn_Rest_l0 st):=by
 unfold C_learn_Rest_l0 F_learn_Rest_l0
 try dsimp only
 repeat' (first|exact Lr _|exact le_learn_Filter_Guess _|exact le_learn_wide _|exact le_learn_Filter_Tell _|apply Lf|refine Lb ?_ fun _=>?_|(rename_i w;cases w)|(rename_i w _;cases w))
def C_learn_Rest_l1 (st:Z83):Option (Z83 ⊕ Z44):= bif decide (st.2.2.1<st.2.1) then ((gidx st.1 st.2.2.1).bind fun x4=> (C_learn_New x4).bind fun y5=> bif y5.2 != (0:Int) then some (.inr (Sum.inr ((y5.2,(([]:(List Int)),()))))) else ((iterN C_learn_Rest_l0 400 (st.1,(st.2.1,(st.2.2.1,(((List.length st.2.2.2.1:Nat):Int),((0:Int),(st.2.2.2.1,(y5.1,())))))))).bind fun w9=> match w9 with |.inl a10=>some (.inl (a10.1,(a10.2.1,(IntKind.wrap .i64 (a10.2.2.1+(1:Int)),(a10.2.2.2.1,()))))) |.inr b11=>some (.inr (Sum.inr ((b11.1,(b11.2.1,()))))))) else some (.inr (Sum.inl (st.2.2.2.1,())))
theorem le_learn_Rest_l1 (st):Le (C_learn_Rest_l1 st) (F_learn_Rest_l1 st):=by
 unfold C_learn_Rest_l1 F_learn_Rest_l1
 try dsimp only
 repeat' (first|exact Lr _|exact le_learn_New _|exact Li le_learn_Rest_l0|apply Lf|refine Lb ?_ fun _=>?_|(rename_i w;cases w)|(rename_i w _;cases w))
def C_learn_Rest (x:Z24):Option ((List Int)×Int):= (C_learn_May x.2).bind fun y1=> bif !y1 then some (([]:(List Int)),(1:Int)) else ((C_learn_allWide x.1).bind fun y2=> bif !y2 then some (([]:(List Int)),(6:Int)) else ((C_slices_Clone___int_int_ x.1).bind fun y3=> (iterN C_learn_Rest_l1 400 (x.2,(((List.length x.2:Nat):Int),((0:Int),(y3,()))))).bind fun w12=> match w12 with |.inl a13=>some (a13.1,(0:Int)) |.inr b14=>some (b14.2.1,b14.1)))
theorem le_learn_Rest (x):Le (C_learn_Rest x) (F_learn_Rest x):=by
 unfold C_learn_Rest F_learn_Rest
 try dsimp only
 repeat' (first|exact Lr _|exact le_learn_May _|exact le_learn_allWide _|exact le_slices_Clone___int_int_ _|exact Li le_learn_Rest_l1|apply Lf|refine Lb ?_ fun _=>?_|(rename_i w;cases w)|(rename_i w _;cases w))
def C_sub_split (x:(Z165×(List Int))):Option Z168:= (show Option ((List Int)×Z180) from bif x.1.1==(2:Int) then ((C_fixed_Rest (x.2,x.1.2.2.1)).bind fun y1=> some (x.2,(y1.1,(y1.2,(x.1,()))))) else (bif x.1.1==(3:Int) then ((C_linear_Rest (x.2,(x.1.2.2.2.2.2.1,x.1.2.2.2.1))).bind fun y2=> some (x.2,(y2.1,(y2.2,(x.1,()))))) else (bif x.1.1==(4:Int) then ((C_long_Rest (x.2,(x.1.2.2.2.2.1,x.1.2.2.2.2.2.2.1))).bind fun y3=> bif y3.2==(0:Int) then ((C_linear_Rest (y3.1,(x.1.2.2.2.2.2.1,x.1.2.2.2.1))).bind fun y4=> some (y3.1,(y4.1,(y4.2,(x.1,()))))) else some (y3.1,(([]:(List Int)),(y3.2,(x.1,()))))) else (bif x.1.1==(5:Int) then ((C_learn_Rest (x.2,x.1.2.2.2.2.2.2.2.1)).bind fun y5=> some (x.2,(y5.1,(y5.2,(x.1,()))))) else some (x.2,(([]:(List Int)),((0:Int),(x.1,())))))))).bind fun z6=> bif z6.2.2.1 != (0:Int) then some (z6.2.2.1,z6.2.2.2.1) else ((C_sub_warmth (z6.2.2.2.1,((List.length z6.1:Nat):Int))).bind fun y7=> bif (decide ((0:Int)≤y7))&&(decide (y7≤((List.length z6.1:Nat):Int))) then ((C_slices_Clone___int_int_ (List.take (Int.toNat y7) z6.1)).bind fun y8=> some ((0:Int),(z6.2.2.2.1.1,(z6.2.2.2.1.2.1,(z6.2.2.2.1.2.2.1,(z6.2.2.2.1.2.2.2.1,(z6.2.2.2.1.2.2.2.2.1,(z6.2.2.2.1.2.2.2.2.2.1,(z6.2.2.2.1.2.2.2.2.2.2.1,(z6.2.2.2.1.2.2.2.2.2.2.2.1,(y8,(z6.2.2.2.1.2.2.2.2.2.2.2.2.2.1,(z6.2.1,z6.2.2.2.1.2.2.2.2.2.2.2.2.2.2.2))))))))))))) else none)
theorem le_sub_split (x):Le (C_sub_split x) (F_sub_split x):=by
 unfold C_sub_split F_sub_split
 try dsimp only
 repeat' (first|exact Lr _|exact le_fixed_Rest _|exact le_linear_Rest _|exact le_long_Rest _|exact le_learn_Rest _|exact le_sub_warmth _|exact le_slices_Clone___int_int_ _|apply Lf|refine Lb ?_ fun _=>?_|(rename_i w;cases w)|(rename_i w _;cases w))
def C_rice_Best_l0 (st:Z30):Option Z67:= bif decide (st.2.2.2.1≤(25:Int)) then ((C_rice_Sum (st.2.2.2.1,st.1)).bind fun y2=> bif decide (y2<st.2.2.1) then some (.inl (st.1,(st.2.2.2.1,(y2,(IntKind.wrap .i64 (st.2.2.2.1+(1:Int)),()))))) else some (.inl (st.1,(st.2.1,(st.2.2.1,(IntKind.wrap .i64 (st.2.2.2.1+(1:Int)),())))))) else some (.inr (st.2.1,()))
theorem le_rice_Best_l0 (st):Le (C_rice_Best_l0 st) (F_rice_Best_l0 st):=by
 unfold C_rice_Best_l0 F_rice_Best_l0
 try dsimp only
 repeat' (first|exact Lr _|exact le_rice_Sum _|apply Lf|refine Lb ?_ fun _=>?_|(rename_i w;cases w)|(rename_i w _;cases w))
def C_rice_Best (x:(List Int)):Option Int:= (C_rice_Sum ((0:Int),x)).bind fun y1=> (iterN C_rice_Best_l0 400 (x,((0:Int),(y1,((1:Int),()))))).bind fun w3=> some w3.1
theorem le_rice_Best (x):Le (C_rice_Best x) (F_rice_Best x):=by
 unfold C_rice_Best F_rice_Best
 try dsimp only
 repeat' (first|exact Lr _|exact le_rice_Sum _|exact Li le_rice_Best_l0|apply Lf|refine Lb ?_ fun _=>?_|(rename_i w;cases w)|(rename_i w _;cases w))
def C_parts_choose (x:(List Int)):Option Int:= (C_rice_Best x).bind fun y1=> (C_parts_raw x).bind fun y2=> (C_rice_Sum (y1,x)).bind fun y3=> bif decide (y2<y3) then some (31:Int) else some y1
theorem le_parts_choose (x):Le (C_parts_choose x) (F_parts_choose x):=by
 unfold C_parts_choose F_parts_choose
 try dsimp only
 repeat' (first|exact Lr _|exact le_rice_Best _|exact le_parts_raw _|exact le_rice_Sum _|apply Lf|refine Lb ?_ fun _=>?_|(rename_i w;cases w)|(rename_i w _;cases w))
def C_parts_Best_l0 (st:Z182):Option (Z182 ⊕ (Int×(Int×(Int×((List Int)×(Int×(Int×Z130))))))):= bif decide (st.2.2.2.2.2.2.2.2.1<st.2.2.2.2.2.2.2.1) then (bif (decide ((0:Int)≤st.2.2.2.2.2.2.2.2.1))&&(decide (st.2.2.2.2.2.2.2.2.1<((List.length st.2.2.2.2.2.2.2.2.2.1:Nat):Int))) then (bif (decide ((0:Int)≤(List.getD st.2.2.2.2.2.2.2.2.2.1 (Int.toNat st.2.2.2.2.2.2.2.2.1) (0:Int))))&&(decide ((List.getD st.2.2.2.2.2.2.2.2.2.1 (Int.toNat st.2.2.2.2.2.2.2.2.1) (0:Int))≤((List.length st.2.2.2.2.2.2.1:Nat):Int))) then ((C_parts_choose (List.take (Int.toNat (List.getD st.2.2.2.2.2.2.2.2.2.1 (Int.toNat st.2.2.2.2.2.2.2.2.1) (0:Int))) st.2.2.2.2.2.2.1)).bind fun y3=> bif lim ((List.length st.2.2.2.2.2.2.2.2.2.2.2.2.1.2.1)+1) then (bif (decide ((0:Int)≤(List.getD st.2.2.2.2.2.2.2.2.2.1 (Int.toNat st.2.2.2.2.2.2.2.2.1) (0:Int))))&&(decide ((List.getD st.2.2.2.2.2.2.2.2.2.1 (Int.toNat st.2.2.2.2.2.2.2.2.1) (0:Int))≤((List.length st.2.2.2.2.2.2.1:Nat):Int))) then some (.inl (st.1,(st.2.1,(st.2.2.1,(st.2.2.2.1,(st.2.2.2.2.1,(st.2.2.2.2.2.1,(List.drop (Int.toNat (List.getD st.2.2.2.2.2.2.2.2.2.1 (Int.toNat st.2.2.2.2.2.2.2.2.1) (0:Int))) (List.take (List.length st.2.2.2.2.2.2.1) st.2.2.2.2.2.2.1),(st.2.2.2.2.2.2.2.1,(IntKind.wrap .i64 (st.2.2.2.2.2.2.2.2.1+(1:Int)),(st.2.2.2.2.2.2.2.2.2.1,(st.2.2.2.2.2.2.2.2.2.2.1,(st.2.2.2.2.2.2.2.2.2.2.2.1,((st.2.2.2.2.2.2.2.2.2.2.2.2.1.1,(List.append st.2.2.2.2.2.2.2.2.2.2.2.2.1.2.1 ([y3]:List Int),st.2.2.2.2.2.2.2.2.2.2.2.2.1.2.2)),())))))))))))))) else none) else none) else none) else none) else some (.inr (st.1,(st.2.1,(st.2.2.1,(st.2.2.2.1,(st.2.2.2.2.1,(st.2.2.2.2.2.1,(st.2.2.2.2.2.2.2.2.2.2.1,(st.2.2.2.2.2.2.2.2.2.2.2.1,(st.2.2.2.2.2.2.2.2.2.2.2.2.1,()))))))))))
theorem le_parts_Best_l0 (st):Le (C_parts_Best_l0 st) (F_parts_Best_l0 st):=by
 unfold C_parts_Best_l0 F_parts_Best_l0
 try dsimp only
 repeat' (first|exact Lr _|exact le_parts_choose _|apply Lf|refine Lb ?_ fun _=>?_|(rename_i w;cases w)|(rename_i w _;cases w))
def C_parts_Best_l1 (st:Z146):Option (Z146 ⊕ Z87):= bif decide (st.2.2.2.2.2.1≤(imin (imax st.2.2.1 (0:Int)) (8:Int))) then ((C_parts_Sizes (st.2.2.2.2.2.1,(st.1,st.2.1))).bind fun y2=> bif ((List.length y2:Nat):Int)==(0:Int) then some (.inl (st.1,(st.2.1,(st.2.2.1,(st.2.2.2.1,(st.2.2.2.2.1,(IntKind.wrap .i64 (st.2.2.2.2.2.1+(1:Int)),(st.2.2.2.2.2.2.1,(st.2.2.2.2.2.2.2.1,()))))))))) else ((iterN C_parts_Best_l0 400 (st.1,(st.2.1,(st.2.2.1,(st.2.2.2.1,(st.2.2.2.2.1,(st.2.2.2.2.2.1,(st.2.2.2.1,(((List.length y2:Nat):Int),((0:Int),(y2,(st.2.2.2.2.2.2.1,(st.2.2.2.2.2.2.2.1,((st.2.2.2.2.2.1,(([]:(List Int)),())),())))))))))))))).bind fun w4=> (C_parts_Cost (w4.2.2.2.2.2.2.2.2.1,(w4.1,(w4.2.1,w4.2.2.2.1)))).bind fun y5=> (show Option (Int×(Int×(Int×((List Int)×(Int×(Int×(Int×(Bool×Z130)))))))) from bif w4.2.2.2.2.1==(0:Int) then some (w4.1,(w4.2.1,(w4.2.2.1,(w4.2.2.2.1,(w4.2.2.2.2.1,(w4.2.2.2.2.2.1,(y5,(true,(w4.2.2.2.2.2.2.1,(w4.2.2.2.2.2.2.2.1,(w4.2.2.2.2.2.2.2.2.1,()))))))))))) else some (w4.1,(w4.2.1,(w4.2.2.1,(w4.2.2.2.1,(w4.2.2.2.2.1,(w4.2.2.2.2.2.1,(y5,(decide (y5<w4.2.2.2.2.1),(w4.2.2.2.2.2.2.1,(w4.2.2.2.2.2.2.2.1,(w4.2.2.2.2.2.2.2.2.1,())))))))))))).bind fun z6=> bif z6.2.2.2.2.2.2.2.1 then some (.inl (z6.1,(z6.2.1,(z6.2.2.1,(z6.2.2.2.1,(z6.2.2.2.2.2.2.1,(IntKind.wrap .i64 (z6.2.2.2.2.2.1+(1:Int)),(z6.2.2.2.2.2.2.2.2.1,(z6.2.2.2.2.2.2.2.2.2.2.1,()))))))))) else some (.inl (z6.1,(z6.2.1,(z6.2.2.1,(z6.2.2.2.1,(z6.2.2.2.2.1,(IntKind.wrap .i64 (z6.2.2.2.2.2.1+(1:Int)),(z6.2.2.2.2.2.2.2.2.1,(z6.2.2.2.2.2.2.2.2.2.1,()))))))))))) else some (.inr (st.2.2.2.2.2.2.1,(st.2.2.2.2.2.2.2.1,())))
theorem le_parts_Best_l1 (st):Le (C_parts_Best_l1 st) (F_parts_Best_l1 st):=by
 unfold C_parts_Best_l1 F_parts_Best_l1
 try dsimp only
 repeat' (first|exact Lr _|exact le_parts_Sizes _|exact le_parts_Cost _|exact Li le_parts_Best_l0|apply Lf|refine Lb ?_ fun _=>?_|(rename_i w;cases w)|(rename_i w _;cases w))
def C_parts_Best (x:(Int×Z1)):Option (Z3×Int):= (C_parts_right (x.1,(x.2.1,x.2.2.2))).bind fun y1=> bif !y1 then some (((0:Int),(([]:(List Int)),())),(1:Int)) else ((iterN C_parts_Best_l1 400 (x.1,(x.2.1,(x.2.2.1,(x.2.2.2,((0:Int),((0:Int),(((0:Int),(([]:(List Int)),())),(((0:Int),(([]:(List Int)),())),()))))))))).bind fun w7=> some (w7.2.1,(0:Int)))
theorem le_parts_Best (x):Le (C_parts_Best x) (F_parts_Best x):=by
 unfold C_parts_Best F_parts_Best
 try dsimp only
 repeat' (first|exact Lr _|exact le_parts_right _|exact Li le_parts_Best_l1|apply Lf|refine Lb ?_ fun _=>?_|(rename_i w;cases w)|(rename_i w _;cases w))
def C_sub_Make_l0 (st:Z202):Option (Z202 ⊕ (((List Int)×Z198) ⊕ Z172)):= bif decide (st.2.2.2.1<st.2.2.1) then ((gidx st.2.1 st.2.2.2.1).bind fun x5=> (gidx st.1 (0:Int)).bind fun x6=> bif x5 != x6 then some (.inr (Sum.inr (((7:Int),(((0:Int),((0:Int),((0:Int),((0:Int),((0:Int),(([]:(List Int)),(List.replicate 3 (0:Int),(([]:Z5),(([]:(List Int)),(((0:Int),(([]:(List Int)),())),(([]:(List Int)),()))))))))))),()))))) else some (.inl (st.1,(st.2.1,(st.2.2.1,(IntKind.wrap .i64 (st.2.2.2.1+(1:Int)),(st.2.2.2.2.1,(st.2.2.2.2.2.1,())))))))) else some (.inr (Sum.inl (st.1,(st.2.2.2.2.1,(st.2.2.2.2.2.1,())))))
theorem le_sub_Make_l0 (st):Le (C_sub_Make_l0 st) (F_sub_Make_l0 st):=by
 unfold C_sub_Make_l0 F_sub_Make_l0
 try dsimp only
 repeat' (first|exact Lr _|apply Lf|refine Lb ?_ fun _=>?_|(rename_i w;cases w)|(rename_i w _;cases w))
def C_sub_Make (x:(Int×((List Int)×Z165))):Option Z167:= (show Option (Int×((List Int)×(Int×(Bool×Z198)))) from bif decide (((List.length x.2.1:Nat):Int)<(1:Int)) then some (x.1,(x.2.1,(((List.length x.2.1:Nat):Int),(true,(((0:Int),((0:Int),((0:Int),((0:Int),((0:Int),(([]:(List Int)),(List.replicate 3 (0:Int),(([]:Z5),(([]:(List Int)),(((0:Int),(([]:(List Int)),())),(([]:(List Int)),()))))))))))),(x.2.2,())))))) else (bif decide (((List.length x.2.1:Nat):Int) > (4096:Int)) then some (x.1,(x.2.1,(((List.length x.2.1:Nat):Int),(true,(((0:Int),((0:Int),((0:Int),((0:Int),((0:Int),(([]:(List Int)),(List.replicate 3 (0:Int),(([]:Z5),(([]:(List Int)),(((0:Int),(([]:(List Int)),())),(([]:(List Int)),()))))))))))),(x.2.2,())))))) else ((C_sub_fit (x.1,(x.2.2,((List.length x.2.1:Nat):Int)))).bind fun y1=> some (x.1,(x.2.1,(((List.length x.2.1:Nat):Int),(!y1,(((0:Int),((0:Int),((0:Int),((0:Int),((0:Int),(([]:(List Int)),(List.replicate 3 (0:Int),(([]:Z5),(([]:(List Int)),(((0:Int),(([]:(List Int)),())),(([]:(List Int)),()))))))))))),(x.2.2,()))))))))).bind fun z2=> bif z2.2.2.2.1 then some (((0:Int),((0:Int),((0:Int),((0:Int),((0:Int),(([]:(List Int)),(List.replicate 3 (0:Int),(([]:Z5),(([]:(List Int)),(((0:Int),(([]:(List Int)),())),(([]:(List Int)),()))))))))))),(1:Int)) else ((C_sub_allWide z2.2.1).bind fun y3=> bif !y3 then some (((0:Int),((0:Int),((0:Int),((0:Int),((0:Int),(([]:(List Int)),(List.replicate 3 (0:Int),(([]:Z5),(([]:(List Int)),(((0:Int),(([]:(List Int)),())),(([]:(List Int)),()))))))))))),(6:Int)) else ((C_sub_chosen (z2.1,z2.2.2.2.2.2.1)).bind fun y4=> bif z2.1==(0:Int) then ((iterN C_sub_Make_l0 400 (z2.2.1,(z2.2.1,(((List.length z2.2.1:Nat):Int),((0:Int),(z2.2.2.2.2.1,(y4,()))))))).bind fun w7=> match w7 with |.inl a8=>((gidx a8.1 (0:Int)).bind fun x10=> some ((a8.2.2.1.1,(a8.2.2.1.2.1,(a8.2.2.1.2.2.1,(a8.2.2.1.2.2.2.1,(a8.2.2.1.2.2.2.2.1,(a8.2.2.1.2.2.2.2.2.1,(a8.2.2.1.2.2.2.2.2.2.1,(a8.2.2.1.2.2.2.2.2.2.2.1,(([x10]:List Int),a8.2.2.1.2.2.2.2.2.2.2.2.2))))))))),(0:Int))) |.inr b9=>some (b9.2.1,b9.1)) else ((C_sample_Wasted z2.2.1).bind fun y11=> (C_sample_Down (z2.2.1,y11)).bind fun y12=> bif y12.2 != (0:Int) then some (((0:Int),((0:Int),((0:Int),((0:Int),((0:Int),(([]:(List Int)),(List.replicate 3 (0:Int),(([]:Z5),(([]:(List Int)),(((0:Int),(([]:(List Int)),())),(([]:(List Int)),()))))))))))),(6:Int)) else (bif z2.1==(1:Int) then some ((y4.1,(y11,(y4.2.2.1,(y4.2.2.2.1,(y4.2.2.2.2.1,(y4.2.2.2.2.2.1,(y4.2.2.2.2.2.2.1,(y4.2.2.2.2.2.2.2.1,(y12.1,y4.2.2.2.2.2.2.2.2.2))))))))),(0:Int)) else ((C_sub_split ((y4.1,(y11,y4.2.2)),y12.1)).bind fun y13=> bif y13.1 != (0:Int) then some (((0:Int),((0:Int),((0:Int),((0:Int),((0:Int),(([]:(List Int)),(List.replicate 3 (0:Int),(([]:Z5),(([]:(List Int)),(((0:Int),(([]:(List Int)),())),(([]:(List Int)),()))))))))))),(6:Int)) else ((C_parts_Best (z2.2.2.1,(((List.length y13.2.2.2.2.2.2.2.2.2.1:Nat):Int),((6:Int),y13.2.2.2.2.2.2.2.2.2.2.2.1)))).bind fun y14=> bif y14.2 != (0:Int) then some (((0:Int),((0:Int),((0:Int),((0:Int),((0:Int),(([]:(List Int)),(List.replicate 3 (0:Int),(([]:Z5),(([]:(List Int)),(((0:Int),(([]:(List Int)),())),(([]:(List Int)),()))))))))))),(6:Int)) else some ((y13.2.1,(y13.2.2.1,(y13.2.2.2.1,(y13.2.2.2.2.1,(y13.2.2.2.2.2.1,(y13.2.2.2.2.2.2.1,(y13.2.2.2.2.2.2.2.1,(y13.2.2.2.2.2.2.2.2.1,(y13.2.2.2.2.2.2.2.2.2.1,(y14.1,y13.2.2.2.2.2.2.2.2.2.2.2)))))))))),(0:Int))))))))
theorem le_sub_Make (x):Le (C_sub_Make x) (F_sub_Make x):=by
 unfold C_sub_Make F_sub_Make
 try dsimp only
 repeat' (first|exact Lr _|exact le_sub_fit _|exact le_sub_allWide _|exact le_sub_chosen _|exact le_sample_Wasted _|exact le_sample_Down _|exact le_sub_split _|exact le_parts_Best _|exact Li le_sub_Make_l0|apply Lf|refine Lb ?_ fun _=>?_|(rename_i w;cases w)|(rename_i w _;cases w))
def C_fixed_weigh_l0 (st:Z46):Option Z86:= bif decide (st.2.2.2.2.1<st.2.2.2.1) then ((gidx st.2.2.1 st.2.2.2.2.1).bind fun x1=> bif decide ((IntKind.wrap .i64 (st.2.2.2.2.1+st.1))≥(4:Int)) then some (.inl (st.1,(IntKind.wrap .i64 (st.2.1+(imax x1 (IntKind.wrap .i64 (0-x1)))),(st.2.2.1,(st.2.2.2.1,(IntKind.wrap .i64 (st.2.2.2.2.1+(1:Int)),())))))) else some (.inl (st.1,(st.2.1,(st.2.2.1,(st.2.2.2.1,(IntKind.wrap .i64 (st.2.2.2.2.1+(1:Int)),()))))))) else some (.inr (st.2.1,()))
theorem le_fixed_weigh_l0 (st):Le (C_fixed_weigh_l0 st) (F_fixed_weigh_l0 st):=by
 unfold C_fixed_weigh_l0 F_fixed_weigh_l0
 try dsimp only
 repeat' (first|exact Lr _|apply Lf|refine Lb ?_ fun _=>?_|(rename_i w;cases w)|(rename_i w _;cases w))
def C_fixed_weigh (x:((List Int)×Int)):Option Int:= (iterN C_fixed_weigh_l0 400 (x.2,((0:Int),(x.1,(((List.length x.1:Nat):Int),((0:Int),())))))).bind fun w2=> some w2.1
theorem le_fixed_weigh (x):Le (C_fixed_weigh x) (F_fixed_weigh x):=by
 unfold C_fixed_weigh F_fixed_weigh
 try dsimp only
 repeat' (first|exact Lr _|exact Li le_fixed_weigh_l0|apply Lf|refine Lb ?_ fun _=>?_|(rename_i w;cases w)|(rename_i w _;cases w))
def C_fixed_Best_l0 (st:Z30):Option Z67:= bif decide (st.2.2.2.1≤(4:Int)) then ((C_fixed_Rest (st.1,st.2.2.2.1)).bind fun y1=> bif y1.2 != (0:Int) then some (.inl (st.1,(st.2.1,(st.2.2.1,(IntKind.wrap .i64 (st.2.2.2.1+(1:Int)),()))))) else ((C_fixed_weigh (y1.1,st.2.2.2.1)).bind fun y2=> (show Option ((List Int)×Z38) from bif decide (st.2.2.1<(0:Int)) then some (st.1,(st.2.1,(st.2.2.1,(st.2.2.2.1,(y2,(true,())))))) else some (st.1,(st.2.1,(st.2.2.1,(st.2.2.2.1,(y2,(decide (y2<st.2.2.1),()))))))).bind fun z3=> bif z3.2.2.2.2.2.1 then some (.inl (z3.1,(z3.2.2.2.1,(z3.2.2.2.2.1,(IntKind.wrap .i64 (z3.2.2.2.1+(1:Int)),()))))) else some (.inl (z3.1,(z3.2.1,(z3.2.2.1,(IntKind.wrap .i64 (z3.2.2.2.1+(1:Int)),()))))))) else some (.inr (st.2.1,()))
theorem le_fixed_Best_l0 (st):Le (C_fixed_Best_l0 st) (F_fixed_Best_l0 st):=by
 unfold C_fixed_Best_l0 F_fixed_Best_l0
 try dsimp only
 repeat' (first|exact Lr _|exact le_fixed_Rest _|exact le_fixed_weigh _|apply Lf|refine Lb ?_ fun _=>?_|(rename_i w;cases w)|(rename_i w _;cases w))
def C_fixed_Best (x:(List Int)):Option Int:= (iterN C_fixed_Best_l0 400 (x,((0:Int),((-1:Int),((0:Int),()))))).bind fun w4=> some w4.1
theorem le_fixed_Best (x):Le (C_fixed_Best x) (F_fixed_Best x):=by
 unfold C_fixed_Best F_fixed_Best
 try dsimp only
 repeat' (first|exact Lr _|exact Li le_fixed_Best_l0|apply Lf|refine Lb ?_ fun _=>?_|(rename_i w;cases w)|(rename_i w _;cases w))
def C_linear_clamp (x:Int):Option Int:= some (imin (imax x (-1048576:Int)) (1048575:Int))
theorem le_linear_clamp (x):Le (C_linear_clamp x) (F_linear_clamp x):=by
 unfold C_linear_clamp F_linear_clamp
 try dsimp only
 repeat' (first|exact Lr _|apply Lf|refine Lb ?_ fun _=>?_|(rename_i w;cases w)|(rename_i w _;cases w))
def C_linear_scaled_l0 (st:Z76):Option (Z76 ⊕ Z59):= bif decide (st.2.1<0) then none else ((C_linear_clamp (gshr .i64 st.2.2.1 st.2.1)).bind fun y2=> bif decide (st.2.1<0) then none else (bif y2 != (gshr .i64 st.2.2.1 st.2.1) then some (.inl (st.1,(IntKind.wrap .i64 (st.2.1+(1:Int)),(st.2.2.1,(st.2.2.2.1,(st.2.2.2.2.1,(st.2.2.2.2.2.1,()))))))) else some (.inr (st.1,(st.2.1,(st.2.2.2.1,(st.2.2.2.2.1,(st.2.2.2.2.2.1,()))))))))
theorem le_linear_scaled_l0 (st):Le (C_linear_scaled_l0 st) (F_linear_scaled_l0 st):=by
 unfold C_linear_scaled_l0 F_linear_scaled_l0
 try dsimp only
 repeat' (first|exact Lr _|exact le_linear_clamp _|apply Lf|refine Lb ?_ fun _=>?_|(rename_i w;cases w)|(rename_i w _;cases w))
def C_linear_scaled_l1 (st:Z59):Option (Z59 ⊕ Z4):= bif decide (st.2.2.2.2.1<st.2.2.2.1) then ((gidx st.2.2.1 st.2.2.2.2.1).bind fun x1=> (iterN C_linear_scaled_l0 400 (st.1,(st.2.1,(x1,(st.2.2.1,(st.2.2.2.1,(st.2.2.2.2.1,()))))))).bind fun w3=> some (.inl (w3.1,(w3.2.1,(w3.2.2.1,(w3.2.2.2.1,(IntKind.wrap .i64 (w3.2.2.2.2.1+(1:Int)),()))))))) else some (.inr (st.1,(st.2.1,())))
theorem le_linear_scaled_l1 (st):Le (C_linear_scaled_l1 st) (F_linear_scaled_l1 st):=by
 unfold C_linear_scaled_l1 F_linear_scaled_l1
 try dsimp only
 repeat' (first|exact Lr _|exact Li le_linear_scaled_l0|apply Lf|refine Lb ?_ fun _=>?_|(rename_i w;cases w)|(rename_i w _;cases w))
def C_linear_scaled_l2 (st:Z57):Option (Z57 ⊕ ((List Int)×Unit)):= bif decide (st.2.2.2.1<st.2.2.1) then ((gidx st.2.1 st.2.2.2.1).bind fun x5=> bif decide (st.1<0) then none else (bif (decide ((0:Int)≤st.2.2.2.1))&&(decide (st.2.2.2.1<((List.length st.2.2.2.2.1:Nat):Int))) then some (.inl (st.1,(st.2.1,(st.2.2.1,(IntKind.wrap .i64 (st.2.2.2.1+(1:Int)),(List.set st.2.2.2.2.1 (Int.toNat st.2.2.2.1) (gshr .i64 x5 st.1),())))))) else none)) else some (.inr (st.2.2.2.2.1,()))
theorem le_linear_scaled_l2 (st):Le (C_linear_scaled_l2 st) (F_linear_scaled_l2 st):=by
 unfold C_linear_scaled_l2 F_linear_scaled_l2
 try dsimp only
 repeat' (first|exact Lr _|apply Lf|refine Lb ?_ fun _=>?_|(rename_i w;cases w)|(rename_i w _;cases w))
def C_linear_scaled (x:(List Int)):Option (List Int):= (iterN C_linear_scaled_l1 400 (x,((0:Int),(x,(((List.length x:Nat):Int),((0:Int),())))))).bind fun w4=> bif (decide ((0:Int)≤((List.length w4.1:Nat):Int)))&&((decide (((List.length w4.1:Nat):Int)≤((List.length w4.1:Nat):Int)))&&(lim (Int.toNat ((List.length w4.1:Nat):Int)))) then ((iterN C_linear_scaled_l2 400 (w4.2.1,(w4.1,(((List.length w4.1:Nat):Int),((0:Int),(List.replicate (Int.toNat ((List.length w4.1:Nat):Int)) (0:Int),())))))).bind fun w6=> some w6.1) else none
theorem le_linear_scaled (x):Le (C_linear_scaled x) (F_linear_scaled x):=by
 unfold C_linear_scaled F_linear_scaled
 try dsimp only
 repeat' (first|exact Lr _|exact Li le_linear_scaled_l1|exact Li le_linear_scaled_l2|apply Lf|refine Lb ?_ fun _=>?_|(rename_i w;cases w)|(rename_i w _;cases w))
def C_linear_reflection_l0 (st:Z60):Option (Z60 ⊕ (Int×(Int×Unit))):= bif decide (st.2.2.2.2.1<((List.length st.1:Nat):Int)) then ((gidx st.1 st.2.2.2.2.1).bind fun x1=> (gidx st.2.1 (IntKind.wrap .i64 (st.2.2.2.2.1-(1:Int)))).bind fun x2=> (gidx st.1 st.2.2.2.2.1).bind fun x3=> (gidx st.1 st.2.2.2.2.1).bind fun x4=> (gidx st.2.1 (IntKind.wrap .i64 (st.2.2.2.2.1-(1:Int)))).bind fun x5=> (gidx st.2.1 (IntKind.wrap .i64 (st.2.2.2.2.1-(1:Int)))).bind fun x6=> some (.inl (st.1,(st.2.1,(IntKind.wrap .i64 (st.2.2.1+(IntKind.wrap .i64 (x1*x2))),(IntKind.wrap .i64 (st.2.2.2.1+(IntKind.wrap .i64 ((IntKind.wrap .i64 (x3*x4))+(IntKind.wrap .i64 (x5*x6))))),(IntKind.wrap .i64 (st.2.2.2.2.1+(1:Int)),()))))))) else some (.inr (st.2.2.1,(st.2.2.2.1,())))
theorem le_linear_reflection_l0 (st):Le (C_linear_reflection_l0 st) (F_linear_reflection_l0 st):=by
 unfold C_linear_reflection_l0 F_linear_reflection_l0
 try dsimp only
 repeat' (first|exact Lr _|apply Lf|refine Lb ?_ fun _=>?_|(rename_i w;cases w)|(rename_i w _;cases w))
def C_linear_reflection_l1 (st:(Int×(Int×Unit))):Option ((Int×(Int×Unit)) ⊕ (Int×(Int×Unit))):= bif decide (st.2.1≥(1099511627776:Int)) then some (.inl (gshr .i64 st.1 (1:Int),(gshr .i64 st.2.1 (1:Int),()))) else some (.inr (st.1,(st.2.1,())))
theorem le_linear_reflection_l1 (st):Le (C_linear_reflection_l1 st) (F_linear_reflection_l1 st):=by
 unfold C_linear_reflection_l1 F_linear_reflection_l1
 try dsimp only
 repeat' (first|exact Lr _|apply Lf|refine Lb ?_ fun _=>?_|(rename_i w;cases w)|(rename_i w _;cases w))
def C_linear_reflection (x:Z10):Option Int:= (iterN C_linear_reflection_l0 400 (x.1,(x.2.1,((0:Int),((0:Int),(x.2.2,())))))).bind fun w7=> (iterN C_linear_reflection_l1 400 (w7.1,(w7.2.1,()))).bind fun w8=> bif w8.2.1==(0:Int) then some (0:Int) else (bif w8.2.1==0 then none else ((show Option (Int×Unit) from bif w8.2.1==0 then none else (bif decide ((Int.tmod (gshl .i64 w8.1 (15:Int)) w8.2.1)<(0:Int)) then some (IntKind.wrap .i64 ((IntKind.wrap .i64 (Int.tdiv (gshl .i64 w8.1 (15:Int)) w8.2.1))-(1:Int)),()) else some (IntKind.wrap .i64 (Int.tdiv (gshl .i64 w8.1 (15:Int)) w8.2.1),()))).bind fun z9=> some (imin (imax z9.1 (-16383:Int)) (16383:Int))))
theorem le_linear_reflection (x):Le (C_linear_reflection x) (F_linear_reflection x):=by
 unfold C_linear_reflection F_linear_reflection
 try dsimp only
 repeat' (first|exact Lr _|exact Li le_linear_reflection_l0|exact Li le_linear_reflection_l1|apply Lf|refine Lb ?_ fun _=>?_|(rename_i w;cases w)|(rename_i w _;cases w))
def C_linear_Reflect_l0 (st:Z103):Option (Z103 ⊕ Z74):= bif decide (st.2.2.2.1≥st.2.1) then (bif (decide ((0:Int)≤st.2.2.2.1))&&(decide (st.2.2.2.1<((List.length st.2.2.2.2.1:Nat):Int))) then (bif (decide ((0:Int)≤(IntKind.wrap .i64 (st.2.2.2.1-(1:Int)))))&&(decide ((IntKind.wrap .i64 (st.2.2.2.1-(1:Int)))<((List.length st.2.2.2.2.2.1:Nat):Int))) then ((C_linear_clamp (IntKind.wrap .i64 ((List.getD st.2.2.2.2.1 (Int.toNat st.2.2.2.1) (0:Int))-(gshr .i64 (IntKind.wrap .i64 (st.2.2.1*(List.getD st.2.2.2.2.2.1 (Int.toNat (IntKind.wrap .i64 (st.2.2.2.1-(1:Int)))) (0:Int)))) (14:Int))))).bind fun y6=> bif (decide ((0:Int)≤st.2.2.2.1))&&(decide (st.2.2.2.1<((List.length st.2.2.2.2.1:Nat):Int))) then ((C_linear_clamp (IntKind.wrap .i64 ((List.getD st.2.2.2.2.2.1 (Int.toNat (IntKind.wrap .i64 (st.2.2.2.1-(1:Int)))) (0:Int))-(gshr .i64 (IntKind.wrap .i64 (st.2.2.1*(List.getD st.2.2.2.2.1 (Int.toNat st.2.2.2.1) (0:Int)))) (14:Int))))).bind fun y7=> bif (decide ((0:Int)≤st.2.2.2.1))&&(decide (st.2.2.2.1<((List.length st.2.2.2.2.2.1:Nat):Int))) then some (.inl (st.1,(st.2.1,(st.2.2.1,(IntKind.wrap .i64 (st.2.2.2.1-(1:Int)),(List.set st.2.2.2.2.1 (Int.toNat st.2.2.2.1) y6,(List.set st.2.2.2.2.2.1 (Int.toNat st.2.2.2.1) y7,(st.2.2.2.2.2.2.1,())))))))) else none) else none) else none) else none) else some (.inr (st.1,(st.2.1,(st.2.2.2.2.1,(st.2.2.2.2.2.1,(st.2.2.2.2.2.2.1,()))))))
theorem le_linear_Reflect_l0 (st):Le (C_linear_Reflect_l0 st) (F_linear_Reflect_l0 st):=by
 unfold C_linear_Reflect_l0 F_linear_Reflect_l0
 try dsimp only
 repeat' (first|exact Lr _|exact le_linear_clamp _|apply Lf|refine Lb ?_ fun _=>?_|(rename_i w;cases w)|(rename_i w _;cases w))
def C_linear_Reflect_l1 (st:Z74):Option (Z74 ⊕ ((List Int)×Unit)):= bif decide (st.2.1≤st.1) then ((C_linear_reflection (st.2.2.1,(st.2.2.2.1,st.2.1))).bind fun y5=> bif lim ((List.length st.2.2.2.2.1)+1) then ((iterN C_linear_Reflect_l0 400 (st.1,(st.2.1,(y5,(IntKind.wrap .i64 (((List.length st.2.2.1:Nat):Int)-(1:Int)),(st.2.2.1,(st.2.2.2.1,(List.append st.2.2.2.2.1 ([y5]:List Int),())))))))).bind fun w8=> some (.inl (w8.1,(IntKind.wrap .i64 (w8.2.1+(1:Int)),(w8.2.2.1,(w8.2.2.2.1,(w8.2.2.2.2.1,()))))))) else none) else some (.inr (st.2.2.2.2.1,()))
theorem le_linear_Reflect_l1 (st):Le (C_linear_Reflect_l1 st) (F_linear_Reflect_l1 st):=by
 unfold C_linear_Reflect_l1 F_linear_Reflect_l1
 try dsimp only
 repeat' (first|exact Lr _|exact le_linear_reflection _|exact Li le_linear_Reflect_l0|apply Lf|refine Lb ?_ fun _=>?_|(rename_i w;cases w)|(rename_i w _;cases w))
def C_linear_Reflect (x:((List Int)×Int)):Option ((List Int)×Int):= (show Option Z18 from bif decide (x.2<(1:Int)) then some (x.1,(x.2,(true,()))) else (bif decide (x.2 > (32:Int)) then some (x.1,(x.2,(true,()))) else some (x.1,(x.2,(decide (((List.length x.1:Nat):Int) > (4096:Int)),()))))).bind fun z1=> bif z1.2.2.1 then some (([]:(List Int)),(1:Int)) else ((C_linear_allWide z1.1).bind fun y2=> bif !y2 then some (([]:(List Int)),(6:Int)) else ((C_linear_scaled z1.1).bind fun y3=> (C_slices_Clone___int_int_ y3).bind fun y4=> bif (decide ((0:Int)≤z1.2.1))&&(lim (Int.toNat z1.2.1)) then ((iterN C_linear_Reflect_l1 400 (z1.2.1,((1:Int),(y3,(y4,(([]:(List Int)),())))))).bind fun w9=> some (w9.1,(0:Int))) else none))
theorem le_linear_Reflect (x):Le (C_linear_Reflect x) (F_linear_Reflect x):=by
 unfold C_linear_Reflect F_linear_Reflect
 try dsimp only
 repeat' (first|exact Lr _|exact le_linear_allWide _|exact le_linear_scaled _|exact le_slices_Clone___int_int_ _|exact Li le_linear_Reflect_l1|apply Lf|refine Lb ?_ fun _=>?_|(rename_i w;cases w)|(rename_i w _;cases w))
def C_linear_Climb_l0 (st:Z43):Option (Z43 ⊕ (((List Int)×Unit) ⊕ Z4)):= bif decide (st.2.2.2.1<st.2.2.1) then ((gidx st.2.1 st.2.2.2.1).bind fun x2=> (show Option ((List Int)×Z32) from bif decide (x2<(-16383:Int)) then some (st.1,(st.2.1,(st.2.2.1,(st.2.2.2.1,(true,()))))) else some (st.1,(st.2.1,(st.2.2.1,(st.2.2.2.1,(decide (x2 > (16383:Int)),())))))).bind fun z3=> bif z3.2.2.2.2.1 then some (.inr (Sum.inr ((([]:(List Int)),((1:Int),()))))) else some (.inl (z3.1,(z3.2.1,(z3.2.2.1,(IntKind.wrap .i64 (z3.2.2.2.1+(1:Int)),())))))) else some (.inr (Sum.inl (st.1,())))
theorem le_linear_Climb_l0 (st):Le (C_linear_Climb_l0 st) (F_linear_Climb_l0 st):=by
 unfold C_linear_Climb_l0 F_linear_Climb_l0
 try dsimp only
 repeat' (first|exact Lr _|apply Lf|refine Lb ?_ fun _=>?_|(rename_i w;cases w)|(rename_i w _;cases w))
def C_linear_Climb_l1 (st:Z135):Option (Z135 ⊕ Z57):= bif decide (st.2.2.2.2.2.2.2.2.1<st.2.2.2.2.2.2.2.1) then ((gidx st.2.2.2.2.2.2.1 st.2.2.2.2.2.2.2.2.1).bind fun x8=> (gidx st.1 (IntKind.wrap .i64 ((IntKind.wrap .i64 (st.2.1-(1:Int)))-st.2.2.2.2.2.2.2.2.1))).bind fun x9=> bif lim ((List.length st.2.2.2.2.2.2.2.2.2.1)+1) then some (.inl (st.1,(st.2.1,(st.2.2.1,(st.2.2.2.1,(st.2.2.2.2.1,(st.2.2.2.2.2.1,(st.2.2.2.2.2.2.1,(st.2.2.2.2.2.2.2.1,(IntKind.wrap .i64 (st.2.2.2.2.2.2.2.2.1+(1:Int)),(List.append st.2.2.2.2.2.2.2.2.2.1 ([IntKind.wrap .i64 (x8-(gshr .i64 (IntKind.wrap .i64 (st.2.2.1*x9)) (14:Int)))]:List Int),()))))))))))) else none) else some (.inr (st.2.2.1,(st.2.2.2.1,(st.2.2.2.2.1,(st.2.2.2.2.2.1,(st.2.2.2.2.2.2.2.2.2.1,()))))))
theorem le_linear_Climb_l1 (st):Le (C_linear_Climb_l1 st) (F_linear_Climb_l1 st):=by
 unfold C_linear_Climb_l1 F_linear_Climb_l1
 try dsimp only
 repeat' (first|exact Lr _|apply Lf|refine Lb ?_ fun _=>?_|(rename_i w;cases w)|(rename_i w _;cases w))
def C_linear_Climb_l2 (st:Z43):Option (Z43 ⊕ ((List Int)×Unit)):= bif decide (st.2.2.2.1<st.2.2.1) then ((gidx st.2.1 st.2.2.2.1).bind fun x7=> bif (decide ((0:Int)≤(IntKind.wrap .i64 (st.2.2.2.1+(1:Int)))))&&(lim (Int.toNat (IntKind.wrap .i64 (st.2.2.2.1+(1:Int))))) then ((iterN C_linear_Climb_l1 400 (st.1,(st.2.2.2.1,(x7,(st.2.1,(st.2.2.1,(st.2.2.2.1,(st.1,(((List.length st.1:Nat):Int),((0:Int),(([]:(List Int)),()))))))))))).bind fun w10=> bif lim ((List.length w10.2.2.2.2.1)+1) then some (.inl (List.append w10.2.2.2.2.1 ([w10.1]:List Int),(w10.2.1,(w10.2.2.1,(IntKind.wrap .i64 (w10.2.2.2.1+(1:Int)),()))))) else none) else none) else some (.inr (st.1,()))
theorem le_linear_Climb_l2 (st):Le (C_linear_Climb_l2 st) (F_linear_Climb_l2 st):=by
 unfold C_linear_Climb_l2 F_linear_Climb_l2
 try dsimp only
 repeat' (first|exact Lr _|exact Li le_linear_Climb_l1|apply Lf|refine Lb ?_ fun _=>?_|(rename_i w;cases w)|(rename_i w _;cases w))
def C_linear_Climb (x:(List Int)):Option ((List Int)×Int):= (show Option Z7 from bif decide (((List.length x:Nat):Int)<(1:Int)) then some (x,(true,())) else some (x,(decide (((List.length x:Nat):Int) > (32:Int)),()))).bind fun z1=> bif z1.2.1 then some (([]:(List Int)),(1:Int)) else ((iterN C_linear_Climb_l0 400 (z1.1,(z1.1,(((List.length z1.1:Nat):Int),((0:Int),()))))).bind fun w4=> match w4 with |.inl a5=>((iterN C_linear_Climb_l2 400 (([]:List Int),(a5.1,(((List.length a5.1:Nat):Int),((0:Int),()))))).bind fun w11=> some (w11.1,(0:Int))) |.inr b6=>some (b6.1,b6.2.1))
theorem le_linear_Climb (x):Le (C_linear_Climb x) (F_linear_Climb x):=by
 unfold C_linear_Climb F_linear_Climb
 try dsimp only
 repeat' (first|exact Lr _|exact Li le_linear_Climb_l0|exact Li le_linear_Climb_l2|apply Lf|refine Lb ?_ fun _=>?_|(rename_i w;cases w)|(rename_i w _;cases w))
def C_linear_Round_l0 (st:Z59):Option (Z59 ⊕ (Z4 ⊕ Z14)):= bif decide (st.2.2.2.2.1<st.2.2.2.1) then ((gidx st.2.2.1 st.2.2.2.2.1).bind fun x2=> (show Option ((List Int)×(Int×Z32)) from bif decide (x2<(-35184372088832:Int)) then some (st.1,(st.2.1,(st.2.2.1,(st.2.2.2.1,(st.2.2.2.2.1,(true,())))))) else some (st.1,(st.2.1,(st.2.2.1,(st.2.2.2.1,(st.2.2.2.2.1,(decide (x2 > (35184372088832:Int)),()))))))).bind fun z3=> bif z3.2.2.2.2.2.1 then some (.inr (Sum.inr (((0:Int),((1:Int),(([]:(List Int)),())))))) else some (.inl (z3.1,(z3.2.1,(z3.2.2.1,(z3.2.2.2.1,(IntKind.wrap .i64 (z3.2.2.2.2.1+(1:Int)),()))))))) else some (.inr (Sum.inl (st.1,(st.2.1,()))))
theorem le_linear_Round_l0 (st):Le (C_linear_Round_l0 st) (F_linear_Round_l0 st):=by
 unfold C_linear_Round_l0 F_linear_Round_l0
 try dsimp only
 repeat' (first|exact Lr _|apply Lf|refine Lb ?_ fun _=>?_|(rename_i w;cases w)|(rename_i w _;cases w))
def C_linear_Round_l1 (st:Z115):Option (Z115 ⊕ Z40):= bif decide (st.2.2.2.2.2.2.1<st.2.2.2.2.2.1) then ((gidx st.2.2.2.2.1 st.2.2.2.2.2.2.1).bind fun x8=> bif decide (st.2.2.1<0) then none else ((C_sample_Fits (gshr .i64 (IntKind.wrap .i64 (x8+st.2.2.2.1)) st.2.2.1,st.2.1)).bind fun y9=> bif !y9 then some (.inr (st.1,(st.2.1,(st.2.2.1,(st.2.2.2.2.2.2.2.1,()))))) else (bif lim ((List.length st.2.2.2.2.2.2.2.1)+1) then some (.inl (st.1,(st.2.1,(st.2.2.1,(st.2.2.2.1,(st.2.2.2.2.1,(st.2.2.2.2.2.1,(IntKind.wrap .i64 (st.2.2.2.2.2.2.1+(1:Int)),(List.append st.2.2.2.2.2.2.2.1 ([gshr .i64 (IntKind.wrap .i64 (x8+st.2.2.2.1)) st.2.2.1]:List Int),()))))))))) else none))) else some (.inr (st.1,(st.2.1,(st.2.2.1,(st.2.2.2.2.2.2.2.1,())))))
theorem le_linear_Round_l1 (st):Le (C_linear_Round_l1 st) (F_linear_Round_l1 st):=by
 unfold C_linear_Round_l1 F_linear_Round_l1
 try dsimp only
 repeat' (first|exact Lr _|exact le_sample_Fits _|apply Lf|refine Lb ?_ fun _=>?_|(rename_i w;cases w)|(rename_i w _;cases w))
def C_linear_Round_l2 (st:Z13):Option (Z13 ⊕ (Unit ⊕ Z14)):= bif decide (st.2.2.1≤(14:Int)) then ((show Option Z30 from bif decide (st.2.2.1 > (0:Int)) then (bif decide ((IntKind.wrap .i64 (st.2.2.1-(1:Int)))<0) then none else some (st.1,(st.2.1,(st.2.2.1,(gshl .i64 (1:Int) (IntKind.wrap .i64 (st.2.2.1-(1:Int))),()))))) else some (st.1,(st.2.1,(st.2.2.1,((0:Int),()))))).bind fun z7=> bif (decide ((0:Int)≤((List.length z7.1:Nat):Int)))&&(lim (Int.toNat ((List.length z7.1:Nat):Int))) then ((iterN C_linear_Round_l1 400 (z7.1,(z7.2.1,(z7.2.2.1,(z7.2.2.2.1,(z7.1,(((List.length z7.1:Nat):Int),((0:Int),(([]:(List Int)),()))))))))).bind fun w10=> bif ((List.length w10.2.2.2.1:Nat):Int)==((List.length w10.1:Nat):Int) then some (.inr (Sum.inr ((IntKind.wrap .i64 ((14:Int)-w10.2.2.1),((0:Int),(w10.2.2.2.1,())))))) else some (.inl (w10.1,(w10.2.1,(IntKind.wrap .i64 (w10.2.2.1+(1:Int)),()))))) else none) else some (.inr (Sum.inl ()))
theorem le_linear_Round_l2 (st):Le (C_linear_Round_l2 st) (F_linear_Round_l2 st):=by
 unfold C_linear_Round_l2 F_linear_Round_l2
 try dsimp only
 repeat' (first|exact Lr _|exact Li le_linear_Round_l1|apply Lf|refine Lb ?_ fun _=>?_|(rename_i w;cases w)|(rename_i w _;cases w))
def C_linear_Round (x:((List Int)×Int)):Option Z2:= (show Option Z18 from bif decide (((List.length x.1:Nat):Int)<(1:Int)) then some (x.1,(x.2,(true,()))) else (bif decide (((List.length x.1:Nat):Int) > (32:Int)) then some (x.1,(x.2,(true,()))) else (bif decide (x.2<(2:Int)) then some (x.1,(x.2,(true,()))) else some (x.1,(x.2,(decide (x.2 > (16:Int)),())))))).bind fun z1=> bif z1.2.2.1 then some (([]:(List Int)),((0:Int),(1:Int))) else ((iterN C_linear_Round_l0 400 (z1.1,(z1.2.1,(z1.1,(((List.length z1.1:Nat):Int),((0:Int),())))))).bind fun w4=> match w4 with |.inl a5=>((iterN C_linear_Round_l2 400 (a5.1,(a5.2.1,((0:Int),())))).bind fun w11=> match w11 with |.inl a12=>some (([]:(List Int)),((0:Int),(6:Int))) |.inr b13=>some (b13.2.2.1,(b13.1,b13.2.1))) |.inr b6=>some (b6.2.2.1,(b6.1,b6.2.1)))
theorem le_linear_Round (x):Le (C_linear_Round x) (F_linear_Round x):=by
 unfold C_linear_Round F_linear_Round
 try dsimp only
 repeat' (first|exact Lr _|exact Li le_linear_Round_l0|exact Li le_linear_Round_l2|apply Lf|refine Lb ?_ fun _=>?_|(rename_i w;cases w)|(rename_i w _;cases w))
def C_linear_Find (x:Z2):Option Z2:= (C_linear_Reflect (x.1,x.2.1)).bind fun y1=> bif y1.2 != (0:Int) then some (([]:(List Int)),((0:Int),y1.2)) else ((C_linear_Climb y1.1).bind fun y2=> bif y2.2 != (0:Int) then some (([]:(List Int)),((0:Int),y2.2)) else ((C_linear_Round (y2.1,x.2.2)).bind fun y3=> some (y3.1,(y3.2.1,y3.2.2))))
theorem le_linear_Find (x):Le (C_linear_Find x) (F_linear_Find x):=by
 unfold C_linear_Find F_linear_Find
 try dsimp only
 repeat' (first|exact Lr _|exact le_linear_Reflect _|exact le_linear_Climb _|exact le_linear_Round _|apply Lf|refine Lb ?_ fun _=>?_|(rename_i w;cases w)|(rename_i w _;cases w))
def C_long_Find_l0 (st:Z101):Option (Z101 ⊕ ((List Int)×Z53)):= bif decide (st.2.2.2.2.2.2.2.1<((List.length st.1:Nat):Int)) then ((gidx st.1 st.2.2.2.2.2.2.2.1).bind fun x3=> (gidx st.1 (IntKind.wrap .i64 (st.2.2.2.2.2.2.2.1-st.2.2.2.2.2.1))).bind fun x4=> some (.inl (st.1,(st.2.1,(st.2.2.1,(st.2.2.2.1,(st.2.2.2.2.1,(st.2.2.2.2.2.1,(IntKind.wrap .i64 (st.2.2.2.2.2.2.1+(imax (IntKind.wrap .i64 (x3-x4)) (IntKind.wrap .i64 (0-(IntKind.wrap .i64 (x3-x4)))))),(IntKind.wrap .i64 (st.2.2.2.2.2.2.2.1+(1:Int)),())))))))))) else some (.inr (st.1,(st.2.1,(st.2.2.1,(st.2.2.2.1,(st.2.2.2.2.1,(st.2.2.2.2.2.1,(st.2.2.2.2.2.2.1,()))))))))
theorem le_long_Find_l0 (st):Le (C_long_Find_l0 st) (F_long_Find_l0 st):=by
 unfold C_long_Find_l0 F_long_Find_l0
 try dsimp only
 repeat' (first|exact Lr _|apply Lf|refine Lb ?_ fun _=>?_|(rename_i w;cases w)|(rename_i w _;cases w))
def C_long_Find_l1 (st:Z65):Option (Z65 ⊕ (Int×Unit)):= bif decide (st.2.2.2.2.2.1≤st.2.2.1) then ((iterN C_long_Find_l0 400 (st.1,(st.2.1,(st.2.2.1,(st.2.2.2.1,(st.2.2.2.2.1,(st.2.2.2.2.2.1,((0:Int),(st.2.2.1,()))))))))).bind fun w5=> (show Option ((List Int)×(Int×(Int×Z38))) from bif w5.2.2.2.2.2.1==w5.2.1 then some (w5.1,(w5.2.1,(w5.2.2.1,(w5.2.2.2.1,(w5.2.2.2.2.1,(w5.2.2.2.2.2.1,(w5.2.2.2.2.2.2.1,(true,())))))))) else some (w5.1,(w5.2.1,(w5.2.2.1,(w5.2.2.2.1,(w5.2.2.2.2.1,(w5.2.2.2.2.2.1,(w5.2.2.2.2.2.2.1,(decide (w5.2.2.2.2.2.2.1<w5.2.2.2.2.1),()))))))))).bind fun z6=> bif z6.2.2.2.2.2.2.2.1 then some (.inl (z6.1,(z6.2.1,(z6.2.2.1,(z6.2.2.2.2.2.1,(z6.2.2.2.2.2.2.1,(IntKind.wrap .i64 (z6.2.2.2.2.2.1+(1:Int)),()))))))) else some (.inl (z6.1,(z6.2.1,(z6.2.2.1,(z6.2.2.2.1,(z6.2.2.2.2.1,(IntKind.wrap .i64 (z6.2.2.2.2.2.1+(1:Int)),())))))))) else some (.inr (st.2.2.2.1,()))
theorem le_long_Find_l1 (st):Le (C_long_Find_l1 st) (F_long_Find_l1 st):=by
 unfold C_long_Find_l1 F_long_Find_l1
 try dsimp only
 repeat' (first|exact Lr _|exact Li le_long_Find_l0|apply Lf|refine Lb ?_ fun _=>?_|(rename_i w;cases w)|(rename_i w _;cases w))
def C_long_Find (x:Z2):Option (Int×Int):= (show Option Z32 from bif decide (x.2.1<(2:Int)) then some (x.1,(x.2.1,(x.2.2,(true,())))) else (bif decide (x.2.1 > x.2.2) then some (x.1,(x.2.1,(x.2.2,(true,())))) else (bif decide (x.2.2 > (1024:Int)) then some (x.1,(x.2.1,(x.2.2,(true,())))) else some (x.1,(x.2.1,(x.2.2,(decide (((List.length x.1:Nat):Int) > (4096:Int)),()))))))).bind fun z1=> bif z1.2.2.2.1 then some ((0:Int),(1:Int)) else (bif decide (((List.length z1.1:Nat):Int)≤z1.2.2.1) then some ((0:Int),(7:Int)) else ((C_long_allWide z1.1).bind fun y2=> bif !y2 then some ((0:Int),(6:Int)) else ((iterN C_long_Find_l1 400 (z1.1,(z1.2.1,(z1.2.2.1,((0:Int),((0:Int),(z1.2.1,()))))))).bind fun w7=> some (w7.1,(0:Int)))))
theorem le_long_Find (x):Le (C_long_Find x) (F_long_Find x):=by
 unfold C_long_Find F_long_Find
 try dsimp only
 repeat' (first|exact Lr _|exact le_long_allWide _|exact Li le_long_Find_l1|apply Lf|refine Lb ?_ fun _=>?_|(rename_i w;cases w)|(rename_i w _;cases w))
def C_long_Table (x:Unit):Option (List (List Int)):= some ([List.set (List.set (List.set (List.replicate 3 (0:Int)) 0 (0:Int)) 1 (0:Int)) 2 (0:Int),List.set (List.set (List.set (List.replicate 3 (0:Int)) 0 (0:Int)) 1 (64:Int)) 2 (0:Int),List.set (List.set (List.set (List.replicate 3 (0:Int)) 0 (0:Int)) 1 (32:Int)) 2 (0:Int),List.set (List.set (List.set (List.replicate 3 (0:Int)) 0 (16:Int)) 1 (32:Int)) 2 (16:Int),List.set (List.set (List.set (List.replicate 3 (0:Int)) 0 (21:Int)) 1 (22:Int)) 2 (21:Int),List.set (List.set (List.set (List.replicate 3 (0:Int)) 0 (0:Int)) 1 (48:Int)) 2 (0:Int),List.set (List.set (List.set (List.replicate 3 (0:Int)) 0 (-8:Int)) 1 (64:Int)) 2 (-8:Int),List.set (List.set (List.set (List.replicate 3 (0:Int)) 0 (32:Int)) 1 (32:Int)) 2 (0:Int),List.set (List.set (List.set (List.replicate 3 (0:Int)) 0 (0:Int)) 1 (32:Int)) 2 (32:Int)]:List (List Int))
theorem le_long_Table (x):Le (C_long_Table x) (F_long_Table x):=by
 unfold C_long_Table F_long_Table
 try dsimp only
 repeat' (first|exact Lr _|apply Lf|refine Lb ?_ fun _=>?_|(rename_i w;cases w)|(rename_i w _;cases w))
def C_long_Tune_l0 (st:Z164):Option (Z164 ⊕ ((List Int)×(Int×(Int×(Bool×(Int×(Int×(Int×Z89)))))))):= bif decide (st.2.2.2.2.2.2.2.2.1<st.2.2.2.2.2.2.2.1) then (bif (decide ((0:Int)≤st.2.2.2.2.2.2.2.2.1))&&(decide (st.2.2.2.2.2.2.2.2.1<((List.length st.2.2.2.2.2.2.2.2.2.2.1:Nat):Int))) then some (.inl (st.1,(st.2.1,(st.2.2.1,(st.2.2.2.1,(IntKind.wrap .i64 (st.2.2.2.2.1+(imax (List.getD st.2.2.2.2.2.2.2.2.2.2.1 (Int.toNat st.2.2.2.2.2.2.2.2.1) (0:Int)) (IntKind.wrap .i64 (0-(List.getD st.2.2.2.2.2.2.2.2.2.2.1 (Int.toNat st.2.2.2.2.2.2.2.2.1) (0:Int)))))),(st.2.2.2.2.2.1,(st.2.2.2.2.2.2.1,(st.2.2.2.2.2.2.2.1,(IntKind.wrap .i64 (st.2.2.2.2.2.2.2.2.1+(1:Int)),(st.2.2.2.2.2.2.2.2.2.1,(st.2.2.2.2.2.2.2.2.2.2.1,(st.2.2.2.2.2.2.2.2.2.2.2.1,(st.2.2.2.2.2.2.2.2.2.2.2.2.1,(st.2.2.2.2.2.2.2.2.2.2.2.2.2.1,()))))))))))))))) else none) else some (.inr (st.1,(st.2.1,(st.2.2.1,(st.2.2.2.1,(st.2.2.2.2.1,(st.2.2.2.2.2.1,(st.2.2.2.2.2.2.1,(st.2.2.2.2.2.2.2.2.2.1,(st.2.2.2.2.2.2.2.2.2.2.2.1,(st.2.2.2.2.2.2.2.2.2.2.2.2.1,(st.2.2.2.2.2.2.2.2.2.2.2.2.2.1,()))))))))))))
theorem le_long_Tune_l0 (st):Le (C_long_Tune_l0 st) (F_long_Tune_l0 st):=by
 unfold C_long_Tune_l0 F_long_Tune_l0
 try dsimp only
 repeat' (first|exact Lr _|apply Lf|refine Lb ?_ fun _=>?_|(rename_i w;cases w)|(rename_i w _;cases w))
def C_long_Tune_l1 (st:Z136):Option (Z136 ⊕ (Bool×Z12)):= bif decide (st.2.2.2.2.2.1<st.2.2.2.2.1) then (bif (decide ((0:Int)≤st.2.2.2.2.2.1))&&(decide (st.2.2.2.2.2.1<((List.length st.2.2.2.2.2.2.1:Nat):Int))) then ((C_long_Rest (st.1,(st.2.1,List.getD st.2.2.2.2.2.2.1 (Int.toNat st.2.2.2.2.2.1) (List.replicate 3 (0:Int))))).bind fun y3=> bif y3.2 != (0:Int) then some (.inl (st.1,(st.2.1,(st.2.2.1,(st.2.2.2.1,(st.2.2.2.2.1,(IntKind.wrap .i64 (st.2.2.2.2.2.1+(1:Int)),(st.2.2.2.2.2.2.1,(st.2.2.2.2.2.2.2.1,(st.2.2.2.2.2.2.2.2.1,())))))))))) else ((iterN C_long_Tune_l0 400 (st.1,(st.2.1,(st.2.2.1,(st.2.2.2.1,((0:Int),(st.2.2.2.2.1,(st.2.2.2.2.2.1,(((List.length y3.1:Nat):Int),((0:Int),(st.2.2.2.2.2.2.1,(y3.1,(st.2.2.2.2.2.2.2.1,(st.2.2.2.2.2.2.2.2.1,(List.getD st.2.2.2.2.2.2.1 (Int.toNat st.2.2.2.2.2.1) (List.replicate 3 (0:Int)),()))))))))))))))).bind fun w4=> (show Option ((List Int)×(Int×(Int×(Bool×(Int×(Int×(Int×(Bool×Z89)))))))) from bif !w4.2.2.2.1 then some (w4.1,(w4.2.1,(w4.2.2.1,(w4.2.2.2.1,(w4.2.2.2.2.1,(w4.2.2.2.2.2.1,(w4.2.2.2.2.2.2.1,(true,(w4.2.2.2.2.2.2.2.1,(w4.2.2.2.2.2.2.2.2.1,(w4.2.2.2.2.2.2.2.2.2.1,(w4.2.2.2.2.2.2.2.2.2.2.1,())))))))))))) else some (w4.1,(w4.2.1,(w4.2.2.1,(w4.2.2.2.1,(w4.2.2.2.2.1,(w4.2.2.2.2.2.1,(w4.2.2.2.2.2.2.1,(decide (w4.2.2.2.2.1<w4.2.2.1),(w4.2.2.2.2.2.2.2.1,(w4.2.2.2.2.2.2.2.2.1,(w4.2.2.2.2.2.2.2.2.2.1,(w4.2.2.2.2.2.2.2.2.2.2.1,()))))))))))))).bind fun z5=> bif z5.2.2.2.2.2.2.2.1 then some (.inl (z5.1,(z5.2.1,(z5.2.2.2.2.1,(true,(z5.2.2.2.2.2.1,(IntKind.wrap .i64 (z5.2.2.2.2.2.2.1+(1:Int)),(z5.2.2.2.2.2.2.2.2.1,(z5.2.2.2.2.2.2.2.2.2.1,(z5.2.2.2.2.2.2.2.2.2.2.2.1,())))))))))) else some (.inl (z5.1,(z5.2.1,(z5.2.2.1,(z5.2.2.2.1,(z5.2.2.2.2.2.1,(IntKind.wrap .i64 (z5.2.2.2.2.2.2.1+(1:Int)),(z5.2.2.2.2.2.2.2.2.1,(z5.2.2.2.2.2.2.2.2.2.1,(z5.2.2.2.2.2.2.2.2.2.2.1,())))))))))))) else none) else some (.inr (st.2.2.2.1,(st.2.2.2.2.2.2.2.1,(st.2.2.2.2.2.2.2.2.1,()))))
theorem le_long_Tune_l1 (st):Le (C_long_Tune_l1 st) (F_long_Tune_l1 st):=by
 unfold C_long_Tune_l1 F_long_Tune_l1
 try dsimp only
 repeat' (first|exact Lr _|exact le_long_Rest _|exact Li le_long_Tune_l0|apply Lf|refine Lb ?_ fun _=>?_|(rename_i w;cases w)|(rename_i w _;cases w))
def C_long_Tune (x:((List Int)×Int)):Option ((List Int)×Int):= (show Option ((List Int)×Z17) from bif decide (x.2<(2:Int)) then some (x.1,(x.2,(true,(List.replicate 3 (0:Int),())))) else some (x.1,(x.2,(decide (x.2 > (1024:Int)),(List.replicate 3 (0:Int),()))))).bind fun z1=> bif z1.2.2.1 then some (List.replicate 3 (0:Int),(1:Int)) else ((C_long_Table ()).bind fun y2=> (iterN C_long_Tune_l1 400 (z1.1,(z1.2.1,((0:Int),(false,(((List.length y2:Nat):Int),((0:Int),(y2,(z1.2.2.2.1,(List.replicate 3 (0:Int),())))))))))).bind fun w6=> bif !w6.1 then some (List.replicate 3 (0:Int),(6:Int)) else some (w6.2.2.1,(0:Int)))
theorem le_long_Tune (x):Le (C_long_Tune x) (F_long_Tune x):=by
 unfold C_long_Tune F_long_Tune
 try dsimp only
 repeat' (first|exact Lr _|exact le_long_Table _|exact Li le_long_Tune_l1|apply Lf|refine Lb ?_ fun _=>?_|(rename_i w;cases w)|(rename_i w _;cases w))
def C_sub_lagged (x:(List Int)):Option (Z165×Bool):= (C_long_Find (x,((16:Int),(256:Int)))).bind fun y1=> bif y1.2 != (0:Int) then some (((0:Int),((0:Int),((0:Int),((0:Int),((0:Int),(([]:(List Int)),(List.replicate 3 (0:Int),(([]:Z5),(([]:(List Int)),(((0:Int),(([]:(List Int)),())),(([]:(List Int)),()))))))))))),false) else ((C_long_Tune (x,y1.1)).bind fun y2=> bif y2.2 != (0:Int) then some (((0:Int),((0:Int),((0:Int),((0:Int),((0:Int),(([]:(List Int)),(List.replicate 3 (0:Int),(([]:Z5),(([]:(List Int)),(((0:Int),(([]:(List Int)),())),(([]:(List Int)),()))))))))))),false) else ((C_long_Rest (x,(y1.1,y2.1))).bind fun y3=> bif y3.2 != (0:Int) then some (((0:Int),((0:Int),((0:Int),((0:Int),((0:Int),(([]:(List Int)),(List.replicate 3 (0:Int),(([]:Z5),(([]:(List Int)),(((0:Int),(([]:(List Int)),())),(([]:(List Int)),()))))))))))),false) else ((C_linear_Find (y3.1,((4:Int),(12:Int)))).bind fun y4=> bif y4.2.2 != (0:Int) then some (((0:Int),((0:Int),((0:Int),((0:Int),((0:Int),(([]:(List Int)),(List.replicate 3 (0:Int),(([]:Z5),(([]:(List Int)),(((0:Int),(([]:(List Int)),())),(([]:(List Int)),()))))))))))),false) else some (((4:Int),((0:Int),((0:Int),(y4.2.1,(y1.1,(y4.1,(y2.1,(([]:Z5),(([]:(List Int)),(((0:Int),(([]:(List Int)),())),(([]:(List Int)),()))))))))))),true))))
theorem le_sub_lagged (x):Le (C_sub_lagged x) (F_sub_lagged x):=by
 unfold C_sub_lagged F_sub_lagged
 try dsimp only
 repeat' (first|exact Lr _|exact le_long_Find _|exact le_long_Tune _|exact le_long_Rest _|exact le_linear_Find _|apply Lf|refine Lb ?_ fun _=>?_|(rename_i w;cases w)|(rename_i w _;cases w))
def C_sub_candidates_1 (x:(Int×(Int×Z175))):Option Z175:= (C_linear_Find (x.2.2.1,(x.1,x.2.1))).bind fun y1=> bif y1.2.2==(0:Int) then (bif lim ((List.length x.2.2.2)+1) then some (x.2.2.1,List.append x.2.2.2 ([((3:Int),((0:Int),((0:Int),(y1.2.1,((0:Int),(y1.1,(List.replicate 3 (0:Int),(([]:Z5),(([]:(List Int)),(((0:Int),(([]:(List Int)),())),(([]:(List Int)),())))))))))))]:List Z165)) else none) else some (x.2.2.1,x.2.2.2)
theorem le_sub_candidates_1 (x):Le (C_sub_candidates_1 x) (F_sub_candidates_1 x):=by
 unfold C_sub_candidates_1 F_sub_candidates_1
 try dsimp only
 repeat' (first|exact Lr _|exact le_linear_Find _|apply Lf|refine Lb ?_ fun _=>?_|(rename_i w;cases w)|(rename_i w _;cases w))
def C_sub_candidates_l0 (st:Z184):Option (Z184 ⊕ Z179):= bif decide (st.1<(5:Int)) then (bif lim ((List.length st.2.1)+1) then some (.inl (IntKind.wrap .i64 (st.1+(1:Int)),(List.append st.2.1 ([((2:Int),((0:Int),(st.1,((0:Int),((0:Int),(([]:(List Int)),(List.replicate 3 (0:Int),(([]:Z5),(([]:(List Int)),(((0:Int),(([]:(List Int)),())),(([]:(List Int)),())))))))))))]:List Z165),(st.2.2.1,())))) else none) else some (.inr (st.2.1,(st.2.2.1,())))
theorem le_sub_candidates_l0 (st):Le (C_sub_candidates_l0 st) (F_sub_candidates_l0 st):=by
 unfold C_sub_candidates_l0 F_sub_candidates_l0
 try dsimp only
 repeat' (first|exact Lr _|apply Lf|refine Lb ?_ fun _=>?_|(rename_i w;cases w)|(rename_i w _;cases w))
def C_sub_candidates (x:((List Int)×Int)):Option Z166:= (C_fixed_Best x.1).bind fun y1=> (show Option (Int×((List Int)×Z171)) from bif decide (x.2≥(1:Int)) then ((C_sub_candidates_1 ((4:Int),((12:Int),(x.1,([((0:Int),((0:Int),((0:Int),((0:Int),((0:Int),(([]:(List Int)),(List.replicate 3 (0:Int),(([]:Z5),(([]:(List Int)),(((0:Int),(([]:(List Int)),())),(([]:(List Int)),()))))))))))),((1:Int),((0:Int),((0:Int),((0:Int),((0:Int),(([]:(List Int)),(List.replicate 3 (0:Int),(([]:Z5),(([]:(List Int)),(((0:Int),(([]:(List Int)),())),(([]:(List Int)),()))))))))))),((2:Int),((0:Int),(y1,((0:Int),((0:Int),(([]:(List Int)),(List.replicate 3 (0:Int),(([]:Z5),(([]:(List Int)),(((0:Int),(([]:(List Int)),())),(([]:(List Int)),())))))))))))]:List Z165))))).bind fun y2=> (C_sub_candidates_1 ((8:Int),((12:Int),(y2.1,y2.2)))).bind fun y3=> some (x.2,(y3.1,(y3.2,())))) else some (x.2,(x.1,(([((0:Int),((0:Int),((0:Int),((0:Int),((0:Int),(([]:(List Int)),(List.replicate 3 (0:Int),(([]:Z5),(([]:(List Int)),(((0:Int),(([]:(List Int)),())),(([]:(List Int)),()))))))))))),((1:Int),((0:Int),((0:Int),((0:Int),((0:Int),(([]:(List Int)),(List.replicate 3 (0:Int),(([]:Z5),(([]:(List Int)),(((0:Int),(([]:(List Int)),())),(([]:(List Int)),()))))))))))),((2:Int),((0:Int),(y1,((0:Int),((0:Int),(([]:(List Int)),(List.replicate 3 (0:Int),(([]:Z5),(([]:(List Int)),(((0:Int),(([]:(List Int)),())),(([]:(List Int)),())))))))))))]:List Z165),())))).bind fun z4=> (show Option Z184 from bif decide (z4.1≥(2:Int)) then (bif lim ((List.length z4.2.2.1)+1) then (bif lim ((List.length (List.append z4.2.2.1 ([((5:Int),((0:Int),((0:Int),((0:Int),((0:Int),(([]:(List Int)),(List.replicate 3 (0:Int),(([((16:Int),((4:Int),()))]:List (Int×(Int×Unit))),(([]:(List Int)),(((0:Int),(([]:(List Int)),())),(([]:(List Int)),())))))))))))]:List Z165)))+1) then ((C_sub_lagged z4.2.1).bind fun y5=> bif y5.2 then (bif lim ((List.length (List.append (List.append z4.2.2.1 ([((5:Int),((0:Int),((0:Int),((0:Int),((0:Int),(([]:(List Int)),(List.replicate 3 (0:Int),(([((16:Int),((4:Int),()))]:List (Int×(Int×Unit))),(([]:(List Int)),(((0:Int),(([]:(List Int)),())),(([]:(List Int)),())))))))))))]:List Z165)) ([((5:Int),((0:Int),((0:Int),((0:Int),((0:Int),(([]:(List Int)),(List.replicate 3 (0:Int),(([((32:Int),((3:Int),())),((16:Int),((5:Int),()))]:List (Int×(Int×Unit))),(([]:(List Int)),(((0:Int),(([]:(List Int)),())),(([]:(List Int)),())))))))))))]:List Z165)))+1) then some (z4.1,(List.append (List.append (List.append z4.2.2.1 ([((5:Int),((0:Int),((0:Int),((0:Int),((0:Int),(([]:(List Int)),(List.replicate 3 (0:Int),(([((16:Int),((4:Int),()))]:List (Int×(Int×Unit))),(([]:(List Int)),(((0:Int),(([]:(List Int)),())),(([]:(List Int)),())))))))))))]:List Z165)) ([((5:Int),((0:Int),((0:Int),((0:Int),((0:Int),(([]:(List Int)),(List.replicate 3 (0:Int),(([((32:Int),((3:Int),())),((16:Int),((5:Int),()))]:List (Int×(Int×Unit))),(([]:(List Int)),(((0:Int),(([]:(List Int)),())),(([]:(List Int)),())))))))))))]:List Z165)) ([y5.1]:List Z165),(z4.2.1,()))) else none) else some (z4.1,(List.append (List.append z4.2.2.1 ([((5:Int),((0:Int),((0:Int),((0:Int),((0:Int),(([]:(List Int)),(List.replicate 3 (0:Int),(([((16:Int),((4:Int),()))]:List (Int×(Int×Unit))),(([]:(List Int)),(((0:Int),(([]:(List Int)),())),(([]:(List Int)),())))))))))))]:List Z165)) ([((5:Int),((0:Int),((0:Int),((0:Int),((0:Int),(([]:(List Int)),(List.replicate 3 (0:Int),(([((32:Int),((3:Int),())),((16:Int),((5:Int),()))]:List (Int×(Int×Unit))),(([]:(List Int)),(((0:Int),(([]:(List Int)),())),(([]:(List Int)),())))))))))))]:List Z165),(z4.2.1,())))) else none) else none) else some (z4.1,(z4.2.2.1,(z4.2.1,())))).bind fun z6=> (show Option Z171 from bif decide (z6.1≥(3:Int)) then ((iterN C_sub_candidates_l0 400 ((0:Int),(z6.2.1,(z6.2.2.1,())))).bind fun w7=> (C_sub_candidates_1 ((1:Int),((12:Int),(w7.2.1,w7.1)))).bind fun y8=> (C_sub_candidates_1 ((2:Int),((12:Int),(y8.1,y8.2)))).bind fun y9=> (C_sub_candidates_1 ((12:Int),((14:Int),(y9.1,y9.2)))).bind fun y10=> (C_sub_candidates_1 ((16:Int),((14:Int),(y10.1,y10.2)))).bind fun y11=> some (y11.2,())) else some (z6.2.1,())).bind fun z12=> some z12.1
theorem le_sub_candidates (x):Le (C_sub_candidates x) (F_sub_candidates x):=by
 unfold C_sub_candidates F_sub_candidates
 try dsimp only
 repeat' (first|exact Lr _|exact le_fixed_Best _|exact le_sub_candidates_1 _|exact le_sub_lagged _|exact Li le_sub_candidates_l0|apply Lf|refine Lb ?_ fun _=>?_|(rename_i w;cases w)|(rename_i w _;cases w))
def C_sub_Best_l0 (st:Z207):Option (Z207 ⊕ Z198):= bif decide (st.2.2.2.2.2.1<st.2.2.2.2.1) then ((gidx st.2.2.2.1 st.2.2.2.2.2.1).bind fun x6=> (C_sub_Make (x6.1,(st.1,x6))).bind fun y7=> bif y7.2 != (0:Int) then some (.inl (st.1,(st.2.1,(st.2.2.1,(st.2.2.2.1,(st.2.2.2.2.1,(IntKind.wrap .i64 (st.2.2.2.2.2.1+(1:Int)),(st.2.2.2.2.2.2.1,(st.2.2.2.2.2.2.2.1,()))))))))) else ((C_sub_Cost (y7.1,((List.length st.1:Nat):Int))).bind fun y8=> (show Option ((List Int)×(Int×(Bool×(Int×(Z166×(Int×(Int×(Bool×Z203)))))))) from bif !st.2.2.1 then some (st.1,(st.2.1,(st.2.2.1,(y8,(st.2.2.2.1,(st.2.2.2.2.1,(st.2.2.2.2.2.1,(true,(st.2.2.2.2.2.2.1,(st.2.2.2.2.2.2.2.1,(y7.1,()))))))))))) else some (st.1,(st.2.1,(st.2.2.1,(y8,(st.2.2.2.1,(st.2.2.2.2.1,(st.2.2.2.2.2.1,(decide (y8<st.2.1),(st.2.2.2.2.2.2.1,(st.2.2.2.2.2.2.2.1,(y7.1,())))))))))))).bind fun z9=> bif z9.2.2.2.2.2.2.2.1 then some (.inl (z9.1,(z9.2.2.2.1,(true,(z9.2.2.2.2.1,(z9.2.2.2.2.2.1,(IntKind.wrap .i64 (z9.2.2.2.2.2.2.1+(1:Int)),(z9.2.2.2.2.2.2.2.2.1,(z9.2.2.2.2.2.2.2.2.2.2.1,()))))))))) else some (.inl (z9.1,(z9.2.1,(z9.2.2.1,(z9.2.2.2.2.1,(z9.2.2.2.2.2.1,(IntKind.wrap .i64 (z9.2.2.2.2.2.2.1+(1:Int)),(z9.2.2.2.2.2.2.2.2.1,(z9.2.2.2.2.2.2.2.2.2.1,()))))))))))) else some (.inr (st.2.2.2.2.2.2.1,(st.2.2.2.2.2.2.2.1,())))
theorem le_sub_Best_l0 (st):Le (C_sub_Best_l0 st) (F_sub_Best_l0 st):=by
 unfold C_sub_Best_l0 F_sub_Best_l0
 try dsimp only
 repeat' (first|exact Lr _|exact le_sub_Make _|exact le_sub_Cost _|apply Lf|refine Lb ?_ fun _=>?_|(rename_i w;cases w)|(rename_i w _;cases w))
def C_sub_Best (x:((List Int)×Int)):Option Z167:= (show Option ((List Int)×Z178) from bif decide (((List.length x.1:Nat):Int)<(1:Int)) then some (x.1,(x.2,(true,(((0:Int),((0:Int),((0:Int),((0:Int),((0:Int),(([]:(List Int)),(List.replicate 3 (0:Int),(([]:Z5),(([]:(List Int)),(((0:Int),(([]:(List Int)),())),(([]:(List Int)),()))))))))))),())))) else (bif decide (((List.length x.1:Nat):Int) > (4096:Int)) then some (x.1,(x.2,(true,(((0:Int),((0:Int),((0:Int),((0:Int),((0:Int),(([]:(List Int)),(List.replicate 3 (0:Int),(([]:Z5),(([]:(List Int)),(((0:Int),(([]:(List Int)),())),(([]:(List Int)),()))))))))))),())))) else (bif decide (x.2<(0:Int)) then some (x.1,(x.2,(true,(((0:Int),((0:Int),((0:Int),((0:Int),((0:Int),(([]:(List Int)),(List.replicate 3 (0:Int),(([]:Z5),(([]:(List Int)),(((0:Int),(([]:(List Int)),())),(([]:(List Int)),()))))))))))),())))) else some (x.1,(x.2,(decide (x.2 > (3:Int)),(((0:Int),((0:Int),((0:Int),((0:Int),((0:Int),(([]:(List Int)),(List.replicate 3 (0:Int),(([]:Z5),(([]:(List Int)),(((0:Int),(([]:(List Int)),())),(([]:(List Int)),()))))))))))),()))))))).bind fun z1=> bif z1.2.2.1 then some (((0:Int),((0:Int),((0:Int),((0:Int),((0:Int),(([]:(List Int)),(List.replicate 3 (0:Int),(([]:Z5),(([]:(List Int)),(((0:Int),(([]:(List Int)),())),(([]:(List Int)),()))))))))))),(1:Int)) else ((C_sub_allWide z1.1).bind fun y2=> bif !y2 then some (((0:Int),((0:Int),((0:Int),((0:Int),((0:Int),(([]:(List Int)),(List.replicate 3 (0:Int),(([]:Z5),(([]:(List Int)),(((0:Int),(([]:(List Int)),())),(([]:(List Int)),()))))))))))),(6:Int)) else ((C_sample_Wasted z1.1).bind fun y3=> (C_sample_Down (z1.1,y3)).bind fun y4=> bif y4.2 != (0:Int) then some (((0:Int),((0:Int),((0:Int),((0:Int),((0:Int),(([]:(List Int)),(List.replicate 3 (0:Int),(([]:Z5),(([]:(List Int)),(((0:Int),(([]:(List Int)),())),(([]:(List Int)),()))))))))))),y4.2) else ((C_sub_candidates (y4.1,z1.2.1)).bind fun y5=> (iterN C_sub_Best_l0 400 (z1.1,((0:Int),(false,(y5,(((List.length y5:Nat):Int),((0:Int),(z1.2.2.2.1,(((0:Int),((0:Int),((0:Int),((0:Int),((0:Int),(([]:(List Int)),(List.replicate 3 (0:Int),(([]:Z5),(([]:(List Int)),(((0:Int),(([]:(List Int)),())),(([]:(List Int)),()))))))))))),()))))))))).bind fun w10=> some (w10.2.1,(0:Int)))))
theorem le_sub_Best (x):Le (C_sub_Best x) (F_sub_Best x):=by
 unfold C_sub_Best F_sub_Best
 try dsimp only
 repeat' (first|exact Lr _|exact le_sub_allWide _|exact le_sample_Wasted _|exact le_sample_Down _|exact le_sub_candidates _|exact Li le_sub_Best_l0|apply Lf|refine Lb ?_ fun _=>?_|(rename_i w;cases w)|(rename_i w _;cases w))
def C_l15_known (x:Unit):Option Bool:= (C_sub_Make ((2:Int),(([(4:Int),(8:Int),(12:Int),(16:Int)]:List Int),((0:Int),((0:Int),((1:Int),((0:Int),((0:Int),(([]:(List Int)),(List.replicate 3 (0:Int),(([]:Z5),(([]:(List Int)),(((0:Int),(([]:(List Int)),())),(([]:(List Int)),())))))))))))))).bind fun y1=> (C_sub_Row (y1.1,(4:Int))).bind fun y2=> (C_sub_Best (([(6:Int),(6:Int),(6:Int)]:List Int),(0:Int))).bind fun y3=> bif y1.2==(0:Int) then (bif y2.2==(0:Int) then (bif y3.2==(0:Int) then (bif y1.1.2.1==(2:Int) then ((C_r2_SameInts (y1.1.2.2.2.2.2.2.2.2.1,([(1:Int)]:List Int))).bind fun y4=> bif y4 then ((C_r2_SameInts (y1.1.2.2.2.2.2.2.2.2.2.2.1,([(1:Int),(1:Int),(1:Int)]:List Int))).bind fun y5=> bif y5 then ((C_r2_SameInts (y2.1,([(4:Int),(8:Int),(12:Int),(16:Int)]:List Int))).bind fun y6=> bif y6 then (bif y3.1.1==(0:Int) then ((C_r2_SameInts (y3.1.2.2.2.2.2.2.2.2.1,([(6:Int)]:List Int))).bind fun y7=> bif y7 then ((C_sub_Cost (y3.1,(3:Int))).bind fun y8=> some (y8==(17:Int))) else some false) else some false) else some false) else some false) else some false) else some false) else some false) else some false) else some false
theorem le_l15_known (x):Le (C_l15_known x) (F_l15_known x):=by
 unfold C_l15_known F_l15_known
 refine Lb (le_sub_Make _) fun y1=>Lb (le_sub_Row _) fun y2=>Lb (le_sub_Best _) fun y3=>?_
 refine Lf (Lf (Lf (Lf ?_ (Lr _)) (Lr _)) (Lr _)) (Lr _)
 refine Lb (le_r2_SameInts _) fun y4=>Lf ?_ (Lr _)
 refine Lb (le_r2_SameInts _) fun y5=>Lf ?_ (Lr _)
 refine Lb (le_r2_SameInts _) fun y6=>Lf (Lf ?_ (Lr _)) (Lr _)
 refine Lb (le_r2_SameInts _) fun y7=>Lf ?_ (Lr _)
 exact Lb (le_sub_Cost _) fun _=>Lr _
set_option maxRecDepth 100000 in
theorem known_C:C_l15_known ()=some true:=by kernel_rfl
theorem known_true:F_l15_known ()=some true:=le_l15_known () true known_C
end Go.Ab
namespace Go.Ab
end Go.Ab
namespace Go.Ab
end Go.Ab
namespace Go.Ab
def dif:List Int→List Int
 |a::b::r=>W (b-a)::dif (b::r)
 |_=>[]
theorem dif_length:∀ l:List Int,(dif l).length=l.length-1
 | []=>rfl
 | [_]=>rfl
 |a::b::r=>by simp [dif,dif_length (b::r)]
theorem dif_get:∀ (l:List Int) (i:Nat) (x y:Int),l[i]?=some x→l[i+1]?=some y→(dif l)[i]?=some (W (y-x))
 |a::b::r,0,x,y,h1,h2=>by simp at h1 h2;subst h1;subst h2;rfl
 |a::b::r,i+1,x,y,h1,h2=>by
  simp only [dif,List.getElem?_cons_succ] at h1 h2 ⊢
  exact dif_get (b::r) i x y h1 h2
 | [_],0,x,y,h1,h2=>by simp at h2
 | [_],i+1,x,y,h1,h2=>by simp at h1
 | [],i,x,y,h1,h2=>by simp at h1
def difN:Nat→List Int→List Int
 |0,l=>l
 |o+1,l=>dif (difN o l)
theorem difN_length (l:List Int):∀ o,(difN o l).length=l.length-o
 |0=>rfl
 |o+1=>by simp only [difN,dif_length,difN_length l o];omega
theorem difN_short {l:List Int} (h:short l) (o:Nat):short (difN o l):=by
 have h:l.length<1000000:=h
 show (difN o l).length<1000000
 rw [difN_length];omega
def mixD (l:List Int) (i:Nat):List Int:=(dif l).take i++l.drop i
theorem mixD_length {l:List Int} {i:Nat} (h:i≤l.length-1):(mixD l i).length=l.length:=by
 simp only [mixD,List.length_append,List.length_take,List.length_drop,dif_length];omega
theorem mixD_getD {l:List Int} {i j:Nat} (h:i≤l.length-1) (hj:i≤j):(mixD l i).getD j 0=l.getD j 0:=by
 have e:((dif l).take i).length=i:=by rw [List.length_take,dif_length];omega
 rw [List.getD_eq_getElem?_getD,List.getD_eq_getElem?_getD,mixD,List.getElem?_append_right (by omega),e,List.getElem?_drop]
 congr 2
 omega
theorem mixD_set {l:List Int} {i:Nat} (h:i<l.length-1):(mixD l i).set i (W (l.getD (i+1) 0-l.getD i 0))=mixD l (i+1):=by
 have e:((dif l).take i).length=i:=by rw [List.length_take,dif_length];omega
 have h1:l[i]?=some l[i]:=List.getElem?_eq_getElem (by omega)
 have h2:l[i+1]?=some l[i+1]:=List.getElem?_eq_getElem (by omega)
 have hd:=dif_get l i _ _ h1 h2
 have hlt:i<(dif l).length:=by rw [dif_length];omega
 simp only [mixD]
 rw [List.set_append,if_neg (by omega),e,Nat.sub_self,List.drop_eq_getElem_cons (show i<l.length by omega),List.set_cons_zero,List.take_succ_eq_append_getElem hlt,List.append_assoc]
 have e2:(dif l)[i]=W (l.getD (i+1) 0-l.getD i 0):=by
  rw [List.getElem?_eq_getElem hlt] at hd
  rw [Option.some.inj hd,List.getD_eq_getElem?_getD,List.getD_eq_getElem?_getD,h1,h2]
  rfl
 rw [e2]
 rfl
theorem rest_inner {l:List Int} {o k:Int} (hs:short l) (h:1≤l.length):iter F_fixed_Rest_l0 ((0:Int),(o,(k,(l,()))))=some (o,(k,(mixD l (l.length-1),()))):=by
 have hs:l.length<1000000:=hs
 have h0:mixD l 0=l:=by simp [mixD]
 have:=iter_count (f:=F_fixed_Rest_l0) (fun i:Nat=>((i:Int),(o,(k,(mixD l i,()))))) (l.length-1) (b:=(o,(k,(mixD l (l.length-1),()))))
  (fun i hi=>by
   have w1:IntKind.wrap .i64 ((i:Int)+1)=((i+1:Nat):Int):=wrap_succ (by omega)
   have hl:=mixD_length (l:=l) (i:=i) (by omega)
   have d0:decide (((i+1:Nat):Int)<((l.length:Nat):Int))=true:=by simp;omega
   have d1:decide ((0:Int)≤((i+1:Nat):Int))=true:=by simp;omega
   have d2:decide ((0:Int)≤(i:Int))=true:=by simp
   have d3:decide ((i:Int)<((l.length:Nat):Int))=true:=by simp;omega
   have n1:Int.toNat ((i+1:Nat):Int)=i+1:=by omega
   have n2:Int.toNat (i:Int)=i:=by omega
   have st:=mixD_set (l:=l) (i:=i) (by omega)
   have g1:=mixD_getD (l:=l) (i:=i) (j:=i+1) (by omega) (by omega)
   have g2:=mixD_getD (l:=l) (i:=i) (j:=i) (by omega) (by omega)
   simp only [W] at st
   simp only [F_fixed_Rest_l0,w1,hl,d0,d1,d2,d3,n1,n2,g1,g2,st,Bool.and_self,cond_true])
  (by
   have hl:=mixD_length (l:=l) (i:=l.length-1) (by omega)
   have w1:IntKind.wrap .i64 (((l.length-1:Nat):Int)+1)=((l.length:Nat):Int):=by rw [wrap64 (by omega)];omega
   have d0:decide (((l.length:Nat):Int)<((l.length:Nat):Int))=false:=by simp
   simp only [F_fixed_Rest_l0,w1,hl,d0,cond_false])
 simp only [Int.natCast_zero,Int.cast_ofNat_Int,h0] at this
 exact this
theorem mixD_take {l:List Int}:(mixD l (l.length-1)).take (l.length-1)=dif l:=by
 have e:(dif l).take (l.length-1)=dif l:=List.take_of_length_le (by rw [dif_length];omega)
 rw [mixD,e,List.take_append_of_le_length (by rw [dif_length];omega),e]
theorem fixed_Rest_eq {l:List Int} {o:Nat} (ho:o≤4) (hn:o≤l.length) (hs:short l) (hw:l.all wideB=true):
  F_fixed_Rest (l,(o:Int))=some (bif (difN o l).all wideB then (difN o l,0) else ([],6)):=by
 have hs':l.length<1000000:=hs
 have loop:=iter_count (f:=F_fixed_Rest_l1) (fun k:Nat=>((o:Int),((k:Int),(difN k l,())))) o (b:=(difN o l,()))
  (fun k hk=>by
   have hk1:1≤(difN k l).length:=by rw [difN_length];omega
   have hks:(difN k l).length<1000000:=difN_short hs k
   have d0:decide ((k:Int)<(o:Int))=true:=by simp;omega
   have hm:=mixD_length (l:=difN k l) (i:=(difN k l).length-1) (by omega)
   have w1:IntKind.wrap .i64 ((((difN k l).length:Nat):Int)-1)=(((difN k l).length-1:Nat):Int):=by rw [wrap64 (by omega)];omega
   have w2:IntKind.wrap .i64 ((k:Int)+1)=((k+1:Nat):Int):=wrap_succ (by omega)
   have d1:decide ((0:Int)≤(((difN k l).length-1:Nat):Int))=true:=by simp
   have d2:decide ((((difN k l).length-1:Nat):Int)≤(((difN k l).length:Nat):Int))=true:=by simp
   have d3:decide ((difN k l).length-1≤(difN k l).length)=true:=by simp
   have n1:Int.toNat (((difN k l).length-1:Nat):Int)=(difN k l).length-1:=by omega
   simp only [F_fixed_Rest_l1,d0,cond_true,rest_inner (difN_short hs k) hk1,Option.bind_some,hm,w1,w2,d1,d2,d3,n1,Bool.and_self,mixD_take,difN])
  (by
   have d0:decide ((o:Int)<(o:Int))=false:=by simp
   simp only [F_fixed_Rest_l1,d0,cond_false])
 have c1:decide ((o:Int)<0)=false:=by simp
 have c2:decide ((o:Int) > 4)=false:=by simp;omega
 have c3:decide (((l.length:Nat):Int)<(o:Int))=false:=by simp;omega
 have c4:lim l.length=true:=lim_of (by omega)
 simp only [Int.natCast_zero,Int.cast_ofNat_Int] at loop
 have e0:difN 0 l=l:=rfl
 rw [e0] at loop
 unfold F_fixed_Rest
 simp only [c1,c2,c3,c4,cond_false,cond_true,Option.bind_some,fixed_wide_eq hs,hw,Bool.not_true,loop,fixed_wide_eq (difN_short hs o)]
 cases (difN o l).all wideB<;>rfl
def ex:Nat→(Nat→Int)→Nat→Int
 |0,f,i=>f i
 |o+1,f,i=>ex o f (i+1)-ex o f i
theorem difN_get {l:List Int} (hw:l.all wideB=true):∀ (o i:Nat),i+o<l.length→(difN o l)[i]?=some (W (ex o (fun j=>l.getD j 0) i))
 |0,i,h=>by
  have h:i<l.length:=by omega
  have e:l.getD i 0=l[i]:=by simp [List.getD_eq_getElem?_getD,h]
  simp only [difN,ex,e]
  rw [List.getElem?_eq_getElem h,W_of_wide (List.all_eq_true.1 hw _ (List.getElem_mem h))]
 |o+1,i,h=>by
  have h1:=difN_get hw o i (by omega)
  have h2:=difN_get hw o (i+1) (by omega)
  simp only [difN,ex]
  rw [dif_get _ i _ _ h1 h2]
  simp only [W,wrap_bmod,Int.sub_bmod_bmod,Int.bmod_sub_bmod]
theorem back_step {l:List Int} (hw:l.all wideB=true) {o j:Nat} (ho:o≤4) (h:o+j<l.length):W (W (ex o (fun j=>l.getD j 0) j)+fixG o (l.take (o+j)))=l.getD (o+j) 0:=by
 have hwide:wideB (l.getD (o+j) 0)=true:=by
  have e:l.getD (o+j) 0=l[o+j]:=by simp [List.getD_eq_getElem?_getD,h]
  rw [e]
  exact List.all_eq_true.1 hw _ (List.getElem_mem h)
 have at_eq:∀ i:Nat,1≤i→i≤o→atB (l.take (o+j)) i=l.getD (o+j-i) 0:=fun i h1 h2=>by
  simp only [atB,List.length_take,Nat.min_eq_left (Nat.le_of_lt h),List.getD_eq_getElem?_getD,List.getElem?_take]
  rw [if_pos (by omega)]
 have key:ex o (fun j=>l.getD j 0) j+fixG o (l.take (o+j))=l.getD (o+j) 0:=by
  have h5:o=0∨o=1∨o=2∨o=3∨o=4:=by omega
  rcases h5 with rfl|rfl|rfl|rfl|rfl
  ·simp [ex,fixG]
  ·simp only [ex,fixG,at_eq 1 (by omega) (by omega)]
   have e1:1+j-1=j:=by omega
   have e2:j+1=1+j:=by omega
   rw [e1,e2];omega
  ·simp only [ex,fixG,at_eq 1 (by omega) (by omega),at_eq 2 (by omega) (by omega)]
   have e1:2+j-1=j+1:=by omega
   have e2:2+j-2=j:=by omega
   have e3:j+1+1=2+j:=by omega
   rw [e1,e2,e3];omega
  ·simp only [ex,fixG,at_eq 1 (by omega) (by omega),at_eq 2 (by omega) (by omega),at_eq 3 (by omega) (by omega)]
   have e1:3+j-1=j+1+1:=by omega
   have e2:3+j-2=j+1:=by omega
   have e3:3+j-3=j:=by omega
   have e4:j+1+1+1=3+j:=by omega
   rw [e1,e2,e3,e4];omega
  ·simp only [ex,fixG,at_eq 1 (by omega) (by omega),at_eq 2 (by omega) (by omega),at_eq 3 (by omega) (by omega),at_eq 4 (by omega) (by omega)]
   have e1:4+j-1=j+1+1+1:=by omega
   have e2:4+j-2=j+1+1:=by omega
   have e3:4+j-3=j+1:=by omega
   have e4:4+j-4=j:=by omega
   have e5:j+1+1+1+1=4+j:=by omega
   rw [e1,e2,e3,e4,e5];omega
 have:W (W (ex o (fun j=>l.getD j 0) j)+fixG o (l.take (o+j)))=W (ex o (fun j=>l.getD j 0) j+fixG o (l.take (o+j))):=by
  simp only [W,wrap_bmod,Int.bmod_add_bmod]
 rw [this,key,W_of_wide hwide]
theorem back_dif {l:List Int} (hw:l.all wideB=true) {o:Nat} (ho:o≤4):∀ (k j:Nat),o+j+k=l.length→backO (fixG o) ((difN o l).drop j) (l.take (o+j))=some l
 |0,j,h=>by
  rw [List.drop_of_length_le (by rw [difN_length];omega),List.take_of_length_le (by omega)]
  rfl
 |k+1,j,h=>by
  have hlt:j<(difN o l).length:=by rw [difN_length];omega
  have hg:=difN_get hw o j (by omega)
  rw [List.getElem?_eq_getElem hlt] at hg
  have e:=Option.some.inj hg
  have e2:l.getD (o+j) 0=l[o+j]:=by simp [List.getD_eq_getElem?_getD,show o+j<l.length by omega]
  have st:=back_step hw ho (show o+j<l.length by omega)
  rw [e2] at st
  rw [List.drop_eq_getElem_cons hlt,e]
  simp only [backO,st,List.all_eq_true.1 hw _ (List.getElem_mem (show o+j<l.length by omega)),cond_true]
  have et:l.take (o+j)++[l[o+j]]=l.take (o+(j+1)):=by
   rw [show o+(j+1)=(o+j)+1 by omega]
   simp
  rw [et]
  exact back_dif hw ho k (j+1) (by omega)
end Go.Ab
namespace Go.Ab
theorem iter_ex {σ β:Type} {f:σ→Option (σ ⊕ β)} (I:Nat→σ→Prop) (Q:β→Prop) (n:Nat) (hstep:∀ i s,i<n→I i s→∃ s',f s=some (.inl s')∧I (i+1) s')
  (hexit:∀ s,I n s→∃ b,f s=some (.inr b)∧Q b):∀ (k i:Nat) (s:σ),i+k=n→I i s→∃ b,iter f s=some b∧Q b
 |0,i,s,h,hi=>by
  obtain rfl:i=n:=by omega
  obtain ⟨b,h1,h2⟩:=hexit s hi
  exact ⟨b,iter_done h1,h2⟩
 |k+1,i,s,h,hi=>by
  obtain ⟨s',h1,h2⟩:=hstep i s (by omega) hi
  rw [iter_step h1]
  exact iter_ex I Q n hstep hexit k (i+1) s' (by omega) h2
theorem glob0_get:∀ i:Nat,i<64→∃ v:Int,glob0[i]?=some v∧0≤v∧v≤63:=by
 have h:∀ i:Fin 64,∃ v:Int,glob0[i.val]?=some v∧0≤v∧v≤63:=by
  intro i
  have hl:glob0.length=64:=rfl
  have hall:glob0.all (fun v=>decide (0≤v)&&decide (v≤63))=true:=by decide
  have hi:i.val<glob0.length:=by rw [hl];exact i.isLt
  refine ⟨glob0[i.val],List.getElem?_eq_getElem hi,?_⟩
  have:=List.all_eq_true.1 hall _ (List.getElem_mem hi)
  simpa using this
 exact fun i hi=>h ⟨i,hi⟩
theorem wrapu_range (y:Int):0≤IntKind.wrap .u64 y∧IntKind.wrap .u64 y<18446744073709551616:=by
 simp only [IntKind.wrap,IntKind.bits,IntKind.signed]
 simp
 omega
theorem trail_tab {N:Nat} (h:N<18446744073709551616):∃ v,(gidx glob0 (gshr .u64 (N:Int) ((58:Nat):Int))).bind (fun x1=>some (IntKind.wrap .i64 x1))=some v∧0≤v∧v≤64:=by
 have hlt:N / 2^58<64:=by omega
 rw [gshru_nat (N:=N) (o:=58) (by omega)]
 generalize N / 2^58=M at hlt
 obtain ⟨v,hv,v0,v1⟩:=glob0_get _ hlt
 obtain ⟨hi,hg⟩:=List.getElem?_eq_some_iff.1 hv
 refine ⟨v,?_,v0,by omega⟩
 rw [gidx_get hi,hg]
 simp only [Option.bind_some,wrap64 (show -9223372036854775808≤v∧v≤9223372036854775807 by omega)]
theorem trail_some (x:Int):∃ v,F_math_bits_TrailingZeros64 x=some v∧0≤v∧v≤64:=by
 unfold F_math_bits_TrailingZeros64
 generalize IntKind.wrap .u64 (0-x)=a
 generalize bits .u64 .and x a=b
 obtain ⟨h1,h2⟩:=wrapu_range (b*285870213051353865)
 generalize IntKind.wrap .u64 (b*285870213051353865)=y at h1 h2
 obtain ⟨N,rfl⟩:=Int.eq_ofNat_of_zero_le h1
 obtain ⟨v,hv,hv0,hv1⟩:=trail_tab (N:=N) (by omega)
 have e58:((58:Nat):Int)=58:=rfl
 rw [e58] at hv
 by_cases hx:(x==0)=true
 ·exact ⟨64,by rw [hx,cond_true],by omega,by omega⟩
 ·have hx:(x==0)=false:=by simpa using hx
  exact ⟨v,by rw [hx,cond_false];exact hv,hv0,hv1⟩
theorem sample_Wasted_some {l:List Int} (hs:short l):∃ w:Nat,F_sample_Wasted l=some (w:Int)∧w≤30:=by
 have hs:l.length<1000000:=hs
 obtain ⟨b,h1,-⟩:=iter_ex (f:=F_sample_Wasted_l0) (fun i s=>∃ a:Int,s=(a,(l,((l.length:Int),((i:Int),()))))) (fun _=>True) l.length
  (fun i s hi h=>by
   obtain ⟨a,rfl⟩:=h
   exact ⟨_,by simp only [F_sample_Wasted_l0,dlt hi,cond_true,gidx_get hi,Option.bind_some,wrap_succ (show i<1000000 by omega)];rfl,_,rfl⟩)
  (fun s h=>by
   obtain ⟨a,rfl⟩:=h
   exact ⟨_,by simp only [F_sample_Wasted_l0,dge,cond_false];rfl,trivial⟩) l.length 0 (0,(l,((l.length:Int),(0,())))) (by omega) ⟨0,rfl⟩
 unfold F_sample_Wasted
 simp only [h1,Option.bind_some]
 cases (b.1==0) with
 |true=>exact ⟨0,rfl,by omega⟩
 |false=>
  obtain ⟨v,hv,v0,v1⟩:=trail_some (IntKind.wrap .u64 b.1)
  simp only [cond_false,hv,Option.bind_some]
  refine ⟨(imin v 30).toNat,?_,?_⟩ <;>
  ·unfold imin
   by_cases h:30<v
   ·simp [h]
   ·simp [h];omega
def downB (n:Int) (x:Int):Bool:=wideB x&&!(Int.tmod x (gshl .i64 1 n) != 0)
def downStep {β:Type} (n:Int) (bad:β) (out:List Int) (x:Int):List Int ⊕ β:=bif downB n x then .inl (out++[gshr .i64 x n]) else .inr bad
def downO (n:Int) (l:List Int):Option (List Int):=bif l.all (downB n) then some (l.map fun x=>gshr .i64 x n) else none
theorem endE_downStep {β:Type} (n:Int) (bad:β) (fin:List Int→β):∀ (l out:List Int),endE fin (foldE (downStep n bad) l out)=match downO n l with|some r=>fin (out++r)|none=>bad
 | [],out=>by simp [foldE,endE,downO]
 |x::l,out=>by
  simp only [foldE,downStep,downO,List.all_cons]
  cases hx:downB n x with
  |true=>
   simp only [cond_true,Bool.true_and]
   rw [endE_downStep n bad fin l _]
   simp only [downO]
   cases l.all (downB n) with
   |true=>simp
   |false=>rfl
  |false=>rfl
theorem shl1 {o:Nat} (h:o≤30):gshl .i64 1 (o:Int)=((2^o:Nat):Int):=by
 have h2:2^o≤2^30:=Nat.pow_le_pow_right (by omega) h
 have:=gshl_nat (N:=1) (o:=o) (by omega) (by omega)
 simpa using this
theorem sample_Down_eq {l:List Int} {o:Nat} (h1:o≤30) (hr:l.length<100000):F_sample_Down (l,(o:Int))=some (resB (downO (o:Int) l)):=by
 have hsr:short l:=by unfold short;omega
 have g1:¬ (o:Int)<0:=by omega
 have g2:¬ (o:Int) > 30:=by omega
 have g3:(gshl .i64 (1:Int) (o:Int)==0)=false:=by
  rw [shl1 h1]
  have:0<2^o:=Nat.two_pow_pos o
  simp only [beq_eq_false_iff_ne,ne_eq]
  omega
 unfold F_sample_Down
 simp only [g1,g2,decide_false,cond_false,Option.bind_some]
 have:=iter_list (f:=F_sample_Down_l0) l (fun i out=>((o:Int),(l,((l.length:Int),((i:Int),(out,())))))) (downStep (o:Int) (Sum.inr ((6:Int),(([]:List Int),()))))
  (fun i out=>out.length=i) (fun out=>Sum.inl (out,()))
  (fun i h out hI=>by
   have hlt:i<1000000:=by omega
   simp only [F_sample_Down_l0,dlt h,cond_true,gidx_get h,Option.bind_some,sample_wide_eq,downStep,downB,g1,g3,decide_false,cond_false]
   cases hb:wideB l[i] with
   |true=>
    cases hb2:(Int.tmod l[i] (gshl .i64 1 (o:Int)) != 0) with
    |false=>
     simp only [cond_true,Bool.not_true,cond_false,Option.bind_some,g1,decide_false,lim_short (show out.length+1<1000000 by omega),wrap_succ hlt,Bool.and_self,Bool.not_false,hb2]
     refine ⟨fun a' ha=>?_,fun b hb=>(by cases hb)⟩
     simp only [Sum.inl.injEq] at ha
     subst ha
     exact ⟨rfl,by simp;omega⟩
    |true=>
     refine ⟨fun a' ha=>(by simp at ha),fun b hb=>?_⟩
     simp only [Bool.true_and,Bool.not_true,cond_false,Sum.inr.injEq] at hb
     subst hb
     simp [hb2]
   |false=>
    refine ⟨fun a' ha=>(by simp at ha),fun b hb=>?_⟩
    simp only [Bool.false_and,cond_false,Sum.inr.injEq] at hb
    subst hb
    rfl)
  (fun out _=>by simp [F_sample_Down_l0]) (a:=[]) rfl
 simp only [Int.natCast_zero,endE_downStep,List.nil_append] at this
 rw [this]
 cases downO (o:Int) l<;>rfl
theorem down_one {o:Nat} (h:o≤30) {x:Int} (hx:downB (o:Int) x=true):wideB (gshr .i64 x (o:Int))=true∧gshl .i64 (gshr .i64 x (o:Int)) (o:Int)=x∧wideB x=true:=by
 simp only [downB,shl1 h,Bool.and_eq_true,Bool.not_eq_true',bne_eq_false_iff_eq] at hx
 obtain ⟨hw,hm⟩:=hx
 obtain ⟨c,rfl⟩:=Int.dvd_of_tmod_eq_zero hm
 have hw':=wideB_iff.1 hw
 have e:min (Int.toNat (o:Int)) (IntKind.bits .i64)=o:=by simp only [Int.toNat_natCast,IntKind.bits];omega
 have hp:(0:Int)<2^o:=Int.pow_pos (by omega)
 have ep:((2^o:Nat):Int)=2^o:=by simp
 rw [ep] at hw' hw ⊢
 have e1:gshr .i64 (2^o*c) (o:Int)=c:=by
  unfold gshr
  rw [e]
  exact Int.mul_fdiv_cancel_left _ (by omega)
 rw [e1]
 refine ⟨wideB_iff.2 ?_,?_,hw⟩
 ·generalize (2:Int)^o=p at hp hw'
  have hs:p*c=(p-1)*c+c:=by rw [Int.sub_mul];omega
  by_cases hc:0≤c
  ·have:=Int.mul_nonneg (show 0≤p-1 by omega) hc
   omega
  ·have:=Int.mul_nonneg (show 0≤p-1 by omega) (show 0≤-c by omega)
   rw [Int.mul_neg] at this
   omega
 ·unfold gshl
  rw [e,Int.mul_comm]
  exact wrap64 (by omega)
theorem down_up {o:Nat} (h:o≤30) {l d:List Int} (hd:downO (o:Int) l=some d):d.all wideB=true∧d.length=l.length∧upO (o:Int) d=some l:=by
 unfold downO at hd
 cases ha:l.all (downB (o:Int)) with
 |false=>rw [ha] at hd;cases hd
 |true=>
  rw [ha] at hd
  simp only [cond_true,sj] at hd
  subst hd
  have hall:=List.all_eq_true.1 ha
  refine ⟨?_,by simp,?_⟩
  ·simp only [List.all_map]
   exact List.all_eq_true.2 fun x hx=>(down_one h (hall x hx)).1
  ·have e1:(l.map fun x=>gshr .i64 x (o:Int)).all (fun x=>wideB x&&wideB (gshl .i64 x (o:Int)))=true:=by
    simp only [List.all_map]
    refine List.all_eq_true.2 fun x hx=>?_
    obtain ⟨h1,h2,h3⟩:=down_one h (hall x hx)
    simp only [Function.comp,h1,h2,h3,Bool.and_self]
   unfold upO
   rw [e1]
   simp only [cond_true,sj,List.map_map]
   have em:l.map ((fun x=>gshl .i64 x (o:Int))∘fun x=>gshr .i64 x (o:Int))=l.map id:=List.map_congr_left (fun x hx=>(down_one h (hall x hx)).2.1)
   rw [em,List.map_id]
end Go.Ab
namespace Go.Ab
theorem rice_Best_some {l:List Int} (hw:l.all wideB=true) (hl:l.length<10000):∃ k:Nat,F_rice_Best l=some (k:Int)∧k≤25:=by
 obtain ⟨c0,hc0,-,-⟩:=rice_Sum_some (k:=0) (by omega) hw hl
 simp only [Int.natCast_zero] at hc0
 obtain ⟨b,h1,k,h2,h3⟩:=iter_ex (f:=F_rice_Best_l0) (fun i s=>∃ (k:Nat) (c:Int),s=(l,((k:Int),(c,(((i+1:Nat):Int),()))))∧k≤25) (fun b=>∃ k:Nat,b=((k:Int),())∧k≤25) 25
  (fun i s hi h=>by
   obtain ⟨k,c,rfl,hk⟩:=h
   obtain ⟨d,hd,-,-⟩:=rice_Sum_some (k:=i+1) (by omega) hw hl
   have d0:decide (((i+1:Nat):Int)≤25)=true:=decide_eq_true (by omega)
   have w1:IntKind.wrap .i64 (((i+1:Nat):Int)+1)=((i+1+1:Nat):Int):=wrap_succ (by omega)
   by_cases hlt:d<c
   ·exact ⟨_,by simp only [F_rice_Best_l0,d0,cond_true,hd,Option.bind_some,hlt,decide_true,w1],i+1,d,rfl,by omega⟩
   ·exact ⟨_,by simp only [F_rice_Best_l0,d0,cond_true,hd,Option.bind_some,hlt,decide_false,cond_false,w1],k,c,rfl,hk⟩)
  (fun s h=>by
   obtain ⟨k,c,rfl,hk⟩:=h
   have d0:decide (((25+1:Nat):Int)≤25)=false:=decide_eq_false (by omega)
   exact ⟨_,by simp only [F_rice_Best_l0,d0,cond_false],k,rfl,hk⟩) 25 0 (l,((0:Int),(c0,((1:Int),())))) (by omega) ⟨0,c0,rfl,by omega⟩
 refine ⟨k,?_,h3⟩
 unfold F_rice_Best
 simp only [hc0,Option.bind_some,h1,h2]
theorem choose_some {l:List Int} (hw:l.all wideB=true) (hl:l.length<10000):∃ k,F_parts_choose l=some k∧kB k=true:=by
 obtain ⟨k,h1,h2⟩:=rice_Best_some hw hl
 obtain ⟨c,h3,-,-⟩:=parts_raw_some hl
 obtain ⟨d,h4,-,-⟩:=rice_Sum_some h2 hw hl
 unfold F_parts_choose
 simp only [h1,h3,h4,Option.bind_some]
 cases decide (c<d) with
 |true=>exact ⟨31,rfl,rfl⟩
 |false=>exact ⟨k,rfl,by simp only [kB,Bool.or_eq_true,Bool.and_eq_true,decide_eq_true_eq];omega⟩
theorem best_inner {zn:List Nat} {l:List Int} {n warm most least order:Int} {L:List Int} {a b:Prt} (hz:zn.length≤256) (hsum:zn.sum=l.length) (hw:l.all wideB=true) (h5:l.length≤5000):
  ∃ ks:List Int,iter F_parts_Best_l0 (n,(warm,(most,(L,(least,(order,(l,(((zn.length:Nat):Int),((0:Int),(castZ zn,(a,(b,((order,(([]:List Int),())),())))))))))))))=some (n,(warm,(most,(L,(least,(order,(a,(b,((order,(ks,())),())))))))))∧ks.length=zn.length∧ks.all kB=true:=by
 obtain ⟨r,h1,ks,h2,h3⟩:=iter_ex (f:=F_parts_Best_l0)
  (fun i s=>∃ (rest ks:List Int),s=(n,(warm,(most,(L,(least,(order,(rest,(((zn.length:Nat):Int),((i:Int),(castZ zn,(a,(b,((order,(ks,())),())))))))))))))∧rest.length=(zn.drop i).sum∧rest.all wideB=true∧rest.length≤5000∧ks.length=i∧ks.all kB=true)
  (fun r=>∃ ks:List Int,r=(n,(warm,(most,(L,(least,(order,(a,(b,((order,(ks,())),())))))))))∧ks.length=zn.length∧ks.all kB=true) zn.length
  (fun i s hlt h=>by
   obtain ⟨rest,ks,rfl,hr,hwr,hr5,hki,hka⟩:=h
   rw [sum_drop hlt] at hr
   have h0:decide ((0:Int)≤(i:Int))=true:=by simp
   have h1:decide ((i:Int)<(((castZ zn).length:Nat):Int))=true:=by rw [castZ_length];simp;omega
   have h2:decide ((0:Int)≤((zn[i]:Nat):Int))=true:=by simp
   have h3:decide (((zn[i]:Nat):Int)≤((rest.length:Nat):Int))=true:=by simp;omega
   have hwp:(rest.take zn[i]).all wideB=true:=List.all_eq_true.2 fun x hx=>List.all_eq_true.1 hwr x (List.mem_of_mem_take hx)
   have hwd:(rest.drop zn[i]).all wideB=true:=List.all_eq_true.2 fun x hx=>List.all_eq_true.1 hwr x (List.mem_of_mem_drop hx)
   obtain ⟨k,hk,hkb⟩:=choose_some hwp (by rw [List.length_take];omega)
   have hlim:lim (ks.length+1)=true:=lim_short (by omega)
   exact ⟨_,by simp only [F_parts_Best_l0,dlt hlt,h0,h1,castZ_get hlt,h2,h3,cond_true,Bool.and_self,Int.toNat_natCast,hk,Option.bind_some,hlim,List.take_length,wrap_succ (show i<1000000 by omega)];rfl,
    rest.drop zn[i],ks++[k],rfl,by rw [List.length_drop];omega,hwd,by rw [List.length_drop];omega,by simp;omega,by simp [hka,hkb]⟩)
  (fun s h=>by
   obtain ⟨rest,ks,rfl,-,-,-,hki,hka⟩:=h
   exact ⟨_,by simp only [F_parts_Best_l0,dge,cond_false],ks,rfl,hki,hka⟩) zn.length 0 _ (by omega) ⟨l,[],rfl,by rw [List.drop_zero];exact hsum.symm,hw,h5,rfl,rfl⟩
 subst h2
 exact ⟨ks,h1,h3⟩
theorem sizes_zero {n warm:Int} (h:rowB n warm=true):(sizesI 0 n warm).length≠0:=by
 have h':=h
 simp only [rowB,Bool.and_eq_true,decide_eq_true_eq] at h'
 unfold sizesI sizesN
 have e:((n.toNat / 2^(0:Int).toNat:Nat):Int)=n:=by simp;omega
 have e2:n.toNat%2^(0:Int).toNat=0:=by simp;omega
 simp only [h,e,e2]
 simp [h'.2.2.2]
theorem parts_Best_some {n warm:Int} {l:List Int} (hr:rowB n warm=true) (hl:(l.length:Int)=n-warm) (hw:l.all wideB=true) (h5:l.length≤5000):
  ∃ p:Prt,F_parts_Best (n,(warm,((6:Int),l)))=some (p,0)∧partsB p n warm=true:=by
 obtain ⟨r,h1,a,p,h2,h3⟩:=iter_ex (f:=F_parts_Best_l1)
  (fun i s=>∃ (least:Int) (a b:Prt),s=(n,(warm,((6:Int),(l,(least,((i:Int),(a,(b,()))))))))∧((i=0∧least=0)∨(least≠0∧partsB b n warm=true)))
  (fun r=>∃ a b:Prt,r=(a,(b,()))∧partsB b n warm=true) 7
  (fun i s hi h=>by
   obtain ⟨least,a,b,rfl,hinv⟩:=h
   have d0:decide ((i:Int)≤imin (imax 6 0) 8)=true:=decide_eq_true (by have:imin (imax 6 0) 8=6:=rfl;omega)
   have w1:IntKind.wrap .i64 ((i:Int)+1)=((i+1:Nat):Int):=wrap_succ (by omega)
   by_cases hs:(sizesI (i:Int) n warm).length=0
   ·have hb:((((sizesI (i:Int) n warm).length:Nat):Int)==0)=true:=by rw [hs];rfl
    refine ⟨_,by simp only [F_parts_Best_l1,d0,cond_true,parts_Sizes_eq,Option.bind_some,hb,w1],least,a,b,rfl,?_⟩
    rcases hinv with ⟨rfl,-⟩|hinv
    ·exact absurd hs (sizes_zero hr)
    ·exact Or.inr hinv
   ·have hb:((((sizesI (i:Int) n warm).length:Nat):Int)==0)=false:=by simp only [beq_eq_false_iff_ne,ne_eq];omega
    obtain ⟨zn,g1,g2,g3⟩:=sizes_facts hs
    obtain ⟨ks,g4,g5,g6⟩:=best_inner (zn:=zn) (l:=l) (n:=n) (warm:=warm) (most:=6) (least:=least) (order:=(i:Int)) (L:=l) (a:=a) (b:=b) g3 (by omega) hw h5
    have hp:partsB ((i:Int),(ks,())) n warm=true:=by
     simp only [partsB,Bool.and_eq_true,Bool.not_eq_true',beq_eq_false_iff_ne,ne_eq,beq_iff_eq]
     exact ⟨hs,by rw [g1,castZ_length];exact g5.symm,g6⟩
    obtain ⟨zn',hok⟩:=PartsOk.of hp hl hw h5
    obtain ⟨c,hc,hc4⟩:=parts_Cost_some hok
    have hb':(((zn.length:Nat):Int)==0)=false:=by rw [←castZ_length zn,←g1];exact hb
    have el:(((castZ zn).length:Nat):Int)=((zn.length:Nat):Int):=by rw [castZ_length]
    by_cases hz:(least==0)=true
    ·exact ⟨_,by simp only [F_parts_Best_l1,d0,cond_true,parts_Sizes_eq,Option.bind_some,g1,hb',cond_false,el,g4,hc,hz,w1],c,a,((i:Int),(ks,())),rfl,Or.inr ⟨by omega,hp⟩⟩
    ·have hz:(least==0)=false:=by simpa using hz
     by_cases hlt:c<least
     ·exact ⟨_,by simp only [F_parts_Best_l1,d0,cond_true,parts_Sizes_eq,Option.bind_some,g1,hb',cond_false,el,g4,hc,hz,hlt,decide_true,w1],c,a,((i:Int),(ks,())),rfl,Or.inr ⟨by omega,hp⟩⟩
     ·refine ⟨_,by simp only [F_parts_Best_l1,d0,cond_true,parts_Sizes_eq,Option.bind_some,g1,hb',cond_false,el,g4,hc,hz,hlt,decide_false,w1],least,a,b,rfl,?_⟩
      rcases hinv with ⟨-,rfl⟩|hinv
      ·cases hz
      ·exact Or.inr hinv)
  (fun s h=>by
   obtain ⟨least,a,b,rfl,hinv⟩:=h
   have d0:decide (((7:Nat):Int)≤imin (imax 6 0) 8)=false:=decide_eq_false (by have:imin (imax 6 0) 8=6:=rfl;omega)
   refine ⟨_,by simp only [F_parts_Best_l1,d0,cond_false],a,b,rfl,?_⟩
   rcases hinv with ⟨h,-⟩|hinv
   ·omega
   ·exact hinv.2) 7 0 (n,(warm,((6:Int),(l,((0:Int),((0:Int),(((0:Int),(([]:List Int),())),(((0:Int),(([]:List Int),())),())))))))) (by omega) ⟨0,_,_,rfl,Or.inl ⟨rfl,rfl⟩⟩
 subst h2
 refine ⟨p,?_,h3⟩
 unfold F_parts_Best
 simp only [parts_right_eq hr hl hw h5,Option.bind_some,Bool.not_true,cond_false,h1]
end Go.Ab
namespace Go.Ab
theorem putL_len {N n:Nat} (hn:n≤63) (h:N<2^n) (L:List Int):(putL (N:Int) n L).length=L.length+n:=by
 unfold putL
 rw [gshru_nat (N:=N) (o:=n) (by omega),Nat.div_eq_of_lt h]
 simp [pb_length]
def riceC (k:Nat) (x:Int):Nat:=if foldN x / 2^k<32 then foldN x / 2^k+1+k else 65
theorem riceC_le {k:Nat} (hk:k≤25) (x:Int):riceC k x≤65:=by
 unfold riceC
 split
 ·rename_i h
  generalize foldN x / 2^k=q at h
  omega
 ·omega
theorem riceL_len {k:Nat} (hk:k≤25) {x:Int} (hw:wideB x=true) (L:List Int):(riceL k x L).length=L.length+riceC k x:=by
 unfold riceL riceC
 have hp:0<2^k:=Nat.two_pow_pos k
 have hm:foldN x%2^k<2^k:=Nat.mod_lt _ hp
 have hf:=foldN_lt hw
 split
 ·rw [putL_len (by omega) hm,unL_length];omega
 ·rw [putL_len (n:=32) (by omega) (by omega),unL_length]
theorem ricesL_len {k:Nat} (hk:k≤25):∀ (l L:List Int),l.all wideB=true→(ricesL k l L).length=L.length+(l.map (riceC k)).sum
 | [],L,_=>by simp [ricesL]
 |x::l,L,h=>by
  simp only [List.all_cons,Bool.and_eq_true] at h
  have e:ricesL k (x::l) L=ricesL k l (riceL k x L):=rfl
  rw [e,ricesL_len hk l _ h.2,riceL_len hk h.1,List.map_cons,List.sum_cons]
  omega
theorem rice_Cost_eq {k:Nat} (hk:k≤25) {x:Int} (hw:wideB x=true):F_rice_Cost ((k:Int),x)=some ((riceC k x:Nat):Int):=by
 have hy:=foldN_lt hw
 have eq:gshr .u64 ((foldN x:Nat):Int) (k:Int)=((foldN x / 2^k:Nat):Int):=gshru_nat (by omega)
 have ew:IntKind.wrap .i64 ((foldN x / 2^k:Nat):Int)=((foldN x / 2^k:Nat):Int):=wrap_nat (Nat.lt_of_le_of_lt (Nat.div_le_self _ _) hy)
 have hk0:decide ((k:Int)<0)=false:=by simp
 unfold F_rice_Cost riceC
 simp only [rice_parameter_eq hk,rice_wide_eq,hw,Option.bind_some,Bool.not_true,cond_false,rice_Fold_eq hw,hk0,eq,ew]
 generalize foldN x / 2^k=q
 by_cases hq:q<32
 ·have hd:decide ((q:Int)<32)=true:=decide_eq_true (by omega)
  simp only [hd,cond_true,if_pos hq]
  rw [wrap64 (n:=(q:Int)+1) (by omega),wrap64 (by omega)]
  rfl
 ·have hd:decide ((q:Int)<32)=false:=decide_eq_false (by omega)
  simp only [hd,cond_false,if_neg hq]
  rfl
theorem sum_le {f:Int→Nat} {M:Nat} (h:∀ x,f x≤M):∀ l:List Int,(l.map f).sum≤M*l.length
 | []=>by simp
 |x::l=>by
  have:=h x
  have:=sum_le h l
  rw [List.map_cons,List.sum_cons,List.length_cons,Nat.mul_add,Nat.mul_one];omega
theorem sum_take {f:Int→Nat} {l:List Int} {i:Nat} (h:i<l.length):((l.take (i+1)).map f).sum=((l.take i).map f).sum+f l[i]:=by
 rw [List.take_succ_eq_append_getElem h,List.map_append,List.sum_append]
 simp only [List.map_cons,List.map_nil,List.sum_cons,List.sum_nil,Nat.add_zero]
theorem rice_Sum_eq {k:Nat} (hk:k≤25) {l:List Int} (hw:l.all wideB=true) (hl:l.length<10000):F_rice_Sum ((k:Int),l)=some (((l.map (riceC k)).sum:Nat):Int):=by
 have:=iter_count (f:=F_rice_Sum_l0) (fun i:Nat=>((k:Int),(((((l.take i).map (riceC k)).sum:Nat):Int),(l,((l.length:Int),((i:Int),())))))) l.length (b:=((((l.map (riceC k)).sum:Nat):Int),()))
  (fun i hi=>by
   have hc:=rice_Cost_eq hk (List.all_eq_true.1 hw _ (List.getElem_mem hi))
   have h1:=sum_le (riceC_le hk) (l.take (i+1))
   rw [sum_take hi] at h1
   rw [List.length_take] at h1
   have e:IntKind.wrap .i64 (((((l.take i).map (riceC k)).sum:Nat):Int)+((riceC k l[i]:Nat):Int))=((((l.take (i+1)).map (riceC k)).sum:Nat):Int):=by
    rw [sum_take hi,wrap64 (by omega)];omega
   simp only [F_rice_Sum_l0,dlt hi,cond_true,gidx_get hi,Option.bind_some,hc,e,wrap_succ (show i<1000000 by omega)])
  (by simp only [F_rice_Sum_l0,dge,cond_false,List.take_length])
 unfold F_rice_Sum
 have e0:(((l.take 0).map (riceC k)).sum:Nat)=0:=rfl
 simp only [e0,Int.natCast_zero] at this
 simp only [this,Option.bind_some]
theorem mask_nat (x:Int) {n:Nat} (hn:n≤62):∃ N:Nat,maskS x n=(N:Int)∧N<2^n:=by
 obtain ⟨h1,h2⟩:=wrapu_range x
 obtain ⟨y,hy⟩:=Int.eq_ofNat_of_zero_le h1
 have hp:0<2^n:=Nat.two_pow_pos n
 refine ⟨y%2^n,?_,Nat.mod_lt _ hp⟩
 unfold maskS
 rw [hy]
 exact and_mask (by omega) hn
theorem putsL_len {n:Nat} (hn:n≤62):∀ (l L:List Int),(putsL n l L).length=L.length+n*l.length
 | [],L=>by simp [putsL]
 |x::l,L=>by
  have e:putsL n (x::l) L=putsL n l (putL (maskS x n) n L):=rfl
  obtain ⟨N,h1,h2⟩:=mask_nat x hn
  rw [e,putsL_len hn l,h1,putL_len (by omega) h2,List.length_cons,Nat.mul_add,Nat.mul_one]
  omega
theorem fits31 {x:Int} (h:wideB x=true):fitsS x ((31:Nat):Int)=true:=by
 have:=wideB_iff.1 h
 have e1:gshl .i64 (-1) (((31:Nat):Int)-1)=-1073741824:=by decide
 have e2:IntKind.wrap .i64 (gshl .i64 1 (((31:Nat):Int)-1)-1)=1073741823:=by decide
 unfold fitsS
 rw [e1,e2]
 simp only [Bool.and_eq_true,decide_eq_true_eq]
 omega
theorem growN_wide {x:Int} (h:wideB x=true):∀ (k w:Nat),w+k=32→1≤k→growN x k w≤31
 |k+1,w,hk,_=>by
  simp only [growN]
  by_cases h31:w=31
  ·subst h31
   rw [fits31 h]
   simp
  ·cases (x != 0)&&!fitsS x w with
   |true=>exact growN_wide h k (w+1) (by omega) (by omega)
   |false=>simp only [cond_false];omega
theorem width_fold_wide:∀ (l:List Int) (w:Nat),l.all wideB=true→w≤31→l.foldl (fun w x=>growN x (32-w) w) w≤31
 | [],w,_,h=>h
 |x::l,w,hl,h=>by
  simp only [List.all_cons,Bool.and_eq_true] at hl
  exact width_fold_wide l _ hl.2 (growN_wide hl.1 (32-w) w (by omega) (by omega))
theorem widthN_wide {l:List Int} (h:l.all wideB=true):widthN l≤31:=width_fold_wide l 0 h (by omega)
theorem parts_raw_eq {l:List Int} (hl:l.length<10000):F_parts_raw l=some (((5+widthN l*l.length:Nat)):Int):=by
 have hw:=widthN_le l
 have hm:widthN l*l.length≤32*l.length:=Nat.mul_le_mul_right _ hw
 unfold F_parts_raw
 simp only [sample_Width_eq (show short l by unfold short;omega),Option.bind_some]
 have e:((widthN l:Nat):Int)*((l.length:Nat):Int)=((widthN l*l.length:Nat):Int):=by simp
 rw [e,wrap64 (n:=((widthN l*l.length:Nat):Int)) (by omega),wrap64 (by omega)]
 congr 1
def partC (k:Int) (part:List Int):Nat:=5+(if k=31 then 5+widthN part*part.length else (part.map (riceC k.toNat)).sum)
def partsC:List Nat→List Int→List Int→Nat
 |z::zs,k::ks,l=>partC k (l.take z)+partsC zs ks (l.drop z)
 |_,_,_=>0
theorem wrapu_nat {q:Nat} (h:q<2147483648):IntKind.wrap .u64 (q:Int)=(q:Int):=wrapu64 (by omega)
theorem partL_len {k:Int} (hk:kB k=true) {part:List Int} (hw:part.all wideB=true) (L:List Int):(partL k part L).length=L.length+partC k part:=by
 simp only [kB,Bool.or_eq_true,Bool.and_eq_true,decide_eq_true_eq,beq_iff_eq] at hk
 obtain ⟨K,rfl⟩:=Int.eq_ofNat_of_zero_le (show 0≤k by omega)
 have hK:K≤31:=by omega
 have h1:=putL_len (N:=K) (n:=5) (by omega) (by omega) L
 have hwd:=widthN_wide hw
 unfold partL partC
 rw [wrapu_nat (by omega)]
 split
 ·rw [putsL_len (by omega),putL_len (n:=5) (by omega) (by omega),h1];omega
 ·rw [ricesL_len (by omega) _ _ hw,h1];omega
theorem partsL_len:∀ (zs:List Nat) (ks l L:List Int),ks.all kB=true→l.all wideB=true→(partsL zs ks l L).length=L.length+partsC zs ks l
 |z::zs,k::ks,l,L,h,hw=>by
  simp only [List.all_cons,Bool.and_eq_true] at h
  have hwp:(l.take z).all wideB=true:=List.all_eq_true.2 fun x hx=>List.all_eq_true.1 hw x (List.mem_of_mem_take hx)
  have hwr:(l.drop z).all wideB=true:=List.all_eq_true.2 fun x hx=>List.all_eq_true.1 hw x (List.mem_of_mem_drop hx)
  simp only [partsL,partsC]
  rw [partsL_len zs ks _ _ h.2 hwr,partL_len h.1 hwp]
  omega
 | [],_,_,_,_,_=>by simp [partsL,partsC]
 |_::_,[],_,_,_,_=>by simp [partsL,partsC]
theorem partC_le {k:Int} (hk:kB k=true) (part:List Int):partC k part≤10+65*part.length:=by
 simp only [kB,Bool.or_eq_true,Bool.and_eq_true,decide_eq_true_eq,beq_iff_eq] at hk
 unfold partC
 split
 ·have hm:widthN part*part.length≤32*part.length:=Nat.mul_le_mul_right _ (widthN_le part)
  omega
 ·have:=sum_le (riceC_le (k:=k.toNat) (by omega)) part
  omega
theorem partsC_le:∀ (zs:List Nat) (ks l:List Int),ks.all kB=true→partsC zs ks l≤10*zs.length+65*l.length
 |z::zs,k::ks,l,h=>by
  simp only [List.all_cons,Bool.and_eq_true] at h
  have h1:=partC_le h.1 (l.take z)
  have h2:=partsC_le zs ks (l.drop z) h.2
  rw [List.length_take] at h1
  rw [List.length_drop] at h2
  simp only [partsC,List.length_cons]
  omega
 | [],_,_,_=>by simp [partsC]
 |_::_,[],_,_=>by simp [partsC]
theorem parts_cost_exact {zn:List Nat} {p:Prt} (hk:p.2.1.length=zn.length) (hall:p.2.1.all kB=true) (hz:zn.length≤256):∀ (j i:Nat) (l:List Int) (c:Nat),i+j=zn.length→(zn.drop i).sum=l.length→l.all wideB=true→l.length≤5000→c+10*j+65*l.length<1000000→
  iter F_parts_Cost_l0 (l,((c:Int),((zn.length:Int),((i:Int),(castZ zn,(p,()))))))=some (((c+partsC (zn.drop i) (p.2.1.drop i) l:Nat):Int),())
 |0,i,l,c,hi,_,_,_,_=>by
  obtain rfl:i=zn.length:=by omega
  rw [List.drop_length]
  exact iter_done (by simp [F_parts_Cost_l0,partsC])
 |j+1,i,l,c,hi,hsum,hw,hl5,hb=>by
  have hlt:i<zn.length:=by omega
  have hki:i<p.2.1.length:=by omega
  have hkb:=List.all_eq_true.1 hall _ (List.getElem_mem hki)
  rw [sum_drop hlt] at hsum
  have h0:decide ((0:Int)≤(i:Int))=true:=by simp
  have h1:decide ((i:Int)<(((castZ zn).length:Nat):Int))=true:=by rw [castZ_length];simp;omega
  have h2:decide ((0:Int)≤((zn[i]:Nat):Int))=true:=by simp
  have h3:decide (((zn[i]:Nat):Int)≤((l.length:Nat):Int))=true:=by simp;omega
  have hpart:(l.take zn[i]).length=zn[i]:=by rw [List.length_take];omega
  have hrest:(l.drop zn[i]).length=(zn.drop (i+1)).sum:=by rw [List.length_drop];omega
  have hwp:(l.take zn[i]).all wideB=true:=List.all_eq_true.2 fun x hx=>List.all_eq_true.1 hw x (List.mem_of_mem_take hx)
  have hwr:(l.drop zn[i]).all wideB=true:=List.all_eq_true.2 fun x hx=>List.all_eq_true.1 hw x (List.mem_of_mem_drop hx)
  have hle:=partC_le hkb (l.take zn[i])
  rw [hpart] at hle
  have goal:F_parts_Cost_l0 (l,((c:Int),((zn.length:Int),((i:Int),(castZ zn,(p,()))))))=some (.inl (l.drop zn[i],(((c+partC p.2.1[i] (l.take zn[i]):Nat):Int),((zn.length:Int),(((i+1:Nat):Int),(castZ zn,(p,()))))))):=by
   by_cases h31:p.2.1[i]=31
   ·have hne:(p.2.1[i]==31)=true:=by rw [h31];rfl
    have hr:=parts_raw_eq (l:=l.take zn[i]) (by omega)
    have ec:partC p.2.1[i] (l.take zn[i])=5+(5+widthN (l.take zn[i])*(l.take zn[i]).length):=by unfold partC;rw [if_pos h31]
    rw [ec] at hle ⊢
    generalize 5+widthN (l.take zn[i])*(l.take zn[i]).length=r at hr hle ⊢
    have e1:IntKind.wrap .i64 (5+(r:Int))=5+(r:Int):=wrap64 (by omega)
    have e2:IntKind.wrap .i64 ((c:Int)+(5+(r:Int)))=((c+(5+r):Nat):Int):=by rw [wrap64 (by omega)];omega
    simp only [F_parts_Cost_l0,dlt hlt,h0,h1,castZ_get hlt,h2,h3,cond_true,Bool.and_self,Int.toNat_natCast,gidx_get hki,Option.bind_some,hne,hr,e1,e2,List.take_length,wrap_succ (show i<1000000 by omega)]
   ·have hne:(p.2.1[i]==31)=false:=by simp [h31]
    have hkb':=hkb
    simp only [kB,Bool.or_eq_true,Bool.and_eq_true,decide_eq_true_eq,beq_iff_eq] at hkb'
    obtain ⟨K,hK⟩:=Int.eq_ofNat_of_zero_le (show 0≤p.2.1[i] by omega)
    have hr:=rice_Sum_eq (k:=K) (by omega) hwp (by omega)
    have ec:partC p.2.1[i] (l.take zn[i])=5+((l.take zn[i]).map (riceC K)).sum:=by unfold partC;rw [if_neg h31,hK];rfl
    rw [←hK] at hr
    rw [ec] at hle ⊢
    generalize ((l.take zn[i]).map (riceC K)).sum=r at hr hle ⊢
    have e1:IntKind.wrap .i64 (5+(r:Int))=5+(r:Int):=wrap64 (by omega)
    have e2:IntKind.wrap .i64 ((c:Int)+(5+(r:Int)))=((c+(5+r):Nat):Int):=by rw [wrap64 (by omega)];omega
    simp only [F_parts_Cost_l0,dlt hlt,h0,h1,castZ_get hlt,h2,h3,cond_true,cond_false,Bool.and_self,Int.toNat_natCast,gidx_get hki,Option.bind_some,hne,hr,e1,e2,List.take_length,wrap_succ (show i<1000000 by omega)]
  rw [iter_step goal,parts_cost_exact hk hall hz j (i+1) (l.drop zn[i]) _ (by omega) hrest.symm hwr (by rw [List.length_drop];omega) (by rw [List.length_drop];omega)]
  rw [List.drop_eq_getElem_cons hlt,List.drop_eq_getElem_cons hki]
  simp only [partsC]
  congr 3
  omega
theorem parts_Cost_eq {p:Prt} {n warm:Int} {l:List Int} {zn:List Nat} (h:PartsOk p n warm l zn):F_parts_Cost (p,(n,(warm,l)))=some ((4+partsC zn p.2.1 l:Nat):Int):=by
 have hk:Go.Ab.short p.2.1:=by have:=h.ks;have:=h.len;unfold Go.Ab.short;omega
 have h5:=h.short
 have hz:=h.len
 have h1:=parts_cost_exact h.ks h.all h.len zn.length 0 l 4 (by omega) (by rw [List.drop_zero];exact h.sum) h.wide h.short (by omega)
 simp only [Int.natCast_zero,Int.cast_ofNat_Int,List.drop_zero] at h1
 unfold F_parts_Cost
 simp only [parts_May_eq hk,h.may,parts_right_eq h.row h.rest h.wide h.short,Option.bind_some,Bool.not_true,cond_false,parts_Sizes_eq,h.sizes,castZ_length,h1]
theorem partsPutL_len {p:Prt} {n warm:Int} {l:List Int} {zn:List Nat} (h:PartsOk p n warm l zn) (L:List Int):(partsPutL p zn l L).length=L.length+(4+partsC zn p.2.1 l):=by
 obtain ⟨o,ho⟩:=Int.eq_ofNat_of_zero_le h.order.1
 have h2:=h.order.2
 unfold partsPutL
 rw [partsL_len _ _ _ _ h.all h.wide,ho,wrapu_nat (by omega),putL_len (by omega) (by omega)]
 omega
end Go.Ab
namespace Go.Ab
def zeroO (o:Int):Sub:=((0:Int),((0:Int),(o,((0:Int),((0:Int),(([]:List Int),(List.replicate 3 (0:Int),(([]:List Stg),(([]:List Int),(((0:Int),(([]:List Int),())),(([]:List Int),())))))))))))
def mkFix (o:Nat) (w:Nat) (d:List Int) (p:Prt):Sub:=
 ((2:Int),((w:Int),((o:Int),((0:Int),((0:Int),(([]:List Int),(List.replicate 3 (0:Int),(([]:List Stg),(d.take o,(p,(difN o d,())))))))))))
theorem small_zeroO (o:Int):SmallS (zeroO o):=⟨by simp [zeroO],by simp [zeroO],by simp [zeroO],by simp [zeroO],by simp [zeroO],by simp [zeroO]⟩
theorem chosen_fix (o:Int):F_sub_chosen ((2:Int),zeroO o)=some ((2:Int),((0:Int),(o,((0:Int),((0:Int),(([]:List Int),(List.replicate 3 (0:Int),(([]:List Stg),(([]:List Int),(((0:Int),(([]:List Int),())),(([]:List Int),()))))))))))):=rfl
theorem fit_fix (o:Nat) (n:Nat):fitB 2 (zeroO (o:Int)) (n:Int)=decide (o≤4∧o≤n):=by
 unfold fitB
 rw [Bool.eq_iff_iff]
 simp only [decide_eq_true_eq,fitP,zeroO]
 constructor
 ·rintro (h|h|⟨-,h1,h2,h3⟩|⟨h,-⟩|⟨h,-⟩|⟨h,-⟩)
  ·exact absurd h (by decide)
  ·exact absurd h (by decide)
  ·omega
  ·exact absurd h (by decide)
  ·exact absurd h (by decide)
  ·exact absurd h (by decide)
 ·intro h
  exact Or.inr (Or.inr (Or.inl ⟨trivial,by omega,by omega,by omega⟩))
theorem split_fix {o w:Nat} {d:List Int} (ho:o≤4) (hn:o≤d.length) (hs:d.length≤100) (hw:d.all wideB=true):
  F_sub_split (((2:Int),((w:Int),((o:Int),((0:Int),((0:Int),(([]:List Int),(List.replicate 3 (0:Int),(([]:List Stg),(([]:List Int),(((0:Int),(([]:List Int),())),(([]:List Int),()))))))))))),d) =
   some (bif (difN o d).all wideB then ((0:Int),mkFix o w d ((0:Int),(([]:List Int),()))) else ((6:Int),((2:Int),((w:Int),((o:Int),((0:Int),((0:Int),(([]:List Int),(List.replicate 3 (0:Int),(([]:List Stg),(([]:List Int),(((0:Int),(([]:List Int),())),(([]:List Int),()))))))))))))):=by
 have hsd:short d:=by unfold short;omega
 have hst:short (d.take o):=by unfold short;rw [List.length_take];omega
 unfold F_sub_split
 simp only [show ((2:Int)==2)=true from rfl,cond_true,fixed_Rest_eq ho hn hsd hw,Option.bind_some]
 cases (difN o d).all wideB with
 |false=>rfl
 |true=>
  have e1:decide ((0:Int)≤(o:Int))=true:=by simp
  have e2:decide ((o:Int)≤((d.length:Nat):Int))=true:=by simp;omega
  have e3:warmI ((2:Int),((w:Int),((o:Int),((0:Int),((0:Int),(([]:List Int),(List.replicate 3 (0:Int),(([]:List Stg),(([]:List Int),(((0:Int),(([]:List Int),())),(([]:List Int),()))))))))))) ((d.length:Nat):Int)=(o:Int):=rfl
  simp only [cond_true,show ((0:Int) != 0)=false from rfl,cond_false,warmth_eq,Option.bind_some,e3,e1,e2,Bool.and_self,Int.toNat_natCast,clone_eq hst]
  rfl
theorem make_fixed {l:List Int} (hl:l.length≤80) {o:Nat} (ho:o≤4):
  (∃ s e,F_sub_Make ((2:Int),(l,zeroO (o:Int)))=some (s,e)∧e≠0)∨
  (∃ w d p,F_sub_Make ((2:Int),(l,zeroO (o:Int)))=some (mkFix o w d p,0)∧w≤30∧downO (w:Int) l=some d∧o≤l.length∧1≤l.length∧(difN o d).all wideB=true∧partsB p (l.length:Int) (o:Int)=true):=by
 have hs:short l:=by unfold short;omega
 unfold F_sub_Make
 by_cases h1:((l.length:Nat):Int)<1
 ·exact Or.inl ⟨_,1,by simp only [h1,decide_true,cond_true,Option.bind_some];rfl,by omega⟩
 have h2:¬ ((l.length:Nat):Int) > 4096:=by omega
 simp only [h1,h2,decide_false,cond_false,fit_eq (small_zeroO _),fit_fix,Option.bind_some]
 by_cases h3:o≤4∧o≤l.length
 rotate_left
 ·exact Or.inl ⟨_,1,by simp only [h3,decide_false,Bool.not_false,cond_true];rfl,by omega⟩
 simp only [h3,and_self,decide_true,Bool.not_true,cond_false,sub_allWide_eq hs,Option.bind_some]
 by_cases h4:l.all wideB=true
 rotate_left
 ·have h4:l.all wideB=false:=by simpa using h4
  exact Or.inl ⟨_,6,by simp only [h4,Bool.not_false,cond_true];rfl,by omega⟩
 obtain ⟨w,hw,hw30⟩:=sample_Wasted_some hs
 simp only [h4,Bool.not_true,cond_false,chosen_fix,Option.bind_some,show ((2:Int)==0)=false from rfl,show ((2:Int)==1)=false from rfl,hw,sample_Down_eq hw30 (show l.length<100000 by omega)]
 cases hd:downO (w:Int) l with
 |none=>exact Or.inl ⟨_,6,by simp only [resB,show ((6:Int) != 0)=true from rfl,cond_true];rfl,by omega⟩
 |some d=>
  obtain ⟨d1,d2,-⟩:=down_up hw30 hd
  simp only [resB,show ((0:Int) != 0)=false from rfl,cond_false,split_fix ho (show o≤d.length by omega) (show d.length≤100 by omega) d1,Option.bind_some]
  cases hr:(difN o d).all wideB with
  |false=>exact Or.inl ⟨_,6,by simp only [cond_false,show ((6:Int) != 0)=true from rfl,cond_true];rfl,by omega⟩
  |true=>
   have hlt:(((d.take o).length:Nat):Int)=(o:Int):=by rw [List.length_take];omega
   have hrow:rowB ((l.length:Nat):Int) (o:Int)=true:=by simp only [rowB,Bool.and_eq_true,decide_eq_true_eq];omega
   obtain ⟨p,hp1,hp2⟩:=parts_Best_some (n:=((l.length:Nat):Int)) (warm:=(o:Int)) (l:=difN o d) hrow (by rw [difN_length];omega) hr (by rw [difN_length];omega)
   refine Or.inr ⟨w,d,p,?_,hw30,hd,trivial,by omega,hr,hp2⟩
   simp only [cond_true,show ((0:Int) != 0)=false from rfl,cond_false,mkFix,hlt,hp1,Option.bind_some]
end Go.Ab
namespace Go.Ab
def fixL (s:Sub) (zn:List Nat) (L:List Int):List Int:=
 partsPutL s.2.2.2.2.2.2.2.2.2.1 zn s.2.2.2.2.2.2.2.2.2.2.1 (putsL (widthN s.2.2.2.2.2.2.2.2.1) s.2.2.2.2.2.2.2.2.1 (putL (IntKind.wrap .u64 s.2.2.1) 3 (headL s L)))
theorem fixed_Put {s:Sub} (h:SmallS s) {n:Int} {L:List Int} (hL:L.length<1000) (hs:(subO s n).isSome=true) (k:s.1=2) {zn:List Nat} (hz:PartsOk s.2.2.2.2.2.2.2.2.2.1 n ((s.2.2.2.2.2.2.2.2.1.length:Nat):Int) s.2.2.2.2.2.2.2.2.2.2.1 zn):
  F_sub_Put (wL L,(s,n))=some (0,wL (fixL s zn L)):=by
 unfold F_sub_Put
 simp only [sub_May_eq h,hs,Option.bind_some]
 have hwd:=widthN_le s.2.2.2.2.2.2.2.2.1
 have hsw:short s.2.2.2.2.2.2.2.2.1:=by have:=h.warm;unfold short;omega
 have hwarm:=h.warm
 have q1:=putL_length (IntKind.wrap .u64 s.1) 3 L
 have q2:=putL_length (IntKind.wrap .u64 s.2.1) 5 (putL (IntKind.wrap .u64 s.1) 3 L)
 have q3:=putL_length ((widthN s.2.2.2.2.2.2.2.2.1:Nat):Int) 5 (putL (IntKind.wrap .u64 s.2.1) 5 (putL (IntKind.wrap .u64 s.1) 3 L))
 have ew:IntKind.wrap .u64 ((widthN s.2.2.2.2.2.2.2.2.1:Nat):Int)=((widthN s.2.2.2.2.2.2.2.2.1:Nat):Int):=wrapu64 (by omega)
 have p1:F_bits_Writer_Put (wL L,(IntKind.wrap .u64 s.1,(3:Int)))=some (putE (IntKind.wrap .u64 s.1) 3,wL (putL (IntKind.wrap .u64 s.1) 3 L)):=Put_eq (n:=3) (by omega) (by omega)
 have p2:F_bits_Writer_Put (wL (putL (IntKind.wrap .u64 s.1) 3 L),(IntKind.wrap .u64 s.2.1,(5:Int)))=some (putE (IntKind.wrap .u64 s.2.1) 5,wL (putL (IntKind.wrap .u64 s.2.1) 5 (putL (IntKind.wrap .u64 s.1) 3 L))):=Put_eq (n:=5) (by omega) (by omega)
 have p3:F_bits_Writer_Put (wL (putL (IntKind.wrap .u64 s.2.1) 5 (putL (IntKind.wrap .u64 s.1) 3 L)),(((widthN s.2.2.2.2.2.2.2.2.1:Nat):Int),(5:Int)))=some (putE ((widthN s.2.2.2.2.2.2.2.2.1:Nat):Int) 5,wL (headL s L)):=Put_eq (n:=5) (by omega) (by omega)
 have q4:(headL s L).length≤L.length+13:=by unfold headL;omega
 unfold fixL
 generalize headL s L=M at p3 q4 ⊢
 have q5:=putL_length (IntKind.wrap .u64 s.2.2.1) 3 M
 have k2:F_bits_Writer_Put (wL M,(IntKind.wrap .u64 s.2.2.1,(3:Int)))=some (putE (IntKind.wrap .u64 s.2.2.1) 3,wL (putL (IntKind.wrap .u64 s.2.2.1) 3 M)):=Put_eq (n:=3) (by omega) (by omega)
 generalize putL (IntKind.wrap .u64 s.2.2.1) 3 M=M2 at k2 q5 ⊢
 have q6:=putsL_length (widthN s.2.2.2.2.2.2.2.2.1) s.2.2.2.2.2.2.2.2.1 M2
 have q7:widthN s.2.2.2.2.2.2.2.2.1*s.2.2.2.2.2.2.2.2.1.length≤32*200:=Nat.mul_le_mul hwd hwarm
 have hwl:=warm_loop (l:=s.2.2.2.2.2.2.2.2.1) (n:=n) (s:=s) hwd (by omega) s.2.2.2.2.2.2.2.2.1.length 0 M2 (by omega) (by omega)
 simp only [Int.natCast_zero,List.drop_zero] at hwl
 generalize putsL (widthN s.2.2.2.2.2.2.2.2.1) s.2.2.2.2.2.2.2.2.1 M2=PM at hwl q6 ⊢
 have t1:=parts_Put_eq (L:=PM) hz (by omega)
 simp only [Bool.not_true,cond_false,sample_Width_eq hsw,Option.bind_some,p1,p2,ew,p3]
 simp only [k,show ((2:Int)==2)=true from rfl,cond_true,k2,Option.bind_some,hwl,rested_eq]
 simp [t1]
theorem small_mkFix {o w:Nat} {d:List Int} {p:Prt} (hd:d.length≤80) (hk:p.2.1.length≤300):SmallS (mkFix o w d p):=
 ⟨by simp [mkFix],by simp [mkFix],by simp [mkFix],by simp only [mkFix,List.length_take];omega,by simp only [mkFix,difN_length];omega,by simp only [mkFix];exact hk⟩
theorem stated_mkFix {o w:Nat} {d:List Int} {p:Prt} {n:Nat} (ho:o≤4) (hw:w≤30) (hn1:1≤n) (hn:n≤80) (hd:d.length=n) (hon:o≤n) (hdw:d.all wideB=true) (hr:(difN o d).all wideB=true) (hp:partsB p (n:Int) (o:Int)=true):
  statedP (mkFix o w d p) (n:Int):=by
 have hwt:(d.take o).all wideB=true:=List.all_eq_true.2 fun x hx=>List.all_eq_true.1 hdw x (List.mem_of_mem_take hx)
 have e:warmI (mkFix o w d p) (n:Int)=(o:Int):=rfl
 have hf:fitP (2:Int) (mkFix o w d p) (n:Int):=
  Or.inr (Or.inr (Or.inl ⟨rfl,(by show (0:Int)≤(o:Int);omega),(by show (o:Int)≤4;omega),(by show (o:Int)≤(n:Int);omega)⟩))
 have ha:aloneP (mkFix o w d p):=⟨fun h=>absurd rfl h,fun _=>rfl,fun _=>rfl,fun _=>rfl,fun _=>rfl,fun _=>rfl⟩
 unfold statedP
 rw [e]
 have hlw:(((d.take o).length:Nat):Int)=(o:Int):=by rw [List.length_take];omega
 have hlr:(((difN o d).length:Nat):Int)=(n:Int)-(o:Int):=by rw [difN_length];omega
 refine ⟨by omega,by omega,hf,ha,?_,?_,fun h=>absurd (show (2:Int)=0 from h) (by decide),hlw,hwt,hr,fun h=>?_,fun _=>⟨hlr,hp⟩⟩
 ·show (0:Int)≤(w:Int);omega
 ·show (w:Int)≤30;omega
 ·rcases h with h|h<;>exact absurd h (show ¬ (2:Int)=_ by decide)
theorem row_mkFix {o w:Nat} {d l:List Int} {p:Prt} (ho:o≤4) (hw:w≤30) (hon:o≤d.length) (hdw:d.all wideB=true) (hr:(difN o d).all wideB=true) (hu:upO (w:Int) d=some l) (n:Int):
  rowO (mkFix o w d p) n=some l:=by
 have hwt:(d.take o).all wideB=true:=List.all_eq_true.2 fun x hx=>List.all_eq_true.1 hdw x (List.mem_of_mem_take hx)
 have hb:=back_dif hdw ho (d.length-o) 0 (by omega)
 rw [List.drop_zero,Nat.add_zero] at hb
 have e1:backP (mkFix o w d p)=some d:=by
  show fixO (d.take o) (difN o d) (o:Int)=some d
  unfold fixO
  rw [hwt,hr]
  exact hb
 show (if (2:Int)=0 then _ else (backP (mkFix o w d p)).bind (upO (w:Int)))=some l
 rw [if_neg (by decide),e1]
 exact hu
theorem cost_mkFix {o w:Nat} {d l:List Int} {p:Prt} {n:Nat} (ho:o≤4) (hw:w≤30) (hn1:1≤n) (hn:n≤80) (hd:d.length=n) (hon:o≤n) (hdw:d.all wideB=true) (hr:(difN o d).all wideB=true) (hp:partsB p (n:Int) (o:Int)=true) (hu:upO (w:Int) d=some l):
  ∃ c:Nat,F_parts_Cost (p,((n:Int),((o:Int),difN o d)))=some (c:Int)∧c≤100000∧F_sub_Cost (mkFix o w d p,(n:Int))=some ((16+o*widthN (d.take o)+c:Nat):Int):=by
 have hlw:(((d.take o).length:Nat):Int)=(o:Int):=by rw [List.length_take];omega
 have hlr:(((difN o d).length:Nat):Int)=(n:Int)-(o:Int):=by rw [difN_length];omega
 obtain ⟨zn,hz⟩:=PartsOk.of hp hlr hr (by rw [difN_length];omega)
 have hk:p.2.1.length≤300:=by have:=hz.ks;have:=hz.len;omega
 have hS:SmallS (mkFix o w d p):=small_mkFix (by omega) hk
 have hst:=stated_mkFix ho hw hn1 hn hd hon hdw hr hp
 have hrow:=row_mkFix (p:=p) ho hw (by omega) hdw hr hu (n:Int)
 have hsome:(subO (mkFix o w d p) (n:Int)).isSome=true:=by
  unfold subO
  rw [if_pos hst,hrow]
  rfl
 have hz':PartsOk p (n:Int) (((d.take o).length:Nat):Int) (difN o d) zn:=by rw [hlw];exact hz
 have hput:=fixed_Put (L:=[]) hS (by simp) hsome rfl hz'
 have hwt:(d.take o).all wideB=true:=List.all_eq_true.2 fun x hx=>List.all_eq_true.1 hdw x (List.mem_of_mem_take hx)
 have hwd:=widthN_wide hwt
 have hc:=partsC_le zn p.2.1 (difN o d) hz.all
 have hlen:(fixL (mkFix o w d p) zn []).length=16+o*widthN (d.take o)+(4+partsC zn p.2.1 (difN o d)):=by
  show (partsPutL p zn (difN o d) (putsL (widthN (d.take o)) (d.take o) (putL (IntKind.wrap .u64 (o:Int)) 3 (putL ((widthN (d.take o):Nat):Int) 5 (putL (IntKind.wrap .u64 (w:Int)) 5 (putL (IntKind.wrap .u64 (2:Int)) 3 [])))))).length=_
  have e2:IntKind.wrap .u64 (2:Int)=((2:Nat):Int):=wrapu_nat (q:=2) (by omega)
  rw [partsPutL_len hz,putsL_len (by omega),wrapu_nat (q:=o) (by omega),wrapu_nat (q:=w) (by omega),e2,putL_len (n:=3) (by omega) (by omega),putL_len (n:=5) (by omega) (by omega),putL_len (n:=5) (by omega) (by omega),putL_len (n:=3) (by omega) (by omega),List.length_nil,List.length_take,Nat.min_eq_left (show o≤d.length by omega),Nat.mul_comm]
 obtain ⟨w1,-⟩:=wL_facts (fixL (mkFix o w d p) zn [])
 refine ⟨4+partsC zn p.2.1 (difN o d),parts_Cost_eq hz,?_,?_⟩
 ·have:=hz.len
  rw [difN_length] at hc
  omega
 ·have hw0:wL []=(([]:List Int),((0:Int),())):=rfl
  rw [hw0] at hput
  unfold F_sub_Cost
  simp only [hput,Option.bind_some,F_bits_Writer_Len,w1,hlen]
  rfl
end Go.Ab
namespace Go.Ab
theorem and255 (y:Int):bits .i64 .and y 255=y%256:=by
 have h:((BitVec.ofInt 64 y) &&& (BitVec.ofInt 64 255)).toNat=(y%18446744073709551616).toNat%256:=by
  rw [BitVec.toNat_and,BitVec.toNat_ofInt]
  have e:(BitVec.ofInt 64 255).toNat=2^8-1:=by decide
  rw [e,Nat.and_two_pow_sub_one_eq_mod]
  rfl
 show IntKind.wrap .i64 ((((BitVec.ofInt 64 y) &&& (BitVec.ofInt 64 255)).toNat:Nat):Int)=_
 rw [h,wrap64 (by omega)]
 omega
theorem law_SubParts (x:List Int×Int):F_l15_SubParts x=some true:=by
 obtain ⟨l,order⟩:=x
 unfold F_l15_SubParts
 simp only [known_true,Option.bind_some,Bool.not_true,cond_false]
 by_cases hl:((l.length:Nat):Int) > 80
 ·simp only [hl,decide_true,cond_true]
 obtain ⟨o,ho,ho4⟩:∃ o:Nat,Int.tmod (bits .i64 .and order 255) 5=(o:Int)∧o≤4:=by
  rw [and255,Int.tmod_eq_emod_of_nonneg (by omega)]
  exact ⟨(order%256%5).toNat,by omega,by omega⟩
 simp only [hl,decide_false,cond_false,ho]
 have hmk:=make_fixed (l:=l) (by omega) ho4
 unfold zeroO at hmk
 rcases hmk with ⟨s,e,h1,h2⟩|⟨w,d,p,h1,hw,hd,hon,hn1,hr,hp⟩
 ·have he:(e != 0)=true:=by simpa using h2
  simp only [h1,Option.bind_some,he,cond_true]
 ·obtain ⟨d1,d2,d3⟩:=down_up hw hd
  obtain ⟨c,hc,hcl,hcost⟩:=cost_mkFix (p:=p) (n:=l.length) ho4 hw hn1 (by omega) d2 hon d1 hr hp d3
  have hlw:(((d.take o).length:Nat):Int)=(o:Int):=by rw [List.length_take];omega
  have hst:short (d.take o):=by unfold short;rw [List.length_take];omega
  have hlr:(((difN o d).length:Nat):Int)=((l.length:Nat):Int)-(o:Int):=by rw [difN_length];omega
  obtain ⟨zn,hz⟩:=PartsOk.of hp hlr hr (by rw [difN_length];omega)
  have hk:short p.2.1:=by have:=hz.ks;have:=hz.len;unfold short;omega
  have hwd:=widthN_le (d.take o)
  have hm:o*widthN (d.take o)≤4*32:=Nat.mul_le_mul ho4 hwd
  have em:(o:Int)*((widthN (d.take o):Nat):Int)=((o*widthN (d.take o):Nat):Int):=by simp
  have e0:(mkFix o w d p).2.2.2.2.2.2.2.2.1=d.take o:=rfl
  have e1:(mkFix o w d p).2.2.2.2.2.2.2.2.2.1=p:=rfl
  have e2:(mkFix o w d p).2.2.2.2.2.2.2.2.2.2.1=difN o d:=rfl
  have e3:(mkFix o w d p).1=2:=rfl
  simp only [h1,Option.bind_some,show ((0:Int) != 0)=false from rfl,show ((2:Int)==2)=true from rfl,cond_false,cond_true,e0,e1,e2,e3,hlw,parts_May_eq hk,hp,hcost,ref_Width_eq hst,hc,em]
  generalize o*widthN (d.take o)=v at hm
  have f1:IntKind.wrap .i64 ((v:Nat):Int)=(v:Int):=wrap64 (by omega)
  have f2:IntKind.wrap .i64 (16+(v:Int))=16+(v:Int):=wrap64 (by omega)
  have f3:IntKind.wrap .i64 (16+(v:Int)+(c:Int))=((16+v+c:Nat):Int):=by rw [wrap64 (by omega)];omega
  rw [f1,f2,f3]
  simp
end Go.Ab
namespace Go.Proofs.YtoklkmdhpjocgaaDoor
open Go.Ab Go.ChangeShapes Go.WideShapes Go.ChangeAt Go.RowKit
theorem collect_lits {α:Type} {f:Nat→Option (α×Owns×List Nat)}:∀ (L:List α) (i:Nat),(∀ (j:Nat) x,L[j]?=some x→f (i+j)=some (x,[],[]))→collect f L.length i=some (L,[],[])
 | [],_,_=>rfl
 |a::L,i,h=>by
  have h0:=h 0 a rfl
  have h1:=collect_lits L (i+1) (fun j x hx=>by have:=h (j+1) x (by simpa using hx);rw [←this];congr 1;omega)
  simp only [List.length_cons,collect]
  simp only [Nat.add_zero] at h0
  rw [h0,h1]
  rfl
section
variable {H:Type} {enc:TypeId×Value→H} {P:Program} {w:World} {base:Nat} {spare:Nat→Bool} {held:Bool}
theorem cells_of_lits {k:IntKind} {n:Nat} {t e:TypeId} {fuel:Nat} {cs:List Value} {L:List Int} {p:List MemPlace} (ht:P.underlying t=some (.array n e)) (he:P.underlying e=some (.int k)) (hc:P.cellsOf e=1)
  (h:DataW.trod enc P w base spare held fuel t cs=some (.agg (L.map fun i=>.lit (.int k i)),p)):L.length=n∧∀ (j:Nat) x,L[j]?=some x→cs[j]?=some (.int k x):=by
 obtain ⟨xs,m,rfl,hx,-,hn,hel⟩:=DataW.trod_array ht h
 simp only [Prod.mk.injEq,DataW.agg.injEq] at hx
 have hl:L.length=n:=by rw [←hn];simpa using congrArg List.length hx.1
 refine ⟨hl,fun j x hj=>?_⟩
 obtain ⟨hjl,-⟩:=List.getElem?_eq_some_iff.1 hj
 have h1:=hel j (by omega)
 rw [hc] at h1
 obtain ⟨y,hy⟩:∃ y,xs[j]?=some y:=⟨_,List.getElem?_eq_getElem (by omega)⟩
 rw [hy] at h1
 obtain ⟨i,e1,e2,-⟩:=DataW.trod_int he h1
 have h2:=congrArg (fun l=>l[j]?) hx.1
 simp only [List.getElem?_map,hj,hy,Option.map_some,e2] at h2
 simp only [sj,DataW.lit.injEq,Lit.int.injEq,true_and] at h2
 subst h2
 have h3:=congrArg (fun l=>l[0]?) e1
 simpa [List.getElem?_drop,List.getElem?_take] using h3
end
def tabName : String := (Rows.subPartsRow.laid.map Prod.fst).headD ""
theorem gTab:Tryd.prog.globalNamed tabName=some 0:=by kernel_rfl
def tTab:TypeId:=((Tryd.prog.globals[0]?).map (·.type)).getD 0
theorem tTab_eq:(Tryd.prog.globals[0]?).map (·.type)=some tTab:=by kernel_rfl
def eTab:TypeId:=match Tryd.prog.underlying tTab with
 |some (.array _ e)=>e
 |_=>0
theorem uTab:Tryd.prog.underlying tTab=some (.array 64 eTab):=by kernel_rfl
theorem uElem:Tryd.prog.underlying eTab=some (.int .u8):=by kernel_rfl
theorem cElem:Tryd.prog.cellsOf eTab=1:=by kernel_rfl
@[reducible] def laidTab:List (String×DataW Unit):=[(tabName,Rows.laid_math_bits_deBruijn64tab)]

theorem G0_one {g:Nat} {t:Ty} {x:t.den} (h:G0 g=some ⟨t,x⟩):g=0∧(⟨t,x⟩:(t:Ty)×t.den)=⟨.arr 64 (.int .u8),glob0⟩:=by
 unfold G0 find at h
 cases g with
 |zero=>exact ⟨rfl,(Option.some.inj h).symm⟩
 |succ n=>exact absurd h (by simp [find])
theorem glob_of_laid {W:World} (h:laidMetH Tryd.prog laidTab W):∀ g t x,G0 g=some ⟨t,x⟩→g<W.heap.size∧dec (memo W none) t ((Src.at g 0).rd (memo W none))=some (x,[],[]):=by
 rw [MakeChecks.laidMetH_plain _ _ _ (by kernel_rfl)] at h
 obtain ⟨ps,⟨g0,t0,cs0,f0,p0,q0,hg0,ht0,hv0,hd0,_⟩,_,_⟩:=h
 obtain rfl:=Option.some.inj (gTab.symm.trans hg0)
 obtain rfl:=Option.some.inj (tTab_eq.symm.trans ht0)
 have e0:(Rows.laid_math_bits_deBruijn64tab:DataW Unit)=.agg (glob0.map fun i=>.lit (.int .u8 i)):=rfl
 rw [e0] at hd0
 obtain ⟨hl,hc⟩:=cells_of_lits uTab uElem cElem hd0
 have hcell:∀ (j:Nat) x,glob0[j]?=some x→W.cell? ⟨0,j,none⟩=some (.int .u8 x):=fun j x hx=>by
  rw [World.var?_cell hg0 hv0 j]
  simpa using hc j x hx
 intro g t x hG
 obtain ⟨rfl,e⟩:=G0_one hG
 cases e
 refine ⟨cell_lt (hcell 0 0 rfl),?_⟩
 exact collect_lits (f:=fun i=>dec (memo W none) (.int .u8) fun j=>(Src.at 0 0).rd (memo W none) (i*1+j)) glob0 0 (fun j x hx=>by
  have:=hcell j x hx
  simp only [dec,Src.rd,memo,Nat.zero_add,Nat.mul_one,Nat.add_zero,this,if_true])
set_option maxRecDepth 100000 in
theorem door_met (os:Os) (args:Array Value):laidMetH Tryd.prog laidTab ((World.doorLaid Tryd.prog 400 os).forCall (fun _ _=>0) ⟨#[],args,[]⟩).memory:=
 laidMetH_of_parts3 (fuel:=8) (laidMet_of_run' 8 (by kernel_rfl) (by kernel_rfl)) (by kernel_rfl) (by kernel_rfl)
end Go.Proofs.YtoklkmdhpjocgaaDoor
