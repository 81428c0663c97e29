/- Part of the proof: QK, QL, QM, QN, QO, QP, QQ, QR, QRA, QRB, QRC, QRD, QRE, QRF, QRG, QRH, QRI, QRJ, QS, QT, QU, QV, QW, QX, QY, QZA, QZB, QZC, QZD, QZE, QZF, QZG, QZH, QZI, QZJ, QZK, QZL, QZM, QZN, R. Conditions: as each statement tells. -/
import Derived.KernelRfl
import Derived.Test.YtoklkmdhpjocgaaGreatDoorRows
import Derived.ProofKit
import Derived.LaidMore
import Derived.LaidLaws
import Derived.LaidHandle
import Derived.LaidByTextLater
import Derived.OpenShut
import Derived.Handed
import Derived.Test.YtoklkmdhpjocgaaGreatDoorME
noncomputable section
namespace Go.Ab
def fixO (warm rest:List Int) (o:Int):Option (List Int):=bif warm.all wideB&&rest.all wideB then backO (fixG o.toNat) rest warm else none
def backP (s:Sub):Option (List Int):=
 if s.1=1 then some s.2.2.2.2.2.2.2.2.1
 else if s.1=2 then fixO s.2.2.2.2.2.2.2.2.1 s.2.2.2.2.2.2.2.2.2.2.1 s.2.2.1
 else if s.1=3 then linO s.2.2.2.2.2.2.2.2.1 s.2.2.2.2.2.2.2.2.2.2.1 s.2.2.2.2.2.1 s.2.2.2.1
 else if s.1=4 then (linO s.2.2.2.2.2.2.2.2.1 s.2.2.2.2.2.2.2.2.2.2.1 s.2.2.2.2.2.1 s.2.2.2.1).bind fun l=>longO l s.2.2.2.2.1 s.2.2.2.2.2.2.1
 else learnO s.2.2.2.2.2.2.2.2.2.2.1 s.2.2.2.2.2.2.2.1
def rowO (s:Sub) (n:Int):Option (List Int):=
 if s.1=0 then some (List.replicate n.toNat (s.2.2.2.2.2.2.2.2.1.getD 0 0)) else (backP s).bind (upO s.2.1)
theorem linO_length {w r c:List Int} {s:Int} {l} (h:linO w r c s=some l):l.length=w.length+r.length:=by
 unfold linO at h
 cases hc:(w.all wideB&&r.all wideB) with
 |false=>rw [hc] at h;cases h
 |true=>
  rw [hc] at h
  exact (backO_wide _ r w l (Bool.and_eq_true_iff.1 hc).1 h).2
theorem fixO_length {w r:List Int} {o:Int} {l} (h:fixO w r o=some l):l.length=w.length+r.length:=by
 unfold fixO at h
 cases hc:(w.all wideB&&r.all wideB) with
 |false=>rw [hc] at h;cases h
 |true=>
  rw [hc] at h
  exact (backO_wide _ r w l (Bool.and_eq_true_iff.1 hc).1 h).2
theorem longO_length {r t:List Int} {lag:Int} {l} (h:longO r lag t=some l):l.length=r.length:=by
 unfold longO at h
 cases hc:r.all wideB with
 |false=>rw [hc] at h;cases h
 |true=>
  rw [hc] at h
  have:=(backO_wide _ r [] l rfl h).2
  simpa using this
theorem lO_length:∀ (st:List Stg) (r:List Int) {l},lO st r=some l→l.length=r.length
 | [],r,l,h=>by simp only [lO,sj] at h;rw [h]
 |s::st,r,l,h=>by
  simp only [lO] at h
  split at h
  ·rename_i r' hr
   rw [lO_length st r' h,stO_length _ _ _ hr];simp
  ·cases h
theorem learnO_length {r:List Int} {st:List Stg} {l} (h:learnO r st=some l):l.length=r.length:=by
 unfold learnO at h
 cases hc:r.all wideB with
 |false=>rw [hc] at h;cases h
 |true=>rw [hc] at h;exact lO_length _ _ h
theorem backP_length {s:Sub} (h:SmallS s) {l} (hl:backP s=some l):l.length<100000:=by
 have hw:=h.warm
 have hr:=h.rest
 unfold backP at hl
 split at hl
 ·simp only [sj] at hl;rw [←hl];omega
 ·split at hl
  ·rw [fixO_length hl];omega
  ·split at hl
   ·rw [linO_length hl];omega
   ·split at hl
    ·obtain ⟨l1,h1,h2⟩:=Option.bind_eq_some_iff.1 hl
     rw [longO_length h2,linO_length h1];omega
    ·rw [learnO_length hl];omega
theorem flat_loop {s:Sub} {n:Int} (h1:1≤n) (h2:n≤4096) (hw:s.2.2.2.2.2.2.2.2.1.length=1):
  iter F_sub_back_l0 (n,((0:Int),(([]:List Int),(s,()))))=some (List.replicate n.toNat (s.2.2.2.2.2.2.2.2.1.getD 0 0),()):=by
 obtain ⟨N,rfl⟩:=Int.eq_ofNat_of_zero_le (show 0≤n by omega)
 have hg:gidx s.2.2.2.2.2.2.2.2.1 (0:Int)=some (s.2.2.2.2.2.2.2.2.1.getD 0 0):=gidx_pos (by omega) (by omega)
 have:=iter_count (f:=F_sub_back_l0) (fun i=>((N:Int),((i:Int),(List.replicate i (s.2.2.2.2.2.2.2.2.1.getD 0 0),(s,()))))) N
  (b:=(List.replicate N (s.2.2.2.2.2.2.2.2.1.getD 0 0),())) (fun i hi=>by
   have hlim:lim ((List.replicate i (s.2.2.2.2.2.2.2.2.1.getD 0 0)).length+1)=true:=lim_short (by rw [List.length_replicate];omega)
   have ea:List.replicate i (s.2.2.2.2.2.2.2.2.1.getD 0 0)++[s.2.2.2.2.2.2.2.2.1.getD 0 0]=List.replicate (i+1) (s.2.2.2.2.2.2.2.2.1.getD 0 0):=by rw [←List.replicate_succ']
   simp only [F_sub_back_l0,dlt hi,cond_true,hg,Option.bind_some,hlim,List.append_eq,ea,wrap_succ (show i<1000000 by omega)])
  (by simp [F_sub_back_l0])
 simpa using this
theorem resB_fst (o:Option (List Int)):((resB o).1,(resB o).2)=resB o:=by cases o<;>rfl
theorem sub_back_eq {s:Sub} (h:SmallS s) {n:Int} (hp:statedP s n):F_sub_back (s,n)=some (resB (rowO s n)):=by
 have hbl:=fun l (hl:backP s=some l)=>backP_length h hl
 obtain ⟨h1,h2,hf,-,hw0,hw30,-,hlen,hw,hr,-⟩:=hp
 have hsr:=h.rest
 have hsw:=h.warm
 have ht:=h.taps
 have hfl:=flat_loop (s:=s) h1 h2
 obtain ⟨k,w,o,sh,lag,c,t,st,wm,p,r,u⟩:=s
 simp only at *
 have up:∀ l,l.length<100000→F_sample_Up (l,w)=some (resB (upO w l)):=fun l hl=>sample_Up_eq hw0 hw30 hl
 unfold F_sub_back rowO
 rcases hf with k0|k0|⟨k0,g1,g2,g3⟩|⟨k0,g1,g2⟩|⟨k0,g1,g2,g3⟩|⟨k0,g1,g2⟩
 ·subst k0
  simp only [warmI] at hlen
  have:=hfl (by simp at hlen;omega)
  simp [this,resB]
 ·subst k0
  simp only [backP] at hbl ⊢
  have:=up wm (by omega)
  simp [this,resB_fst]
 ·subst k0
  obtain ⟨O,rfl⟩:=Int.eq_ofNat_of_zero_le g1
  have g2:(O:Int)≤4:=g2
  simp only [warmI] at hlen
  have hO:wm.length=O:=by simp at hlen;omega
  have h5:=fixed_Back_eq (warm:=wm) (rest:=r) (o:=O) (by omega) hO (by omega)
  simp only [backP] at hbl ⊢
  simp [h5]
  have e:(bif wm.all wideB&&r.all wideB then backO (fixG O) r wm else none)=fixO wm r (O:Int):=rfl
  rw [e]
  cases hl:fixO wm r (O:Int) with
  |none=>simp [resB]
  |some l=>simp [resB,up l (by rw [fixO_length hl];omega)]
 ·subst k0
  simp only [warmI] at hlen
  have hO:wm.length=c.length:=by simp at hlen;omega
  have h5:=linear_Back_eq (rest:=r) g1 hO (by omega)
  simp only [backP] at hbl ⊢
  simp [h5]
  cases hl:linO wm r c sh with
  |none=>simp [resB]
  |some l=>simp [resB,up l (by rw [linO_length hl];omega)]
 ·subst k0
  simp only [warmI] at hlen
  have hO:wm.length=c.length:=by simp at hlen;omega
  have h5:=linear_Back_eq (rest:=r) g1 hO (by omega)
  simp only [backP] at hbl ⊢
  simp [h5]
  cases hl:linO wm r c sh with
  |none=>simp [resB]
  |some l=>
   have hll:=linO_length hl
   have h6:=long_Back_eq (rest:=l) g3 ht (by omega)
   simp [resB,h6]
   cases hl2:longO l lag t with
   |none=>simp
   |some l2=>simp [up l2 (by rw [longO_length hl2];omega)];cases upO w l2<;>simp [resB]
 ·subst k0
  have h5:=learn_Back_eq (rest:=r) g2 (by omega)
  simp only [backP] at hbl ⊢
  simp [h5]
  cases hl:learnO r st with
  |none=>simp [resB]
  |some l=>simp [resB,up l (by rw [learnO_length hl];omega)]
open Classical in
def subO (s:Sub) (n:Int):Option (List Int):=if statedP s n then rowO s n else none
theorem sub_Row_eq {s:Sub} (h:SmallS s) (n:Int):F_sub_Row (s,n)=some (match subO s n with|some r=>(r,0)|none=>([],1)):=by
 unfold F_sub_Row subO
 simp only [stated_eq h,Option.bind_some]
 by_cases hp:statedP s n
 ·simp only [hp,decide_true,Bool.not_true,cond_false,sub_back_eq h hp,Option.bind_some,if_true]
  cases rowO s n<;>simp [resB]
 ·simp only [hp,decide_false,Bool.not_false,cond_true,if_false]
theorem sub_May_eq {s:Sub} (h:SmallS s) (n:Int):F_sub_May (s,n)=some (subO s n).isSome:=by
 unfold F_sub_May
 simp only [sub_Row_eq h,Option.bind_some]
 cases subO s n<;>rfl
end Go.Ab
namespace Go.Ab
@[reducible] def Wr:Type:=(List Int)×(Int×Unit)
def bitS (w:Wr) (b:Int):Wr:=
 let bs:=if w.2.1%8=0 then w.1++[0] else w.1
 (bs.set (w.2.1 / 8).toNat (bits .u8 .or (bs.getD (w.2.1 / 8).toNat 0) (gshl .u8 b (7-w.2.1%8))),(w.2.1+1,()))
def wL (L:List Int):Wr:=L.foldl bitS ([],(0,()))
theorem wL_snoc (L:List Int) (b:Int):wL (L++[b])=bitS (wL L) b:=by simp [wL]
theorem wL_facts_n:∀ (n:Nat) (L:List Int),L.length=n→(wL L).2.1=L.length∧(wL L).1.length=(L.length+7) / 8
 |0,L,h=>by
  rw [List.length_eq_zero_iff.1 h];exact ⟨rfl,rfl⟩
 |n+1,L,h=>by
  obtain ⟨L',b,rfl⟩:∃ L' b,L=L'++[b]:=by
   rcases List.eq_nil_or_concat L with rfl|⟨L',b,e⟩
   ·simp at h
   ·exact ⟨L',b,by rw [e,List.concat_eq_append]⟩
  obtain ⟨h1,h2⟩:=wL_facts_n n L' (by simpa using h)
  rw [wL_snoc]
  simp only [bitS,List.length_set,List.length_append,List.length_singleton,h1]
  refine ⟨by omega,?_⟩
  by_cases h:(L'.length:Int)%8=0
  ·rw [if_pos h];simp;omega
  ·rw [if_neg h];omega
theorem wL_facts (L:List Int):(wL L).2.1=L.length∧(wL L).1.length=(L.length+7) / 8:=wL_facts_n _ L rfl
theorem bit_eq {L:List Int} (hL:L.length<1000000000) (b:Int):F_bits_Writer_bit (wL L,b)=some (wL (L++[b])):=by
 obtain ⟨h1,h2⟩:=wL_facts L
 have ht:Int.tmod ((L.length:Nat):Int) 8=((L.length:Nat):Int)%8:=Int.tmod_eq_emod_of_nonneg (by omega)
 have hd:Int.tdiv ((L.length:Nat):Int) 8=((L.length:Nat):Int) / 8:=Int.tdiv_eq_ediv_of_nonneg (by omega)
 have e1:IntKind.wrap .i64 (((L.length:Nat):Int) / 8)=((L.length:Nat):Int) / 8:=wrap64 (by omega)
 have e2:IntKind.wrap .i64 (7-((L.length:Nat):Int)%8)=7-((L.length:Nat):Int)%8:=wrap64 (by omega)
 have e3:IntKind.wrap .i64 (((L.length:Nat):Int)+1)=((L.length:Nat):Int)+1:=wrap64 (by omega)
 have g0:decide ((0:Int)≤((L.length:Nat):Int) / 8)=true:=by simp;omega
 have g1:decide (7-((L.length:Nat):Int)%8<0)=false:=by simp;omega
 rw [wL_snoc]
 generalize wL L=wr at h1 h2 ⊢
 obtain ⟨bs,n,u⟩:=wr
 have h1:n=((L.length:Nat):Int):=h1
 have h2:bs.length=(L.length+7) / 8:=h2
 subst h1
 unfold F_bits_Writer_bit bitS
 by_cases h:((L.length:Nat):Int)%8=0
 ·have hb:(((L.length:Nat):Int)%8==0)=true:=by simp [h]
  have hl:lim (bs.length+1)=true:=lim_of (by omega)
  have hlt:decide (((L.length:Nat):Int) / 8<(((bs++[0]).length:Nat):Int))=true:=by simp;omega
  simp only [hb,cond_true,hl,Option.bind_some,hd,e1,e2,e3,ht,g0,g1,List.append_eq,hlt,Bool.and_self,cond_false,if_pos h]
 ·have hb:(((L.length:Nat):Int)%8==0)=false:=by simp only [beq_eq_false_iff_ne,ne_eq];exact h
  have hlt:decide (((L.length:Nat):Int) / 8<((bs.length:Nat):Int))=true:=by simp;omega
  simp only [hb,cond_false,Option.bind_some,hd,e1,e2,e3,ht,g0,g1,hlt,Bool.and_self,cond_true,if_neg h]
def bitAt (v:Int) (i:Nat):Int:=IntKind.wrap .u8 (bits .u64 .and (gshr .u64 v (i:Int)) 1)
def pb (v:Int):Nat→List Int
 |0=>[]
 |i+1=>bitAt v i::pb v i
theorem pb_length (v:Int):∀ n,(pb v n).length=n
 |0=>rfl
 |n+1=>by simp [pb,pb_length v n]
def putL (v:Int) (n:Nat) (L:List Int):List Int:=bif gshr .u64 v (n:Int) != 0 then L else L++pb v n
theorem putL_length (v:Int) (n:Nat) (L:List Int):L.length≤(putL v n L).length∧(putL v n L).length≤L.length+n:=by
 unfold putL
 cases (gshr .u64 v (n:Int) != 0)<;>simp [pb_length]
def putE (v:Int) (n:Nat):Int:=bif gshr .u64 v (n:Int) != 0 then 1 else 0
theorem put_from {v:Int}:∀ (n:Nat) (L:List Int),L.length+n<1000000000→iter F_bits_Writer_Put_l0 (v,((n:Int)-1,(wL L,())))=some (wL (L++pb v n),())
 |0,L,_=>by rw [iter_done (b:=(wL L,())) (by simp [F_bits_Writer_Put_l0])];simp [pb]
 |n+1,L,h=>by
  have e:((n+1:Nat):Int)-1=(n:Int):=by omega
  have e1:IntKind.wrap .i64 ((n:Int)-1)=(n:Int)-1:=wrap64 (by omega)
  have h1:decide ((n:Int)≥0)=true:=by simp
  have h2:decide ((n:Int)<0)=false:=by simp
  rw [e,iter_step (s':=(v,((n:Int)-1,(wL (L++[bitAt v n]),())))) (by
   simp only [F_bits_Writer_Put_l0,h1,h2,cond_true,cond_false,show IntKind.wrap .u8 (bits .u64 .and (gshr .u64 v (n:Int)) 1)=bitAt v n from rfl,bit_eq (show L.length<1000000000 by omega),Option.bind_some,e1])]
  rw [put_from n (L++[bitAt v n]) (by simp;omega),pb]
  simp
theorem Put_eq {L:List Int} {v:Int} {n:Nat} (hn:n≤63) (hL:L.length<999999000):F_bits_Writer_Put (wL L,(v,(n:Int)))=some (putE v n,wL (putL v n L)):=by
 unfold F_bits_Writer_Put putE putL
 have h1:decide ((n:Int)<0)=false:=by simp
 have h2:decide ((n:Int) > 64)=false:=by simp;omega
 have e1:IntKind.wrap .i64 ((n:Int)-1)=(n:Int)-1:=wrap64 (by omega)
 simp only [h1,h2,cond_false,Option.bind_some]
 cases (gshr .u64 v (n:Int) != 0) with
 |true=>rfl
 |false=>simp only [cond_false,e1,put_from n L (by omega),Option.bind_some]
def unL (n:Nat) (L:List Int):List Int:=L++List.replicate n 0++[1]
theorem Unary_eq {L:List Int} {n:Nat} (hn:n≤4096) (hL:L.length<999990000):F_bits_Writer_Unary (wL L,(n:Int))=some (0,wL (unL n L)):=by
 unfold F_bits_Writer_Unary unL
 have h1:decide ((n:Int)<0)=false:=by simp
 have h2:decide ((n:Int) > 4096)=false:=by simp;omega
 simp only [h1,h2,cond_false,Option.bind_some]
 have:=iter_count (f:=F_bits_Writer_Unary_l0) (fun i=>((n:Int),((i:Int),(wL (L++List.replicate i 0),())))) n (b:=(wL (L++List.replicate n 0),())) (fun i hi=>by
   have ea:L++List.replicate i (0:Int)++[0]=L++List.replicate (i+1) 0:=by rw [List.append_assoc,←List.replicate_succ']
   simp only [F_bits_Writer_Unary_l0,dlt hi,cond_true,bit_eq (show (L++List.replicate i (0:Int)).length<1000000000 by simp;omega),Option.bind_some,ea,wrap_succ (show i<1000000 by omega)])
  (by simp [F_bits_Writer_Unary_l0])
 simp only [Int.natCast_zero,List.replicate_zero,List.append_nil] at this
 simp only [this,Option.bind_some,bit_eq (show (L++List.replicate n (0:Int)).length<1000000000 by simp;omega)]
theorem unL_length (n:Nat) (L:List Int):(unL n L).length=L.length+n+1:=by simp [unL];omega
def maskS (x:Int) (n:Nat):Int:=bits .u64 .and (IntKind.wrap .u64 x) (IntKind.wrap .u64 ((gshl .u64 1 (n:Int))-1))
def putsL (n:Nat) (l:List Int) (L:List Int):List Int:=l.foldl (fun L x=>putL (maskS x n) n L) L
theorem putsL_length (n:Nat):∀ (l L:List Int),L.length≤(putsL n l L).length∧(putsL n l L).length≤L.length+n*l.length
 | [],L=>by simp [putsL]
 |x::l,L=>by
  have h1:=putL_length (maskS x n) n L
  have h2:=putsL_length n l (putL (maskS x n) n L)
  have e:putsL n (x::l) L=putsL n l (putL (maskS x n) n L):=rfl
  rw [e,List.length_cons,Nat.mul_add,Nat.mul_one]
  omega
theorem putSigned_eq {L:List Int} {x:Int} {n:Nat} (hn:n≤63) (hL:L.length<999999000):F_sub_putSigned (wL L,(x,(n:Int)))=some (wL (putL (maskS x n) n L)):=by
 unfold F_sub_putSigned
 have h1:decide ((n:Int)<0)=false:=by simp
 simp only [h1,cond_false,show bits .u64 .and (IntKind.wrap .u64 x) (IntKind.wrap .u64 ((gshl .u64 1 (n:Int))-1))=maskS x n from rfl,Put_eq hn hL,Option.bind_some]
end Go.Ab
namespace Go.Ab
def fitsS (x w:Int):Bool:=decide (1≤w)&&(decide (w≤31)&&(decide (gshl .i64 (-1) (w-1)≤x)&&decide (x≤IntKind.wrap .i64 (gshl .i64 1 (w-1)-1))))
theorem sample_Fits_eq {x:Int} {w:Nat} (hw:w≤32):F_sample_Fits (x,(w:Int))=some (fitsS x w):=by
 unfold F_sample_Fits fitsS F_sample_Low F_sample_High
 by_cases h1:1≤(w:Int)
 ·by_cases h2:(w:Int)≤31
  ·have g1:decide ((w:Int)<1)=false:=by simp;omega
   have g2:decide ((w:Int) > 31)=false:=by simp;omega
   have e:IntKind.wrap .i64 ((w:Int)-1)=(w:Int)-1:=wrap64 (by omega)
   have g3:decide ((w:Int)-1<0)=false:=by simp;omega
   have h1':decide ((w:Int)≥1)=true:=by simp;omega
   simp only [h1',h1,h2,g1,g2,g3,e,decide_true,cond_true,cond_false,Option.bind_some,Bool.true_and]
   by_cases h3:gshl .i64 (-1) ((w:Int)-1)≤x<;>simp [h3]
  ·have h1':decide ((w:Int)≥1)=true:=by simp;omega
   simp only [h1',h1,h2,decide_true,decide_false,cond_true,cond_false,Bool.true_and,Bool.false_and]
 ·have h1':decide ((w:Int)≥1)=false:=by simp;omega
  simp only [h1',h1,decide_false,cond_false,Bool.false_and]
def growN (x:Int):Nat→Nat→Nat
 |0,w=>w
 |k+1,w=>bif (x != 0)&&!fitsS x w then growN x k (w+1) else w
theorem growN_le (x:Int):∀ (k w:Nat),growN x k w≤w+k
 |0,w=>Nat.le_refl _
 |k+1,w=>by
  simp only [growN]
  cases (x != 0)&&!fitsS x w with
  |true=>have:=growN_le x k (w+1);simp only [cond_true];omega
  |false=>simp only [cond_false];omega
def widthN (l:List Int):Nat:=l.foldl (fun w x=>growN x (32-w) w) 0
theorem width_fold_le:∀ (l:List Int) (w:Nat),w≤32→l.foldl (fun w x=>growN x (32-w) w) w≤32
 | [],w,h=>h
 |x::l,w,h=>width_fold_le l _ (show growN x (32-w) w≤32 by have:=growN_le x (32-w) w;omega)
theorem widthN_le (l:List Int):widthN l≤32:=width_fold_le l 0 (by omega)
theorem grow_from {x:Int} {l:List Int} {n i:Int}:∀ (k w:Nat),w+k=32→iter F_sample_Width_l0 ((w:Int),(x,(l,(n,(i,())))))=some (((growN x k w:Nat):Int),(l,(n,(i,()))))
 |0,w,h=>by
  obtain rfl:w=32:=by omega
  exact iter_done (by cases hx:(x != 0)<;>simp [F_sample_Width_l0,hx,growN])
 |k+1,w,h=>by
  have h1:decide ((w:Int)<32)=true:=by simp;omega
  simp only [growN]
  cases hx:(x != 0) with
  |false=>exact iter_done (by simp only [F_sample_Width_l0,hx,cond_false,Bool.false_and])
  |true=>
   cases hf:fitsS x w with
   |true=>exact iter_done (by simp only [F_sample_Width_l0,hx,h1,sample_Fits_eq (show w≤32 by omega),hf,Option.bind_some,cond_true,cond_false,Bool.not_true,Bool.and_false])
   |false=>
    rw [iter_step (s':=(((w+1:Nat):Int),(x,(l,(n,(i,())))))) (by simp only [F_sample_Width_l0,hx,h1,sample_Fits_eq (show w≤32 by omega),hf,Option.bind_some,cond_true,Bool.not_false,wrap_succ (show w<1000000 by omega)])]
    exact grow_from k (w+1) (by omega)
theorem sample_Width_eq {l:List Int} (hs:short l):F_sample_Width l=some ((widthN l:Nat):Int):=by
 have hs:l.length<1000000:=hs
 have:=iter_list (f:=F_sample_Width_l1) l (fun i (w:Nat)=>((w:Int),(l,((l.length:Int),((i:Int),()))))) (fun w x=>(.inl (growN x (32-w) w):Nat ⊕ (Int×Unit))) (fun _ w=>w≤32) (fun w=>((w:Int),()))
  (fun i h w hw=>⟨fun a' ha=>by
   simp only [Sum.inl.injEq] at ha
   subst ha
   refine ⟨?_,by have:=growN_le l[i] (32-w) w;omega⟩
   simp only [F_sample_Width_l1,dlt h,cond_true,gidx_get h,Option.bind_some,grow_from (32-w) w (by omega),wrap_succ (show i<1000000 by omega)],fun b hb=>(by cases hb)⟩)
  (fun w _=>by simp [F_sample_Width_l1]) (a:=0) (by omega)
 simp only [Int.natCast_zero] at this
 unfold F_sample_Width
 rw [this]
 have key:∀ (l:List Int) (w:Nat),foldE (fun w x=>(.inl (growN x (32-w) w):Nat ⊕ (Int×Unit))) l w=.inl (l.foldl (fun w x=>growN x (32-w) w) w):=by
  intro l
  induction l with
  |nil=>intro w;rfl
  |cons x l ih=>intro w;simp only [foldE,List.foldl_cons,ih]
 rw [key]
 rfl
theorem rice_wide_eq (x:Int):F_rice_wide x=some (wideB x):=by
 unfold F_rice_wide wideB
 by_cases h:-1073741824≤x<;>simp [h]
def foldN (x:Int):Nat:=if 0≤x then (2*x).toNat else (-2*x-1).toNat
theorem foldN_lt {x:Int} (h:wideB x=true):foldN x<2147483648:=by
 have:=wideB_iff.1 h
 unfold foldN
 split<;>omega
theorem rice_Fold_eq {x:Int} (h:wideB x=true):F_rice_Fold x=some ((foldN x:Nat):Int):=by
 have hx:=wideB_iff.1 h
 unfold F_rice_Fold foldN
 simp only [rice_wide_eq,h,Option.bind_some,Bool.not_true,cond_false]
 by_cases h0:0≤x
 ·have h0':decide (x≥0)=true:=by simp;omega
  simp only [h0',cond_true,if_pos h0]
  rw [wrap64 (n:=2*x) (by omega),wrapu64 (by omega)]
  congr 1;omega
 ·have h0':decide (x≥0)=false:=by simp;omega
  simp only [h0',cond_false,if_neg h0]
  rw [wrap64 (n:=-2*x) (by omega),wrap64 (n:=-2*x-1) (by omega),wrapu64 (by omega)]
  congr 1;omega
theorem gshru_nat {N o:Nat} (h:o≤64):gshr .u64 (N:Int) (o:Int)=((N / 2^o:Nat):Int):=gshr_nat h
theorem gshlu_nat {N o:Nat} (h:o≤64) (hs:N*2^o<9223372036854775808):gshl .u64 (N:Int) (o:Int)=((N*2^o:Nat):Int):=by
 unfold gshl
 show IntKind.wrap .u64 ((N:Int)*2^(min (o:Int).toNat 64))=_
 rw [Int.toNat_natCast,Nat.min_eq_left h]
 have e:(N:Int)*2^o=((N*2^o:Nat):Int):=by rw [Int.natCast_mul,Int.natCast_pow];rfl
 rw [e]
 exact wrapu64 (by omega)
theorem and_mask {y k:Nat} (hy:y<18446744073709551616) (hk:k≤62):bits .u64 .and (y:Int) (IntKind.wrap .u64 (gshl .u64 1 (k:Int)-1))=((y%2^k:Nat):Int):=by
 have hp:2^k≤2^62:=Nat.pow_le_pow_right (by decide) hk
 have hp1:1≤2^k:=Nat.one_le_two_pow
 have hp2:(2:Nat)^62=4611686018427387904:=by decide
 have e0:gshl .u64 1 (k:Int)=((2^k:Nat):Int):=by have:=gshlu_nat (N:=1) (o:=k) (by omega) (by omega);simpa using this
 have e1:IntKind.wrap .u64 (((2^k:Nat):Int)-1)=((2^k-1:Nat):Int):=by rw [wrapu64 (by omega)];omega
 rw [e0,e1]
 show IntKind.wrap .u64 (((BitVec.ofInt 64 (y:Int)) &&& (BitVec.ofInt 64 ((2^k-1:Nat):Int))).toNat:Int)=_
 rw [BitVec.ofInt_natCast,BitVec.ofInt_natCast,BitVec.toNat_and,BitVec.toNat_ofNat,BitVec.toNat_ofNat,Nat.mod_eq_of_lt hy,Nat.mod_eq_of_lt (by omega),Nat.and_two_pow_sub_one_eq_mod]
 have:y%2^k<2^k:=Nat.mod_lt _ (by omega)
 exact wrapu64 (by omega)
theorem wrap_nat {q:Nat} (h:q<2147483648):IntKind.wrap .i64 (q:Int)=(q:Int):=wrap64 (by omega)
def riceL (k:Nat) (x:Int) (L:List Int):List Int:=
 if foldN x / 2^k<32 then putL ((foldN x%2^k:Nat):Int) k (unL (foldN x / 2^k) L) else putL ((foldN x:Nat):Int) 32 (unL 32 L)
def ricesL (k:Nat) (l:List Int) (L:List Int):List Int:=l.foldl (fun L x=>riceL k x L) L
theorem riceL_length {k:Nat} (hk:k≤25) (x:Int) (L:List Int):L.length≤(riceL k x L).length∧(riceL k x L).length≤L.length+100:=by
 unfold riceL
 split
 ·rename_i hq
  have h1:=putL_length ((foldN x%2^k:Nat):Int) k (unL (foldN x / 2^k) L)
  have h2:=unL_length (foldN x / 2^k) L
  generalize unL (foldN x / 2^k) L=M at h1 h2 ⊢
  generalize foldN x / 2^k=q at hq h2
  omega
 ·have h1:=putL_length ((foldN x:Nat):Int) 32 (unL 32 L)
  have h2:=unL_length 32 L
  omega
theorem ricesL_length {k:Nat} (hk:k≤25):∀ (l L:List Int),L.length≤(ricesL k l L).length∧(ricesL k l L).length≤L.length+100*l.length
 | [],L=>by simp [ricesL]
 |x::l,L=>by
  have h1:=riceL_length hk x L
  have h2:=ricesL_length hk l (riceL k x L)
  have e:ricesL k (x::l) L=ricesL k l (riceL k x L):=rfl
  rw [e,List.length_cons]
  omega
theorem rice_parameter_eq {k:Nat} (hk:k≤25):F_rice_parameter (k:Int)=some true:=by
 unfold F_rice_parameter
 have h1:decide ((0:Int)≤(k:Int))=true:=by simp
 have h2:decide ((k:Int)≤25)=true:=by simp;omega
 simp only [h1,h2,cond_true]
theorem rice_Put_eq {k:Nat} {l L:List Int} (hk:k≤25) (hl:l.length<10000) (hw:l.all wideB=true) (hL:L.length<900000000):F_rice_Put (wL L,((k:Int),l))=some (0,wL (ricesL k l L)):=by
 have h0:=iter_all (f:=F_rice_Put_l0) l (fun i=>((k:Int),(l,(l,((l.length:Int),((i:Int),(wL L,()))))))) (fun _=>true) (bt:=Sum.inl ((k:Int),(l,(wL L,())))) (bf:=Sum.inl ((k:Int),(l,(wL L,()))))
  (fun i h _=>by
   have:=List.all_eq_true.1 hw _ (List.getElem_mem h)
   simp only [F_rice_Put_l0,dlt h,cond_true,gidx_get h,Option.bind_some,rice_wide_eq,this,Bool.not_true,cond_false,wrap_succ (show i<1000000 by omega)])
  (fun i h hp=>by simp at hp) (by simp [F_rice_Put_l0])
 have key:∀ (j i:Nat) (L':List Int),i+j=l.length→L'.length+100*j<999990000→iter F_rice_Put_l1 ((k:Int),(l,((l.length:Int),((i:Int),(wL L',())))))=some (wL (ricesL k (l.drop i) L'),()):=by
  intro j
  induction j with
  |zero=>
   intro i L' hi _
   obtain rfl:i=l.length:=by omega
   rw [List.drop_length]
   exact iter_done (by simp [F_rice_Put_l1,ricesL])
  |succ j ih=>
   intro i L' hi hb
   have hlt:i<l.length:=by omega
   have hwi:=List.all_eq_true.1 hw _ (List.getElem_mem hlt)
   have hy:=foldN_lt hwi
   have hrl:=riceL_length hk l[i] L'
   have hk0:decide ((k:Int)<0)=false:=by simp
   have eq:gshr .u64 ((foldN l[i]:Nat):Int) (k:Int)=((foldN l[i] / 2^k:Nat):Int):=gshru_nat (by omega)
   have hql:=Nat.div_le_self (foldN l[i]) (2^k)
   have hmod:=Nat.div_add_mod (foldN l[i]) (2^k)
   have emul:gshl .u64 ((foldN l[i] / 2^k:Nat):Int) (k:Int)=((foldN l[i] / 2^k*2^k:Nat):Int):=gshlu_nat (by omega) (by rw [Nat.mul_comm];omega)
   have em:IntKind.wrap .u64 (((foldN l[i]:Nat):Int)-((foldN l[i] / 2^k*2^k:Nat):Int))=((foldN l[i]%2^k:Nat):Int):=by
    rw [Nat.mul_comm (foldN l[i] / 2^k)]
    rw [wrapu64 (by omega)];omega
   have ew:IntKind.wrap .i64 ((foldN l[i] / 2^k:Nat):Int)=((foldN l[i] / 2^k:Nat):Int):=wrap_nat (Nat.lt_of_le_of_lt hql hy)
   rw [List.drop_eq_getElem_cons hlt,iter_step (s':=((k:Int),(l,((l.length:Int),(((i+1:Nat):Int),(wL (riceL k l[i] L'),())))))) (by
    by_cases hq:foldN l[i] / 2^k<32
    ·have hd:decide (((foldN l[i] / 2^k:Nat):Int)<32)=true:=decide_eq_true (by omega)
     have hu:(unL (foldN l[i] / 2^k) L').length<999999000:=by
      rw [unL_length]
      exact Nat.lt_of_lt_of_le (Nat.add_lt_add_right (Nat.add_lt_add_left hq _) 1) (by omega)
     have hun:=Unary_eq (L:=L') (n:=foldN l[i] / 2^k) (Nat.le_of_lt (Nat.lt_trans hq (by decide))) (by omega)
     have hp:=Put_eq (L:=unL (foldN l[i] / 2^k) L') (v:=((foldN l[i]%2^k:Nat):Int)) (n:=k) (by omega) hu
     simp only [F_rice_Put_l1,dlt hlt,cond_true,gidx_get hlt,Option.bind_some,rice_Fold_eq hwi,hk0,cond_false,eq,hd,ew,hun,emul,em,hp,riceL,if_pos hq,wrap_succ (show i<1000000 by omega)]
    ·have hd:decide (((foldN l[i] / 2^k:Nat):Int)<32)=false:=decide_eq_false (by omega)
     have hu:=unL_length 32 L'
     have hun:F_bits_Writer_Unary (wL L',(32:Int))=some (0,wL (unL 32 L')):=Unary_eq (L:=L') (n:=32) (by omega) (by omega)
     have hp:F_bits_Writer_Put (wL (unL 32 L'),(((foldN l[i]:Nat):Int),(32:Int)))=some (putE ((foldN l[i]:Nat):Int) 32,wL (putL ((foldN l[i]:Nat):Int) 32 (unL 32 L'))):=Put_eq (L:=unL 32 L') (v:=((foldN l[i]:Nat):Int)) (n:=32) (by omega) (by omega)
     simp only [F_rice_Put_l1,dlt hlt,cond_true,gidx_get hlt,Option.bind_some,rice_Fold_eq hwi,hk0,cond_false,eq,hd,hun,hp,riceL,if_neg hq,wrap_succ (show i<1000000 by omega)])]
   exact ih (i+1) _ (by omega) (by omega)
 have h1:=key l.length 0 L (by omega) (by omega)
 simp only [Int.natCast_zero,List.drop_zero] at h0 h1
 unfold F_rice_Put
 simp only [rice_parameter_eq hk,Option.bind_some,Bool.not_true,cond_false,h0]
 cases l.all (fun _=>true)<;>simp only [cond_true,cond_false,h1,Option.bind_some]
end Go.Ab
namespace Go.Ab
def castZ (zn:List Nat):List Int:=zn.map fun (a:Nat)=>(a:Int)
theorem sum_replicate (n M:Nat):(List.replicate n M).sum=n*M:=by
 induction n with
 |zero=>simp
 |succ n ih=>rw [List.replicate_succ,List.sum_cons,ih,Nat.succ_mul,Nat.add_comm]
theorem sizes_facts {o n warm:Int} (h:(sizesI o n warm).length≠0):∃ zn:List Nat,sizesI o n warm=castZ zn∧(zn.sum:Int)=n-warm∧zn.length≤256:=by
 unfold sizesI at h ⊢
 cases hr:(rowB n warm&&(decide (0≤o)&&decide (o≤8))) with
 |false=>rw [hr] at h;simp at h
 |true=>
  rw [hr] at h
  simp only [cond_true] at h ⊢
  simp only [rowB,Bool.and_eq_true,decide_eq_true_eq] at hr
  unfold sizesN at h ⊢
  split at h
  ·rename_i hc
   rw [if_pos hc]
   obtain ⟨O,rfl⟩:=Int.eq_ofNat_of_zero_le hr.2.1
   obtain ⟨N,rfl⟩:=Int.eq_ofNat_of_zero_le (show 0≤n by omega)
   obtain ⟨w,rfl⟩:=Int.eq_ofNat_of_zero_le (show 0≤warm by omega)
   simp only [Int.toNat_natCast] at hc ⊢
   have hp:=pow8 (o:=O) (by omega)
   have hm:=Nat.div_add_mod N (2^O)
   rw [hc.1,Nat.add_zero] at hm
   have hw:w≤N / 2^O:=by have:=hc.2;omega
   generalize N / 2^O=M at hc hw hm ⊢
   generalize 2^O=P at hp hm ⊢
   refine ⟨(M-w)::List.replicate (P-1) M,?_,?_,?_⟩
   ·simp only [castZ,List.map_cons,List.map_replicate]
    congr 1
    omega
   ·rw [List.sum_cons,sum_replicate]
    obtain ⟨q,rfl⟩:∃ q,P=q+1:=⟨P-1,by omega⟩
    rw [Nat.add_sub_cancel]
    rw [Nat.succ_mul] at hm
    omega
   ·simp;omega
  ·exact absurd rfl h
def partL (k:Int) (part L:List Int):List Int:=
 if k=31 then putsL (widthN part) part (putL ((widthN part:Nat):Int) 5 (putL (IntKind.wrap .u64 k) 5 L)) else ricesL k.toNat part (putL (IntKind.wrap .u64 k) 5 L)
def partsL:List Nat→List Int→List Int→List Int→List Int
 |z::zs,k::ks,l,L=>partsL zs ks (l.drop z) (partL k (l.take z) L)
 |_,_,_,L=>L
theorem partL_length {k:Int} (hk:kB k=true) (part L:List Int):L.length≤(partL k part L).length∧(partL k part L).length≤L.length+10+100*part.length:=by
 unfold partL
 have h1:=putL_length (IntKind.wrap .u64 k) 5 L
 split
 ·have h2:=putL_length ((widthN part:Nat):Int) 5 (putL (IntKind.wrap .u64 k) 5 L)
  have h3:=putsL_length (widthN part) part (putL ((widthN part:Nat):Int) 5 (putL (IntKind.wrap .u64 k) 5 L))
  have hw:=widthN_le part
  have:widthN part*part.length≤32*part.length:=Nat.mul_le_mul_right _ hw
  omega
 ·rename_i hne
  simp only [kB,Bool.or_eq_true,Bool.and_eq_true,decide_eq_true_eq,beq_iff_eq] at hk
  have h3:=ricesL_length (k:=k.toNat) (by omega) part (putL (IntKind.wrap .u64 k) 5 L)
  omega
theorem castZ_get {zn:List Nat} {i:Nat} (h:i<zn.length):List.getD (castZ zn) i 0=((zn[i]:Nat):Int):=by
 rw [getD_get (by simpa [castZ] using h)];simp [castZ]
theorem castZ_length (zn:List Nat):(castZ zn).length=zn.length:=by simp [castZ]
theorem sum_drop {zn:List Nat} {i:Nat} (h:i<zn.length):(zn.drop i).sum=zn[i]+(zn.drop (i+1)).sum:=by
 rw [List.drop_eq_getElem_cons h,List.sum_cons]
theorem raw_loop {part rest:List Int} {wd:Nat} {a b:Int} {z:List Int} {p:Prt} (hw:wd≤32) (hp:part.length<10000):∀ (j i:Nat) (L:List Int),i+j=part.length→L.length+64*j<999990000→
  iter F_parts_Put_l0 (rest,((wd:Int),(a,(b,(part,((part.length:Int),((i:Int),(z,(wL L,(p,()))))))))))=some (rest,(a,(b,(z,(wL (putsL wd (part.drop i) L),(p,()))))))
 |0,i,L,hi,_=>by
  obtain rfl:i=part.length:=by omega
  rw [List.drop_length]
  exact iter_done (by simp [F_parts_Put_l0,putsL])
 |j+1,i,L,hi,hb=>by
  have hlt:i<part.length:=by omega
  have h2:decide ((wd:Int)<0)=false:=by simp
  have hpl:=putL_length (maskS part[i] wd) wd L
  rw [List.drop_eq_getElem_cons hlt,iter_step (s':=(rest,((wd:Int),(a,(b,(part,((part.length:Int),(((i+1:Nat):Int),(z,(wL (putL (maskS part[i] wd) wd L),(p,()))))))))))) (by
   simp only [F_parts_Put_l0,dlt hlt,cond_true,gidx_get hlt,Option.bind_some,h2,cond_false,show bits .u64 .and (IntKind.wrap .u64 part[i]) (IntKind.wrap .u64 ((gshl .u64 1 (wd:Int))-1))=maskS part[i] wd from rfl,Put_eq (show wd≤63 by omega) (show L.length<999999000 by omega),wrap_succ (show i<1000000 by omega)])]
  exact raw_loop hw hp j (i+1) _ (by omega) (by omega)
theorem parts_put_loop {zn:List Nat} {p:Prt} (hk:p.2.1.length=zn.length) (hall:p.2.1.all kB=true) (hz:zn.length≤256):∀ (j i:Nat) (l L:List Int),i+j=zn.length→(zn.drop i).sum=l.length→l.all wideB=true→l.length≤5000→L.length+10*j+100*l.length<800000000→
  iter F_parts_Put_l1 (l,((zn.length:Int),((i:Int),(castZ zn,(wL L,(p,()))))))=some (wL (partsL (zn.drop i) (p.2.1.drop i) l L),())
 |0,i,l,L,hi,_,_,_,_=>by
  obtain rfl:i=zn.length:=by omega
  rw [List.drop_length]
  exact iter_done (by simp [F_parts_Put_l1,partsL])
 |j+1,i,l,L,hi,hsum,hw,hl5,hb=>by
  have hlt:i<zn.length:=by omega
  have hki:i<p.2.1.length:=by omega
  have hkb:=List.all_eq_true.1 hall _ (List.getElem_mem hki)
  rw [sum_drop hlt] at hsum
  have h0:decide ((0:Int)≤(i:Int))=true:=by simp
  have h1:decide ((i:Int)<(((castZ zn).length:Nat):Int))=true:=by rw [castZ_length];simp;omega
  have h2:decide ((0:Int)≤((zn[i]:Nat):Int))=true:=by simp
  have h3:decide (((zn[i]:Nat):Int)≤((l.length:Nat):Int))=true:=by simp;omega
  have hpart:(l.take zn[i]).length=zn[i]:=by rw [List.length_take];omega
  have hrest:(l.drop zn[i]).length=(zn.drop (i+1)).sum:=by rw [List.length_drop];omega
  have hwp:(l.take zn[i]).all wideB=true:=List.all_eq_true.2 fun x hx=>List.all_eq_true.1 hw x (List.mem_of_mem_take hx)
  have hwr:(l.drop zn[i]).all wideB=true:=List.all_eq_true.2 fun x hx=>List.all_eq_true.1 hw x (List.mem_of_mem_drop hx)
  have hpl:=partL_length hkb (l.take zn[i]) L
  have hp1:=putL_length (IntKind.wrap .u64 p.2.1[i]) 5 L
  have hput:F_bits_Writer_Put (wL L,(IntKind.wrap .u64 p.2.1[i],(5:Int)))=some (putE (IntKind.wrap .u64 p.2.1[i]) 5,wL (putL (IntKind.wrap .u64 p.2.1[i]) 5 L)):=Put_eq (n:=5) (by omega) (by omega)
  have ed:zn.drop i=zn[i]::zn.drop (i+1):=List.drop_eq_getElem_cons hlt
  have ek:p.2.1.drop i=p.2.1[i]::p.2.1.drop (i+1):=List.drop_eq_getElem_cons hki
  rw [ed,ek,partsL]
  have goal:F_parts_Put_l1 (l,((zn.length:Int),((i:Int),(castZ zn,(wL L,(p,()))))))=some (.inl (l.drop zn[i],((zn.length:Int),(((i+1:Nat):Int),(castZ zn,(wL (partL p.2.1[i] (l.take zn[i]) L),(p,()))))))):=by
   by_cases h31:p.2.1[i]=31
   ·have hne:(p.2.1[i] != 31)=false:=by rw [h31];rfl
    have hwd:=widthN_le (l.take zn[i])
    have hsw:=sample_Width_eq (l:=l.take zn[i]) (by unfold short;omega)
    have hp2:=putL_length ((widthN (l.take zn[i]):Nat):Int) 5 (putL (IntKind.wrap .u64 p.2.1[i]) 5 L)
    have ew:IntKind.wrap .u64 ((widthN (l.take zn[i]):Nat):Int)=((widthN (l.take zn[i]):Nat):Int):=wrapu64 (by omega)
    have hput2:F_bits_Writer_Put (wL (putL (IntKind.wrap .u64 p.2.1[i]) 5 L),(((widthN (l.take zn[i]):Nat):Int),(5:Int)))=some (putE ((widthN (l.take zn[i]):Nat):Int) 5,wL (putL ((widthN (l.take zn[i]):Nat):Int) 5 (putL (IntKind.wrap .u64 p.2.1[i]) 5 L))):=Put_eq (n:=5) (by omega) (by omega)
    have hraw:=raw_loop (part:=l.take zn[i]) (rest:=l.drop zn[i]) (a:=(zn.length:Int)) (b:=(i:Int)) (z:=castZ zn) (p:=p) hwd (by omega) (l.take zn[i]).length 0 (putL ((widthN (l.take zn[i]):Nat):Int) 5 (putL (IntKind.wrap .u64 p.2.1[i]) 5 L)) (by omega) (by omega)
    simp only [Int.natCast_zero,List.drop_zero] at hraw
    simp only [F_parts_Put_l1,dlt hlt,h0,h1,castZ_get hlt,h2,h3,cond_true,Bool.and_self,Int.toNat_natCast,gidx_get hki,Option.bind_some,hput,hne,cond_false,hsw,ew,hput2,List.take_length,hraw,wrap_succ (show i<1000000 by omega),partL,if_pos h31]
   ·have hne:(p.2.1[i] != 31)=true:=by simp [h31]
    simp only [kB,Bool.or_eq_true,Bool.and_eq_true,decide_eq_true_eq,beq_iff_eq] at hkb
    obtain ⟨K,hK⟩:=Int.eq_ofNat_of_zero_le (show 0≤p.2.1[i] by omega)
    have hrice:=rice_Put_eq (k:=K) (l:=l.take zn[i]) (L:=putL (IntKind.wrap .u64 p.2.1[i]) 5 L) (by omega) (by omega) hwp (by omega)
    rw [←hK] at hrice
    have eK:K=p.2.1[i].toNat:=by rw [hK,Int.toNat_natCast]
    simp only [F_parts_Put_l1,dlt hlt,h0,h1,castZ_get hlt,h2,h3,cond_true,Bool.and_self,Int.toNat_natCast,gidx_get hki,Option.bind_some,hput,hne,hrice,List.take_length,wrap_succ (show i<1000000 by omega),partL,if_neg h31,eK]
  rw [iter_step goal]
  exact parts_put_loop hk hall hz j (i+1) (l.drop zn[i]) _ (by omega) hrest.symm hwr (by rw [List.length_drop];omega) (by rw [List.length_drop];omega)
end Go.Ab
namespace Go.Ab
theorem rice_Cost_some {k:Nat} (hk:k≤25) {x:Int} (hw:wideB x=true):∃ c,F_rice_Cost ((k:Int),x)=some c∧0≤c∧c≤65:=by
 have hy:=foldN_lt hw
 have eq:gshr .u64 ((foldN x:Nat):Int) (k:Int)=((foldN x / 2^k:Nat):Int):=gshru_nat (by omega)
 have ew:IntKind.wrap .i64 ((foldN x / 2^k:Nat):Int)=((foldN x / 2^k:Nat):Int):=wrap_nat (Nat.lt_of_le_of_lt (Nat.div_le_self _ _) hy)
 have hk0:decide ((k:Int)<0)=false:=by simp
 unfold F_rice_Cost
 simp only [rice_parameter_eq hk,rice_wide_eq,hw,Option.bind_some,Bool.not_true,cond_false,rice_Fold_eq hw,hk0,eq,ew]
 generalize foldN x / 2^k=q
 by_cases hq:q<32
 ·have hd:decide ((q:Int)<32)=true:=decide_eq_true (by omega)
  refine ⟨(q:Int)+1+k,?_,by omega,by omega⟩
  simp only [hd,cond_true]
  rw [wrap64 (n:=(q:Int)+1) (by omega),wrap64 (by omega)]
 ·have hd:decide ((q:Int)<32)=false:=decide_eq_false (by omega)
  exact ⟨65,by simp only [hd,cond_false],by omega,by omega⟩
theorem rice_Sum_some {k:Nat} (hk:k≤25) {l:List Int} (hw:l.all wideB=true) (hl:l.length<10000):∃ c,F_rice_Sum ((k:Int),l)=some c∧0≤c∧c≤65*l.length:=by
 have key:∀ (j i:Nat) (c:Int),i+j=l.length→0≤c→c≤65*i→∃ c',iter F_rice_Sum_l0 ((k:Int),(c,(l,((l.length:Int),((i:Int),())))))=some (c',())∧0≤c'∧c'≤65*l.length:=by
  intro j
  induction j with
  |zero=>
   intro i c hi h0 h1
   obtain rfl:i=l.length:=by omega
   exact ⟨c,iter_done (by simp [F_rice_Sum_l0]),h0,h1⟩
  |succ j ih=>
   intro i c hi h0 h1
   have hlt:i<l.length:=by omega
   obtain ⟨d,hd,hd0,hd1⟩:=rice_Cost_some hk (List.all_eq_true.1 hw _ (List.getElem_mem hlt))
   have e:IntKind.wrap .i64 (c+d)=c+d:=wrap64 (by omega)
   rw [iter_step (s':=((k:Int),(c+d,(l,((l.length:Int),(((i+1:Nat):Int),())))))) (by simp only [F_rice_Sum_l0,dlt hlt,cond_true,gidx_get hlt,Option.bind_some,hd,e,wrap_succ (show i<1000000 by omega)])]
   exact ih (i+1) _ (by omega) (by omega) (by omega)
 obtain ⟨c,h1,h2,h3⟩:=key l.length 0 0 (by omega) (by omega) (by omega)
 simp only [Int.natCast_zero] at h1
 exact ⟨c,by unfold F_rice_Sum;simp only [h1,Option.bind_some],h2,h3⟩
theorem mul_width {w n:Nat} (hw:w≤32) (hn:n<10000):0≤(w:Int)*(n:Int)∧(w:Int)*(n:Int)≤32*n:=by
 have h:w*n≤32*n:=Nat.mul_le_mul_right _ hw
 have e:(w:Int)*(n:Int)=((w*n:Nat):Int):=by rw [Int.natCast_mul]
 omega
theorem parts_raw_some {l:List Int} (hl:l.length<10000):∃ c,F_parts_raw l=some c∧0≤c∧c≤5+32*l.length:=by
 have hm:=mul_width (widthN_le l) hl
 refine ⟨5+((widthN l:Nat):Int)*((l.length:Nat):Int),?_,by omega,by omega⟩
 unfold F_parts_raw
 simp only [sample_Width_eq (show short l by unfold short;omega),Option.bind_some]
 rw [wrap64 (n:=((widthN l:Nat):Int)*((l.length:Nat):Int)) (by omega),wrap64 (by omega)]
theorem parts_cost_loop {zn:List Nat} {p:Prt} (hk:p.2.1.length=zn.length) (hall:p.2.1.all kB=true) (hz:zn.length≤256):∀ (j i:Nat) (l:List Int) (c:Int),i+j=zn.length→(zn.drop i).sum=l.length→l.all wideB=true→l.length≤5000→4≤c→c+10*j+65*l.length<1000000→
  ∃ c',iter F_parts_Cost_l0 (l,(c,((zn.length:Int),((i:Int),(castZ zn,(p,()))))))=some (c',())∧4≤c'
 |0,i,l,c,hi,_,_,_,hc,_=>by
  obtain rfl:i=zn.length:=by omega
  exact ⟨c,iter_done (by simp [F_parts_Cost_l0]),hc⟩
 |j+1,i,l,c,hi,hsum,hw,hl5,hc,hb=>by
  have hlt:i<zn.length:=by omega
  have hki:i<p.2.1.length:=by omega
  have hkb:=List.all_eq_true.1 hall _ (List.getElem_mem hki)
  rw [sum_drop hlt] at hsum
  have h0:decide ((0:Int)≤(i:Int))=true:=by simp
  have h1:decide ((i:Int)<(((castZ zn).length:Nat):Int))=true:=by rw [castZ_length];simp;omega
  have h2:decide ((0:Int)≤((zn[i]:Nat):Int))=true:=by simp
  have h3:decide (((zn[i]:Nat):Int)≤((l.length:Nat):Int))=true:=by simp;omega
  have hpart:(l.take zn[i]).length=zn[i]:=by rw [List.length_take];omega
  have hrest:(l.drop zn[i]).length=(zn.drop (i+1)).sum:=by rw [List.length_drop];omega
  have hwp:(l.take zn[i]).all wideB=true:=List.all_eq_true.2 fun x hx=>List.all_eq_true.1 hw x (List.mem_of_mem_take hx)
  have hwr:(l.drop zn[i]).all wideB=true:=List.all_eq_true.2 fun x hx=>List.all_eq_true.1 hw x (List.mem_of_mem_drop hx)
  have goal:∃ d,F_parts_Cost_l0 (l,(c,((zn.length:Int),((i:Int),(castZ zn,(p,()))))))=some (.inl (l.drop zn[i],(c+d,((zn.length:Int),(((i+1:Nat):Int),(castZ zn,(p,())))))))∧0≤d∧d≤10+65*zn[i]:=by
   by_cases h31:p.2.1[i]=31
   ·have hne:(p.2.1[i]==31)=true:=by rw [h31];rfl
    obtain ⟨r,hr,hr0,hr1⟩:=parts_raw_some (l:=l.take zn[i]) (by omega)
    have e1:IntKind.wrap .i64 (5+r)=5+r:=wrap64 (by omega)
    have e2:IntKind.wrap .i64 (c+(5+r))=c+(5+r):=wrap64 (by omega)
    refine ⟨5+r,?_,by omega,by omega⟩
    simp only [F_parts_Cost_l0,dlt hlt,h0,h1,castZ_get hlt,h2,h3,cond_true,Bool.and_self,Int.toNat_natCast,gidx_get hki,Option.bind_some,hne,hr,e1,e2,List.take_length,wrap_succ (show i<1000000 by omega)]
   ·have hne:(p.2.1[i]==31)=false:=by simp [h31]
    simp only [kB,Bool.or_eq_true,Bool.and_eq_true,decide_eq_true_eq,beq_iff_eq] at hkb
    obtain ⟨K,hK⟩:=Int.eq_ofNat_of_zero_le (show 0≤p.2.1[i] by omega)
    obtain ⟨r,hr,hr0,hr1⟩:=rice_Sum_some (k:=K) (by omega) hwp (by omega)
    rw [←hK] at hr
    have e1:IntKind.wrap .i64 (5+r)=5+r:=wrap64 (by omega)
    have e2:IntKind.wrap .i64 (c+(5+r))=c+(5+r):=wrap64 (by omega)
    refine ⟨5+r,?_,by omega,by omega⟩
    simp only [F_parts_Cost_l0,dlt hlt,h0,h1,castZ_get hlt,h2,h3,cond_true,cond_false,Bool.and_self,Int.toNat_natCast,gidx_get hki,Option.bind_some,hne,hr,e1,e2,List.take_length,wrap_succ (show i<1000000 by omega)]
  obtain ⟨d,hd,hd0,hd1⟩:=goal
  rw [iter_step hd]
  exact parts_cost_loop hk hall hz j (i+1) (l.drop zn[i]) _ (by omega) hrest.symm hwr (by rw [List.length_drop];omega) (by omega) (by rw [List.length_drop];omega)
structure PartsOk (p:Prt) (n warm:Int) (l:List Int) (zn:List Nat):Prop where
 may:partsB p n warm=true
 sizes:sizesI p.1 n warm=castZ zn
 sum:zn.sum=l.length
 len:zn.length≤256
 ks:p.2.1.length=zn.length
 all:p.2.1.all kB=true
 wide:l.all wideB=true
 short:l.length≤5000
 row:rowB n warm=true
 rest:(l.length:Int)=n-warm
 order:0≤p.1∧p.1≤8
theorem PartsOk.of {p:Prt} {n warm:Int} {l:List Int} (h:partsB p n warm=true) (hl:(l.length:Int)=n-warm) (hw:l.all wideB=true) (h5:l.length≤5000):∃ zn,PartsOk p n warm l zn:=by
 have h':=h
 simp only [partsB,Bool.and_eq_true,Bool.not_eq_true',beq_eq_false_iff_ne,ne_eq,beq_iff_eq] at h'
 obtain ⟨h1,h2,h3⟩:=h'
 obtain ⟨zn,g1,g2,g3⟩:=sizes_facts h1
 have hr:rowB n warm=true∧0≤p.1∧p.1≤8:=by
  unfold sizesI at h1
  cases hr:(rowB n warm&&(decide (0≤p.1)&&decide (p.1≤8))) with
  |false=>rw [hr] at h1;simp at h1
  |true=>simpa using hr
 exact ⟨zn,h,g1,by omega,g3,by rw [←h2,g1,castZ_length],h3,hw,h5,hr.1,hl,hr.2⟩
theorem parts_right_eq {n warm:Int} {l:List Int} (hr:rowB n warm=true) (hl:(l.length:Int)=n-warm) (hw:l.all wideB=true) (h5:l.length≤5000):F_parts_right (n,(warm,l))=some true:=by
 have e:IntKind.wrap .i64 (n-warm)=n-warm:=by
  simp only [rowB,Bool.and_eq_true,decide_eq_true_eq] at hr
  exact wrap64 (by omega)
 have h1:(((l.length:Nat):Int) != n-warm)=false:=by rw [hl];simp
 have e2:F_parts_right_l0=F_sub_allWide_l0:=rfl
 have hs:short l:=by unfold short;omega
 have ha:=sub_allWide_eq hs
 unfold F_sub_allWide at ha
 unfold F_parts_right
 simp only [parts_row_eq,hr,Option.bind_some,Bool.not_true,cond_false,e,h1,e2]
 rw [hw] at ha
 exact ha
theorem parts_Cost_some {p:Prt} {n warm:Int} {l:List Int} {zn:List Nat} (h:PartsOk p n warm l zn):∃ c,F_parts_Cost (p,(n,(warm,l)))=some c∧4≤c:=by
 have hk:Go.Ab.short p.2.1:=by have:=h.ks;have:=h.len;unfold Go.Ab.short;omega
 have h5:=h.short
 have hz:=h.len
 obtain ⟨c,h1,h2⟩:=parts_cost_loop h.ks h.all h.len zn.length 0 l 4 (by omega) (by rw [List.drop_zero];exact h.sum) h.wide h.short (by omega) (by omega)
 simp only [Int.natCast_zero] at h1
 refine ⟨c,?_,h2⟩
 unfold F_parts_Cost
 simp only [parts_May_eq hk,h.may,parts_right_eq h.row h.rest h.wide h.short,Option.bind_some,Bool.not_true,cond_false,parts_Sizes_eq,h.sizes,castZ_length,h1]
def partsPutL (p:Prt) (zn:List Nat) (l L:List Int):List Int:=partsL zn p.2.1 l (putL (IntKind.wrap .u64 p.1) 4 L)
theorem parts_Put_eq {p:Prt} {n warm:Int} {l L:List Int} {zn:List Nat} (h:PartsOk p n warm l zn) (hL:L.length<700000000):F_parts_Put (wL L,(p,(n,(warm,l))))=some (0,wL (partsPutL p zn l L)):=by
 have h5:=h.short
 have hz:=h.len
 obtain ⟨c,hc,hc4⟩:=parts_Cost_some h
 have hne:(c==0)=false:=by simp only [beq_eq_false_iff_ne,ne_eq];omega
 have hpl:=putL_length (IntKind.wrap .u64 p.1) 4 L
 have hput:F_bits_Writer_Put (wL L,(IntKind.wrap .u64 p.1,(4:Int)))=some (putE (IntKind.wrap .u64 p.1) 4,wL (putL (IntKind.wrap .u64 p.1) 4 L)):=Put_eq (n:=4) (by omega) (by omega)
 have hloop:=parts_put_loop h.ks h.all h.len zn.length 0 l (putL (IntKind.wrap .u64 p.1) 4 L) (by omega) (by rw [List.drop_zero];exact h.sum) h.wide h.short (by omega)
 simp only [Int.natCast_zero,List.drop_zero] at hloop
 unfold F_parts_Put
 simp only [hc,Option.bind_some,hne,cond_false,hput,parts_Sizes_eq,h.sizes,castZ_length,hloop,partsPutL]
end Go.Ab
namespace Go.Ab
theorem coefs_loop {c:List Int} {wd:Nat} (hw:wd≤32) (hc:c.length<10000):∀ (j i:Nat) (L:List Int),i+j=c.length→L.length+64*j<999990000→
  iter F_sub_putCoefs_l0 ((wd:Int),(c,((c.length:Int),((i:Int),(wL L,())))))=some (wL (putsL wd (c.drop i) L),())
 |0,i,L,hi,_=>by
  obtain rfl:i=c.length:=by omega
  rw [List.drop_length]
  exact iter_done (by simp [F_sub_putCoefs_l0,putsL])
 |j+1,i,L,hi,hb=>by
  have hlt:i<c.length:=by omega
  have hpl:=putL_length (maskS c[i] wd) wd L
  rw [List.drop_eq_getElem_cons hlt,iter_step (s':=((wd:Int),(c,((c.length:Int),(((i+1:Nat):Int),(wL (putL (maskS c[i] wd) wd L),())))))) (by
   simp only [F_sub_putCoefs_l0,dlt hlt,cond_true,gidx_get hlt,Option.bind_some,putSigned_eq (show wd≤63 by omega) (show L.length<999999000 by omega),wrap_succ (show i<1000000 by omega)])]
  exact coefs_loop hw hc j (i+1) _ (by omega) (by omega)
theorem taps_loop {t:List Int} {n wd:Int} {s:Sub} (ht:t.length=3):∀ (j i:Nat) (L:List Int),i+j=3→L.length+64*j<999990000→
  iter F_sub_Put_l0 (n,(wd,(t,((i:Int),(wL L,(s,()))))))=some (n,(wd,(wL (putsL 8 (t.drop i) L),(s,()))))
 |0,i,L,hi,_=>by
  obtain rfl:i=t.length:=by omega
  rw [List.drop_length]
  exact iter_done (by rw [ht];simp [F_sub_Put_l0,putsL])
 |j+1,i,L,hi,hb=>by
  have hlt:i<t.length:=by omega
  have h3:decide ((i:Int)<3)=true:=by simp;omega
  have hpl:=putL_length (maskS t[i] 8) 8 L
  have hps:F_sub_putSigned (wL L,(t[i],(8:Int)))=some (wL (putL (maskS t[i] 8) 8 L)):=putSigned_eq (n:=8) (by omega) (by omega)
  rw [List.drop_eq_getElem_cons hlt,iter_step (s':=(n,(wd,(t,(((i+1:Nat):Int),(wL (putL (maskS t[i] 8) 8 L),(s,()))))))) (by
   simp only [F_sub_Put_l0,h3,cond_true,gidx_get hlt,Option.bind_some,hps,wrap_succ (show i<1000000 by omega)])]
  exact taps_loop ht j (i+1) _ (by omega) (by omega)
theorem warm_loop {l:List Int} {n:Int} {wd:Nat} {s:Sub} (hw:wd≤32) (hl:l.length<10000):∀ (j i:Nat) (L:List Int),i+j=l.length→L.length+64*j<999990000→
  iter F_sub_Put_l2 (n,((wd:Int),(l,((l.length:Int),((i:Int),(wL L,(s,())))))))=some (n,(wL (putsL wd (l.drop i) L),(s,())))
 |0,i,L,hi,_=>by
  obtain rfl:i=l.length:=by omega
  rw [List.drop_length]
  exact iter_done (by simp [F_sub_Put_l2,putsL])
 |j+1,i,L,hi,hb=>by
  have hlt:i<l.length:=by omega
  have hpl:=putL_length (maskS l[i] wd) wd L
  rw [List.drop_eq_getElem_cons hlt,iter_step (s':=(n,((wd:Int),(l,((l.length:Int),(((i+1:Nat):Int),(wL (putL (maskS l[i] wd) wd L),(s,())))))))) (by
   simp only [F_sub_Put_l2,dlt hlt,cond_true,gidx_get hlt,Option.bind_some,putSigned_eq (show wd≤63 by omega) (show L.length<999999000 by omega),wrap_succ (show i<1000000 by omega)])]
  exact warm_loop hw hl j (i+1) _ (by omega) (by omega)
def stageL (s:Stg) (L:List Int):List Int:=putL (IntKind.wrap .u64 s.2.1) 4 (putL (IntKind.wrap .u64 (IntKind.wrap .i64 (s.1-1))) 5 L)
def stagesL (st:List Stg) (L:List Int):List Int:=st.foldl (fun L s=>stageL s L) L
theorem stageL_length (s:Stg) (L:List Int):(stageL s L).length≤L.length+9:=by
 have h1:=putL_length (IntKind.wrap .u64 (IntKind.wrap .i64 (s.1-1))) 5 L
 have h2:=putL_length (IntKind.wrap .u64 s.2.1) 4 (putL (IntKind.wrap .u64 (IntKind.wrap .i64 (s.1-1))) 5 L)
 unfold stageL
 omega
theorem stagesL_length:∀ (st:List Stg) (L:List Int),(stagesL st L).length≤L.length+9*st.length
 | [],L=>by simp [stagesL]
 |s::st,L=>by
  have h1:=stageL_length s L
  have h2:=stagesL_length st (stageL s L)
  have e:stagesL (s::st) L=stagesL st (stageL s L):=rfl
  rw [e,List.length_cons];omega
theorem stages_loop {st:List Stg} {n wd:Int} {s:Sub} (hs:st.length<10000):∀ (j i:Nat) (L:List Int),i+j=st.length→L.length+64*j<999990000→
  iter F_sub_Put_l1 (n,(wd,(st,((st.length:Int),((i:Int),(wL L,(s,())))))))=some (n,(wd,(wL (stagesL (st.drop i) L),(s,()))))
 |0,i,L,hi,_=>by
  obtain rfl:i=st.length:=by omega
  rw [List.drop_length]
  exact iter_done (by simp [F_sub_Put_l1,stagesL])
 |j+1,i,L,hi,hb=>by
  have hlt:i<st.length:=by omega
  have hp1:=putL_length (IntKind.wrap .u64 (IntKind.wrap .i64 (st[i].1-1))) 5 L
  have hsl:=stageL_length st[i] L
  have h1:F_bits_Writer_Put (wL L,(IntKind.wrap .u64 (IntKind.wrap .i64 (st[i].1-1)),(5:Int)))=some (putE (IntKind.wrap .u64 (IntKind.wrap .i64 (st[i].1-1))) 5,wL (putL (IntKind.wrap .u64 (IntKind.wrap .i64 (st[i].1-1))) 5 L)):=Put_eq (n:=5) (by omega) (by omega)
  have h2:F_bits_Writer_Put (wL (putL (IntKind.wrap .u64 (IntKind.wrap .i64 (st[i].1-1))) 5 L),(IntKind.wrap .u64 st[i].2.1,(4:Int)))=some (putE (IntKind.wrap .u64 st[i].2.1) 4,wL (stageL st[i] L)):=Put_eq (n:=4) (by omega) (by omega)
  rw [List.drop_eq_getElem_cons hlt,iter_step (s':=(n,(wd,(st,((st.length:Int),(((i+1:Nat):Int),(wL (stageL st[i] L),(s,())))))))) (by
   simp only [F_sub_Put_l1,dlt hlt,cond_true,gidx_get hlt,Option.bind_some,h1,h2,wrap_succ (show i<1000000 by omega)])]
  exact stages_loop hs j (i+1) _ (by omega) (by omega)
def coefsL (s:Sub) (L:List Int):List Int:=
 putsL (widthN s.2.2.2.2.2.1) s.2.2.2.2.2.1 (putL ((widthN s.2.2.2.2.2.1:Nat):Int) 5 (putL (IntKind.wrap .u64 s.2.2.2.1) 4 (putL (IntKind.wrap .u64 (IntKind.wrap .i64 (((s.2.2.2.2.2.1.length:Nat):Int)-1))) 5 L)))
theorem coefsL_length {s:Sub} (h:s.2.2.2.2.2.1.length≤40) (L:List Int):(coefsL s L).length≤L.length+2000:=by
 unfold coefsL
 have h1:=putL_length (IntKind.wrap .u64 (IntKind.wrap .i64 (((s.2.2.2.2.2.1.length:Nat):Int)-1))) 5 L
 have h2:=putL_length (IntKind.wrap .u64 s.2.2.2.1) 4 (putL (IntKind.wrap .u64 (IntKind.wrap .i64 (((s.2.2.2.2.2.1.length:Nat):Int)-1))) 5 L)
 have h3:=putL_length ((widthN s.2.2.2.2.2.1:Nat):Int) 5 (putL (IntKind.wrap .u64 s.2.2.2.1) 4 (putL (IntKind.wrap .u64 (IntKind.wrap .i64 (((s.2.2.2.2.2.1.length:Nat):Int)-1))) 5 L))
 have h4:=putsL_length (widthN s.2.2.2.2.2.1) s.2.2.2.2.2.1 (putL ((widthN s.2.2.2.2.2.1:Nat):Int) 5 (putL (IntKind.wrap .u64 s.2.2.2.1) 4 (putL (IntKind.wrap .u64 (IntKind.wrap .i64 (((s.2.2.2.2.2.1.length:Nat):Int)-1))) 5 L)))
 have hw:=widthN_le s.2.2.2.2.2.1
 have:widthN s.2.2.2.2.2.1*s.2.2.2.2.2.1.length≤32*40:=Nat.mul_le_mul hw h
 omega
theorem putCoefs_eq {s:Sub} (h:s.2.2.2.2.2.1.length≤40) {L:List Int} (hL:L.length<900000000):F_sub_putCoefs (wL L,s)=some (wL (coefsL s L)):=by
 have h1:=putL_length (IntKind.wrap .u64 (IntKind.wrap .i64 (((s.2.2.2.2.2.1.length:Nat):Int)-1))) 5 L
 have h2:=putL_length (IntKind.wrap .u64 s.2.2.2.1) 4 (putL (IntKind.wrap .u64 (IntKind.wrap .i64 (((s.2.2.2.2.2.1.length:Nat):Int)-1))) 5 L)
 have h3:=putL_length ((widthN s.2.2.2.2.2.1:Nat):Int) 5 (putL (IntKind.wrap .u64 s.2.2.2.1) 4 (putL (IntKind.wrap .u64 (IntKind.wrap .i64 (((s.2.2.2.2.2.1.length:Nat):Int)-1))) 5 L))
 have hw:=widthN_le s.2.2.2.2.2.1
 have ew:IntKind.wrap .u64 ((widthN s.2.2.2.2.2.1:Nat):Int)=((widthN s.2.2.2.2.2.1:Nat):Int):=wrapu64 (by omega)
 have p1:F_bits_Writer_Put (wL L,(IntKind.wrap .u64 (IntKind.wrap .i64 (((s.2.2.2.2.2.1.length:Nat):Int)-1)),(5:Int)))=some (putE (IntKind.wrap .u64 (IntKind.wrap .i64 (((s.2.2.2.2.2.1.length:Nat):Int)-1))) 5,wL (putL (IntKind.wrap .u64 (IntKind.wrap .i64 (((s.2.2.2.2.2.1.length:Nat):Int)-1))) 5 L)):=Put_eq (n:=5) (by omega) (by omega)
 have p2:F_bits_Writer_Put (wL (putL (IntKind.wrap .u64 (IntKind.wrap .i64 (((s.2.2.2.2.2.1.length:Nat):Int)-1))) 5 L),(IntKind.wrap .u64 s.2.2.2.1,(4:Int)))=some (putE (IntKind.wrap .u64 s.2.2.2.1) 4,wL (putL (IntKind.wrap .u64 s.2.2.2.1) 4 (putL (IntKind.wrap .u64 (IntKind.wrap .i64 (((s.2.2.2.2.2.1.length:Nat):Int)-1))) 5 L))):=Put_eq (n:=4) (by omega) (by omega)
 have p3:F_bits_Writer_Put (wL (putL (IntKind.wrap .u64 s.2.2.2.1) 4 (putL (IntKind.wrap .u64 (IntKind.wrap .i64 (((s.2.2.2.2.2.1.length:Nat):Int)-1))) 5 L)),(((widthN s.2.2.2.2.2.1:Nat):Int),(5:Int)))=some (putE ((widthN s.2.2.2.2.2.1:Nat):Int) 5,wL (putL ((widthN s.2.2.2.2.2.1:Nat):Int) 5 (putL (IntKind.wrap .u64 s.2.2.2.1) 4 (putL (IntKind.wrap .u64 (IntKind.wrap .i64 (((s.2.2.2.2.2.1.length:Nat):Int)-1))) 5 L)))):=Put_eq (n:=5) (by omega) (by omega)
 have hlp:=coefs_loop (c:=s.2.2.2.2.2.1) hw (by omega) s.2.2.2.2.2.1.length 0 (putL ((widthN s.2.2.2.2.2.1:Nat):Int) 5 (putL (IntKind.wrap .u64 s.2.2.2.1) 4 (putL (IntKind.wrap .u64 (IntKind.wrap .i64 (((s.2.2.2.2.2.1.length:Nat):Int)-1))) 5 L))) (by omega) (by omega)
 simp only [Int.natCast_zero,List.drop_zero] at hlp
 unfold F_sub_putCoefs
 simp only [p1,p2,sample_Width_eq (show short s.2.2.2.2.2.1 by unfold short;omega),ew,p3,hlp,Option.bind_some,coefsL]
def headL (s:Sub) (L:List Int):List Int:=
 putL ((widthN s.2.2.2.2.2.2.2.2.1:Nat):Int) 5 (putL (IntKind.wrap .u64 s.2.1) 5 (putL (IntKind.wrap .u64 s.1) 3 L))
def kindL (s:Sub) (L:List Int):List Int:=
 if s.1=2 then putL (IntKind.wrap .u64 s.2.2.1) 3 L
 else if s.1=3 then coefsL s L
 else if s.1=4 then coefsL s (putsL 8 s.2.2.2.2.2.2.1 (putL (IntKind.wrap .u64 (IntKind.wrap .i64 (s.2.2.2.2.1-1))) 10 L))
 else if s.1=5 then stagesL s.2.2.2.2.2.2.2.1 (putL (IntKind.wrap .u64 ((s.2.2.2.2.2.2.2.1.length:Nat):Int)) 2 L)
 else L
theorem kindL_length {s:Sub} (h:SmallS s) (L:List Int):(kindL s L).length≤L.length+3000:=by
 have hc:=h.coefs
 have ht:=h.taps
 have hst:=h.stages
 unfold kindL
 split
 ·have:=putL_length (IntKind.wrap .u64 s.2.2.1) 3 L;omega
 ·split
  ·have:=coefsL_length hc L;omega
  ·split
   ·have h1:=putL_length (IntKind.wrap .u64 (IntKind.wrap .i64 (s.2.2.2.2.1-1))) 10 L
    have h2:=putsL_length 8 s.2.2.2.2.2.2.1 (putL (IntKind.wrap .u64 (IntKind.wrap .i64 (s.2.2.2.2.1-1))) 10 L)
    have h3:=coefsL_length hc (putsL 8 s.2.2.2.2.2.2.1 (putL (IntKind.wrap .u64 (IntKind.wrap .i64 (s.2.2.2.2.1-1))) 10 L))
    omega
   ·split
    ·have h1:=putL_length (IntKind.wrap .u64 ((s.2.2.2.2.2.2.2.1.length:Nat):Int)) 2 L
     have h2:=stagesL_length s.2.2.2.2.2.2.2.1 (putL (IntKind.wrap .u64 ((s.2.2.2.2.2.2.2.1.length:Nat):Int)) 2 L)
     omega
    ·omega
theorem partsL_length:∀ (zs:List Nat) (ks l L:List Int),ks.all kB=true→(partsL zs ks l L).length≤L.length+10*zs.length+100*l.length
 |z::zs,k::ks,l,L,h=>by
  simp only [List.all_cons,Bool.and_eq_true] at h
  have h1:=partL_length h.1 (l.take z) L
  have h2:=partsL_length zs ks (l.drop z) (partL k (l.take z) L) h.2
  rw [List.length_take] at h1
  rw [List.length_drop] at h2
  simp only [partsL,List.length_cons]
  omega
 | [],_,_,_,_=>by simp only [partsL];omega
 |_::_,[],_,_,_=>by simp only [partsL];omega
def putSubL (s:Sub) (zn:List Nat) (L:List Int):List Int:=
 if s.1=0∨s.1=1 then putsL (widthN s.2.2.2.2.2.2.2.2.1) s.2.2.2.2.2.2.2.2.1 (kindL s (headL s L))
 else partsPutL s.2.2.2.2.2.2.2.2.2.1 zn s.2.2.2.2.2.2.2.2.2.2.1 (putsL (widthN s.2.2.2.2.2.2.2.2.1) s.2.2.2.2.2.2.2.2.1 (kindL s (headL s L)))
theorem sub_Put_ex {s:Sub} (h:SmallS s) {n:Int} {L:List Int} (hL:L.length<100000000):
  ∃ (e:Int) (L':List Int),F_sub_Put (wL L,(s,n))=some (e,wL L')∧(e=0∨L'=L)∧L'.length≤L.length+700000∧
   ((subO s n).isSome=true→e=0∧∃ zn,L'=putSubL s zn L∧(s.1≠0∧s.1≠1→PartsOk s.2.2.2.2.2.2.2.2.2.1 n ((s.2.2.2.2.2.2.2.2.1.length:Nat):Int) s.2.2.2.2.2.2.2.2.2.2.1 zn))∧((subO s n).isSome=false→e=1∧L'=L):=by
 unfold F_sub_Put
 simp only [sub_May_eq h,Option.bind_some]
 cases hs:(subO s n).isSome with
 |false=>exact ⟨1,L,rfl,.inr rfl,by omega,fun h=>(by cases h),fun _=>⟨rfl,rfl⟩⟩
 |true=>
  have hp:statedP s n:=by
   unfold subO at hs
   split at hs
   ·assumption
   ·cases hs
  obtain ⟨h1,h2,hf,-,-,-,-,hlen,hww,hrw,-,hparts⟩:=hp
  have hkind:=fitP_kind hf
  have hwd:=widthN_le s.2.2.2.2.2.2.2.2.1
  have hsw:short s.2.2.2.2.2.2.2.2.1:=by have:=h.warm;unfold short;omega
  have hwarm:=h.warm
  have hrest:=h.rest
  have hst:=h.stages
  have ht:=h.taps
  have q1:=putL_length (IntKind.wrap .u64 s.1) 3 L
  have q2:=putL_length (IntKind.wrap .u64 s.2.1) 5 (putL (IntKind.wrap .u64 s.1) 3 L)
  have q3:=putL_length ((widthN s.2.2.2.2.2.2.2.2.1:Nat):Int) 5 (putL (IntKind.wrap .u64 s.2.1) 5 (putL (IntKind.wrap .u64 s.1) 3 L))
  have ew:IntKind.wrap .u64 ((widthN s.2.2.2.2.2.2.2.2.1:Nat):Int)=((widthN s.2.2.2.2.2.2.2.2.1:Nat):Int):=wrapu64 (by omega)
  have p1:F_bits_Writer_Put (wL L,(IntKind.wrap .u64 s.1,(3:Int)))=some (putE (IntKind.wrap .u64 s.1) 3,wL (putL (IntKind.wrap .u64 s.1) 3 L)):=Put_eq (n:=3) (by omega) (by omega)
  have p2:F_bits_Writer_Put (wL (putL (IntKind.wrap .u64 s.1) 3 L),(IntKind.wrap .u64 s.2.1,(5:Int)))=some (putE (IntKind.wrap .u64 s.2.1) 5,wL (putL (IntKind.wrap .u64 s.2.1) 5 (putL (IntKind.wrap .u64 s.1) 3 L))):=Put_eq (n:=5) (by omega) (by omega)
  have p3:F_bits_Writer_Put (wL (putL (IntKind.wrap .u64 s.2.1) 5 (putL (IntKind.wrap .u64 s.1) 3 L)),(((widthN s.2.2.2.2.2.2.2.2.1:Nat):Int),(5:Int)))=some (putE ((widthN s.2.2.2.2.2.2.2.2.1:Nat):Int) 5,wL (headL s L)):=Put_eq (n:=5) (by omega) (by omega)
  have q4:(headL s L).length≤L.length+13:=by unfold headL;omega
  generalize hM:headL s L=M at p3 q4
  have q5:=kindL_length h M
  have q6:=putsL_length (widthN s.2.2.2.2.2.2.2.2.1) s.2.2.2.2.2.2.2.2.1 (kindL s M)
  have q7:widthN s.2.2.2.2.2.2.2.2.1*s.2.2.2.2.2.2.2.2.1.length≤32*5000:=Nat.mul_le_mul hwd hwarm
  have hwl:=warm_loop (l:=s.2.2.2.2.2.2.2.2.1) (n:=n) (s:=s) hwd (by omega) s.2.2.2.2.2.2.2.2.1.length 0 (kindL s M) (by omega) (by omega)
  simp only [Int.natCast_zero,List.drop_zero] at hwl

  have hsl:=stages_loop (st:=s.2.2.2.2.2.2.2.1) (n:=n) (wd:=((widthN s.2.2.2.2.2.2.2.2.1:Nat):Int)) (s:=s) (by omega) s.2.2.2.2.2.2.2.1.length 0 (putL (IntKind.wrap .u64 ((s.2.2.2.2.2.2.2.1.length:Nat):Int)) 2 M) (by omega) (by have:=putL_length (IntKind.wrap .u64 ((s.2.2.2.2.2.2.2.1.length:Nat):Int)) 2 M;omega)
  have q8:=putL_length (IntKind.wrap .u64 (IntKind.wrap .i64 (s.2.2.2.2.1-1))) 10 M
  have q9:=putsL_length 8 s.2.2.2.2.2.2.1 (putL (IntKind.wrap .u64 (IntKind.wrap .i64 (s.2.2.2.2.1-1))) 10 M)
  have htl:=taps_loop (t:=s.2.2.2.2.2.2.1) (n:=n) (wd:=((widthN s.2.2.2.2.2.2.2.2.1:Nat):Int)) (s:=s) ht 3 0 (putL (IntKind.wrap .u64 (IntKind.wrap .i64 (s.2.2.2.2.1-1))) 10 M) (by omega) (by omega)
  simp only [Int.natCast_zero,List.drop_zero] at hsl htl
  have k2:F_bits_Writer_Put (wL M,(IntKind.wrap .u64 s.2.2.1,(3:Int)))=some (putE (IntKind.wrap .u64 s.2.2.1) 3,wL (putL (IntKind.wrap .u64 s.2.2.1) 3 M)):=Put_eq (n:=3) (by omega) (by omega)
  have k4:F_bits_Writer_Put (wL M,(IntKind.wrap .u64 (IntKind.wrap .i64 (s.2.2.2.2.1-1)),(10:Int)))=some (putE (IntKind.wrap .u64 (IntKind.wrap .i64 (s.2.2.2.2.1-1))) 10,wL (putL (IntKind.wrap .u64 (IntKind.wrap .i64 (s.2.2.2.2.1-1))) 10 M)):=Put_eq (n:=10) (by omega) (by omega)
  have k5:F_bits_Writer_Put (wL M,(IntKind.wrap .u64 ((s.2.2.2.2.2.2.2.1.length:Nat):Int),(2:Int)))=some (putE (IntKind.wrap .u64 ((s.2.2.2.2.2.2.2.1.length:Nat):Int)) 2,wL (putL (IntKind.wrap .u64 ((s.2.2.2.2.2.2.2.1.length:Nat):Int)) 2 M)):=Put_eq (n:=2) (by omega) (by omega)
  have c3:=putCoefs_eq (s:=s) h.coefs (L:=M) (by omega)
  have c4:=putCoefs_eq (s:=s) h.coefs (L:=putsL 8 s.2.2.2.2.2.2.1 (putL (IntKind.wrap .u64 (IntKind.wrap .i64 (s.2.2.2.2.1-1))) 10 M)) (by omega)
  simp only [Bool.not_true,cond_false,sample_Width_eq hsw,Option.bind_some,p1,p2,ew,p3]
  generalize hPM:putsL (widthN s.2.2.2.2.2.2.2.2.1) s.2.2.2.2.2.2.2.2.1 (kindL s M)=PM at hwl q6

  have tail:∀ (hk01:s.1≠0∧s.1≠1),∃ zn,PartsOk s.2.2.2.2.2.2.2.2.2.1 n ((s.2.2.2.2.2.2.2.2.1.length:Nat):Int) s.2.2.2.2.2.2.2.2.2.2.1 zn:=fun hk01=>by
   obtain ⟨g1,g2⟩:=hparts hk01
   rw [←hlen] at g1 g2
   exact PartsOk.of g2 g1 hrw (by omega)
  rcases hkind with k|k|k|k|k|k
  ·have kl:kindL s M=M:=by unfold kindL;simp [k]
   rw [kl] at hwl
   refine ⟨0,PM,?_,.inl rfl,by omega,fun _=>⟨rfl,[],by unfold putSubL;rw [if_pos (by omega),hM,hPM],fun h=>absurd k (by omega)⟩,fun h=>by cases h⟩
   ·simp only [k,show ((0:Int)==2)=false from rfl,show ((0:Int)==4)=false from rfl,show ((0:Int)==3)=false from rfl,show ((0:Int)==5)=false from rfl,cond_false,Option.bind_some,hwl,rested_eq]
    simp
  ·have kl:kindL s M=M:=by unfold kindL;simp [k]
   rw [kl] at hwl
   refine ⟨0,PM,?_,.inl rfl,by omega,fun _=>⟨rfl,[],by unfold putSubL;rw [if_pos (by omega),hM,hPM],fun h=>absurd k (by omega)⟩,fun h=>by cases h⟩
   ·simp only [k,show ((1:Int)==2)=false from rfl,show ((1:Int)==4)=false from rfl,show ((1:Int)==3)=false from rfl,show ((1:Int)==5)=false from rfl,cond_false,Option.bind_some,hwl,rested_eq]
    simp
  all_goals
   obtain ⟨zn,hz⟩:=tail (by omega)
   have t1:=parts_Put_eq (L:=PM) hz (by omega)
   have t3:(partsPutL s.2.2.2.2.2.2.2.2.2.1 zn s.2.2.2.2.2.2.2.2.2.2.1 PM).length≤L.length+700000:=by
    have z1:=putL_length (IntKind.wrap .u64 s.2.2.2.2.2.2.2.2.2.1.1) 4 PM
    have z2:=partsL_length zn s.2.2.2.2.2.2.2.2.2.1.2.1 s.2.2.2.2.2.2.2.2.2.2.1 (putL (IntKind.wrap .u64 s.2.2.2.2.2.2.2.2.2.1.1) 4 PM) hz.all
    have z3:=hz.len
    unfold partsPutL
    omega
   refine ⟨0,partsPutL s.2.2.2.2.2.2.2.2.2.1 zn s.2.2.2.2.2.2.2.2.2.2.1 PM,?_,.inl rfl,t3,fun _=>⟨rfl,zn,by unfold putSubL;rw [if_neg (by omega),hM,hPM],fun _=>hz⟩,fun h=>by cases h⟩
  ·have kl:kindL s M=putL (IntKind.wrap .u64 s.2.2.1) 3 M:=by unfold kindL;simp [k]
   rw [kl] at hwl
   simp only [k,show ((2:Int)==2)=true from rfl,cond_true,k2,Option.bind_some,hwl,rested_eq]
   simp [t1]
  ·have kl:kindL s M=coefsL s M:=by unfold kindL;simp [k]
   rw [kl] at hwl
   simp only [k,show ((3:Int)==2)=false from rfl,show ((3:Int)==4)=false from rfl,show ((3:Int)==3)=true from rfl,cond_true,cond_false,c3,Option.bind_some,hwl,rested_eq]
   simp [t1]
  ·have kl:kindL s M=coefsL s (putsL 8 s.2.2.2.2.2.2.1 (putL (IntKind.wrap .u64 (IntKind.wrap .i64 (s.2.2.2.2.1-1))) 10 M)):=by unfold kindL;simp [k]
   rw [kl] at hwl
   simp only [k,show ((4:Int)==2)=false from rfl,show ((4:Int)==4)=true from rfl,cond_true,cond_false,k4,htl,c4,Option.bind_some,hwl,rested_eq]
   simp [t1]
  ·have kl:kindL s M=stagesL s.2.2.2.2.2.2.2.1 (putL (IntKind.wrap .u64 ((s.2.2.2.2.2.2.2.1.length:Nat):Int)) 2 M):=by unfold kindL;simp [k]
   rw [kl] at hwl
   simp only [k,show ((5:Int)==2)=false from rfl,show ((5:Int)==4)=false from rfl,show ((5:Int)==3)=false from rfl,show ((5:Int)==5)=true from rfl,cond_true,cond_false,k5,hsl,Option.bind_some,hwl,rested_eq]
   simp [t1]
theorem castZ_toNat (zn:List Nat):(castZ zn).map Int.toNat=zn:=by
 unfold castZ
 rw [List.map_map]
 have:Int.toNat∘(fun (a:Nat)=>(a:Int))=id:=by funext a;simp
 rw [this,List.map_id]
end Go.Ab
namespace Go.Ab
set_option maxRecDepth 100000 in
theorem known_true:F_l15_known ()=some true:=by kernel_rfl
end Go.Ab
namespace Go.Ab
def costI (s:Sub) (n:Int):Int:=
 if (subO s n).isSome=true then (((putSubL s ((sizesI s.2.2.2.2.2.2.2.2.2.1.1 n ((s.2.2.2.2.2.2.2.2.1.length:Nat):Int)).map Int.toNat) []).length:Nat):Int) else 0
theorem zn_same {s:Sub} {n:Int} {zn:List Nat} (hz:s.1≠0∧s.1≠1→PartsOk s.2.2.2.2.2.2.2.2.2.1 n ((s.2.2.2.2.2.2.2.2.1.length:Nat):Int) s.2.2.2.2.2.2.2.2.2.2.1 zn) (L:List Int):
  putSubL s zn L=putSubL s ((sizesI s.2.2.2.2.2.2.2.2.2.1.1 n ((s.2.2.2.2.2.2.2.2.1.length:Nat):Int)).map Int.toNat) L:=by
 by_cases hk:s.1=0∨s.1=1
 ·unfold putSubL
  rw [if_pos hk,if_pos hk]
 ·rw [(hz (not_or.1 hk)).sizes,castZ_toNat]
theorem cost_eq {s:Sub} (h:SmallS s) (n:Int):F_sub_Cost (s,n)=some (costI s n):=by
 obtain ⟨e,L',h1,-,-,h4,h5⟩:=sub_Put_ex h (n:=n) (L:=[]) (by simp)
 have hw:wL []=(([]:List Int),((0:Int),())):=rfl
 rw [hw] at h1
 obtain ⟨w1,-⟩:=wL_facts L'
 unfold F_sub_Cost costI
 simp only [h1,Option.bind_some,F_bits_Writer_Len]
 cases hs:(subO s n).isSome with
 |false=>
  obtain ⟨rfl,rfl⟩:=h5 hs
  rfl
 |true=>
  obtain ⟨rfl,zn,rfl,hz⟩:=h4 hs
  rw [if_pos rfl,←zn_same hz]
  simp only [w1,show ((0:Int) != 0)=false from rfl,cond_false]
theorem Small_eq (s:Sub):F_l15_Small (s,200)=some (decide (s.2.2.2.2.2.1.length≤40∧s.2.2.2.2.2.2.2.1.length≤6∧s.2.2.2.2.2.2.2.2.1.length≤200∧s.2.2.2.2.2.2.2.2.2.2.1.length≤200∧s.2.2.2.2.2.2.2.2.2.1.2.1.length≤300)):=by
 have hd:∀ (n m:Nat),decide ((n:Int)≤(m:Int))=decide (n≤m):=fun n m=>by
  by_cases h:n≤m
  ·have:(n:Int)≤(m:Int):=by omega
   simp [h,this]
  ·have:¬ (n:Int)≤(m:Int):=by omega
   simp [h,this]
 have h40:=hd s.2.2.2.2.2.1.length 40
 have h6:=hd s.2.2.2.2.2.2.2.1.length 6
 have hw:=hd s.2.2.2.2.2.2.2.2.1.length 200
 have hr:=hd s.2.2.2.2.2.2.2.2.2.2.1.length 200
 have hk:=hd s.2.2.2.2.2.2.2.2.2.1.2.1.length 300
 unfold F_l15_Small
 simp only [Int.cast_ofNat_Int] at h40 h6 hw hr hk
 simp only [h40,h6,hw,hr,hk,and_some]
 congr 1
 rw [Bool.eq_iff_iff]
 simp only [Bool.and_eq_true,decide_eq_true_eq]
end Go.Ab
namespace Go.Ab
end Go.Ab
namespace Go.Ab
def dif:List Int→List Int
 |a::b::r=>W (b-a)::dif (b::r)
 |_=>[]
theorem dif_length:∀ l:List Int,(dif l).length=l.length-1
 | []=>rfl
 | [_]=>rfl
 |a::b::r=>by simp [dif,dif_length (b::r)]
theorem dif_get:∀ (l:List Int) (i:Nat) (x y:Int),l[i]?=some x→l[i+1]?=some y→(dif l)[i]?=some (W (y-x))
 |a::b::r,0,x,y,h1,h2=>by simp at h1 h2;subst h1;subst h2;rfl
 |a::b::r,i+1,x,y,h1,h2=>by
  simp only [dif,List.getElem?_cons_succ] at h1 h2 ⊢
  exact dif_get (b::r) i x y h1 h2
 | [_],0,x,y,h1,h2=>by simp at h2
 | [_],i+1,x,y,h1,h2=>by simp at h1
 | [],i,x,y,h1,h2=>by simp at h1
def difN:Nat→List Int→List Int
 |0,l=>l
 |o+1,l=>dif (difN o l)
theorem difN_length (l:List Int):∀ o,(difN o l).length=l.length-o
 |0=>rfl
 |o+1=>by simp only [difN,dif_length,difN_length l o];omega
theorem difN_short {l:List Int} (h:short l) (o:Nat):short (difN o l):=by
 have h:l.length<1000000:=h
 show (difN o l).length<1000000
 rw [difN_length];omega
def mixD (l:List Int) (i:Nat):List Int:=(dif l).take i++l.drop i
theorem mixD_length {l:List Int} {i:Nat} (h:i≤l.length-1):(mixD l i).length=l.length:=by
 simp only [mixD,List.length_append,List.length_take,List.length_drop,dif_length];omega
theorem mixD_getD {l:List Int} {i j:Nat} (h:i≤l.length-1) (hj:i≤j):(mixD l i).getD j 0=l.getD j 0:=by
 have e:((dif l).take i).length=i:=by rw [List.length_take,dif_length];omega
 rw [List.getD_eq_getElem?_getD,List.getD_eq_getElem?_getD,mixD,List.getElem?_append_right (by omega),e,List.getElem?_drop]
 congr 2
 omega
theorem mixD_set {l:List Int} {i:Nat} (h:i<l.length-1):(mixD l i).set i (W (l.getD (i+1) 0-l.getD i 0))=mixD l (i+1):=by
 have e:((dif l).take i).length=i:=by rw [List.length_take,dif_length];omega
 have h1:l[i]?=some l[i]:=List.getElem?_eq_getElem (by omega)
 have h2:l[i+1]?=some l[i+1]:=List.getElem?_eq_getElem (by omega)
 have hd:=dif_get l i _ _ h1 h2
 have hlt:i<(dif l).length:=by rw [dif_length];omega
 simp only [mixD]
 rw [List.set_append,if_neg (by omega),e,Nat.sub_self,List.drop_eq_getElem_cons (show i<l.length by omega),List.set_cons_zero,List.take_succ_eq_append_getElem hlt,List.append_assoc]
 have e2:(dif l)[i]=W (l.getD (i+1) 0-l.getD i 0):=by
  rw [List.getElem?_eq_getElem hlt] at hd
  rw [Option.some.inj hd,List.getD_eq_getElem?_getD,List.getD_eq_getElem?_getD,h1,h2]
  rfl
 rw [e2]
 rfl
theorem rest_inner {l:List Int} {o k:Int} (hs:short l) (h:1≤l.length):iter F_fixed_Rest_l0 ((0:Int),(o,(k,(l,()))))=some (o,(k,(mixD l (l.length-1),()))):=by
 have hs:l.length<1000000:=hs
 have h0:mixD l 0=l:=by simp [mixD]
 have:=iter_count (f:=F_fixed_Rest_l0) (fun i:Nat=>((i:Int),(o,(k,(mixD l i,()))))) (l.length-1) (b:=(o,(k,(mixD l (l.length-1),()))))
  (fun i hi=>by
   have w1:IntKind.wrap .i64 ((i:Int)+1)=((i+1:Nat):Int):=wrap_succ (by omega)
   have hl:=mixD_length (l:=l) (i:=i) (by omega)
   have d0:decide (((i+1:Nat):Int)<((l.length:Nat):Int))=true:=by simp;omega
   have d1:decide ((0:Int)≤((i+1:Nat):Int))=true:=by simp;omega
   have d2:decide ((0:Int)≤(i:Int))=true:=by simp
   have d3:decide ((i:Int)<((l.length:Nat):Int))=true:=by simp;omega
   have n1:Int.toNat ((i+1:Nat):Int)=i+1:=by omega
   have n2:Int.toNat (i:Int)=i:=by omega
   have st:=mixD_set (l:=l) (i:=i) (by omega)
   have g1:=mixD_getD (l:=l) (i:=i) (j:=i+1) (by omega) (by omega)
   have g2:=mixD_getD (l:=l) (i:=i) (j:=i) (by omega) (by omega)
   simp only [W] at st
   simp only [F_fixed_Rest_l0,w1,hl,d0,d1,d2,d3,n1,n2,g1,g2,st,Bool.and_self,cond_true])
  (by
   have hl:=mixD_length (l:=l) (i:=l.length-1) (by omega)
   have w1:IntKind.wrap .i64 (((l.length-1:Nat):Int)+1)=((l.length:Nat):Int):=by rw [wrap64 (by omega)];omega
   have d0:decide (((l.length:Nat):Int)<((l.length:Nat):Int))=false:=by simp
   simp only [F_fixed_Rest_l0,w1,hl,d0,cond_false])
 simp only [Int.natCast_zero,Int.cast_ofNat_Int,h0] at this
 exact this
theorem mixD_take {l:List Int}:(mixD l (l.length-1)).take (l.length-1)=dif l:=by
 have e:(dif l).take (l.length-1)=dif l:=List.take_of_length_le (by rw [dif_length];omega)
 rw [mixD,e,List.take_append_of_le_length (by rw [dif_length];omega),e]
theorem fixed_Rest_eq {l:List Int} {o:Nat} (ho:o≤4) (hn:o≤l.length) (hs:short l) (hw:l.all wideB=true):
  F_fixed_Rest (l,(o:Int))=some (bif (difN o l).all wideB then (difN o l,0) else ([],6)):=by
 have hs':l.length<1000000:=hs
 have loop:=iter_count (f:=F_fixed_Rest_l1) (fun k:Nat=>((o:Int),((k:Int),(difN k l,())))) o (b:=(difN o l,()))
  (fun k hk=>by
   have hk1:1≤(difN k l).length:=by rw [difN_length];omega
   have hks:(difN k l).length<1000000:=difN_short hs k
   have d0:decide ((k:Int)<(o:Int))=true:=by simp;omega
   have hm:=mixD_length (l:=difN k l) (i:=(difN k l).length-1) (by omega)
   have w1:IntKind.wrap .i64 ((((difN k l).length:Nat):Int)-1)=(((difN k l).length-1:Nat):Int):=by rw [wrap64 (by omega)];omega
   have w2:IntKind.wrap .i64 ((k:Int)+1)=((k+1:Nat):Int):=wrap_succ (by omega)
   have d1:decide ((0:Int)≤(((difN k l).length-1:Nat):Int))=true:=by simp
   have d2:decide ((((difN k l).length-1:Nat):Int)≤(((difN k l).length:Nat):Int))=true:=by simp
   have d3:decide ((difN k l).length-1≤(difN k l).length)=true:=by simp
   have n1:Int.toNat (((difN k l).length-1:Nat):Int)=(difN k l).length-1:=by omega
   simp only [F_fixed_Rest_l1,d0,cond_true,rest_inner (difN_short hs k) hk1,Option.bind_some,hm,w1,w2,d1,d2,d3,n1,Bool.and_self,mixD_take,difN])
  (by
   have d0:decide ((o:Int)<(o:Int))=false:=by simp
   simp only [F_fixed_Rest_l1,d0,cond_false])
 have c1:decide ((o:Int)<0)=false:=by simp
 have c2:decide ((o:Int) > 4)=false:=by simp;omega
 have c3:decide (((l.length:Nat):Int)<(o:Int))=false:=by simp;omega
 have c4:lim l.length=true:=lim_of (by omega)
 simp only [Int.natCast_zero,Int.cast_ofNat_Int] at loop
 have e0:difN 0 l=l:=rfl
 rw [e0] at loop
 unfold F_fixed_Rest
 simp only [c1,c2,c3,c4,cond_false,cond_true,Option.bind_some,fixed_wide_eq hs,hw,Bool.not_true,loop,fixed_wide_eq (difN_short hs o)]
 cases (difN o l).all wideB<;>rfl
def ex:Nat→(Nat→Int)→Nat→Int
 |0,f,i=>f i
 |o+1,f,i=>ex o f (i+1)-ex o f i
theorem difN_get {l:List Int} (hw:l.all wideB=true):∀ (o i:Nat),i+o<l.length→(difN o l)[i]?=some (W (ex o (fun j=>l.getD j 0) i))
 |0,i,h=>by
  have h:i<l.length:=by omega
  have e:l.getD i 0=l[i]:=by simp [List.getD_eq_getElem?_getD,h]
  simp only [difN,ex,e]
  rw [List.getElem?_eq_getElem h,W_of_wide (List.all_eq_true.1 hw _ (List.getElem_mem h))]
 |o+1,i,h=>by
  have h1:=difN_get hw o i (by omega)
  have h2:=difN_get hw o (i+1) (by omega)
  simp only [difN,ex]
  rw [dif_get _ i _ _ h1 h2]
  simp only [W,wrap_bmod,Int.sub_bmod_bmod,Int.bmod_sub_bmod]
theorem back_step {l:List Int} (hw:l.all wideB=true) {o j:Nat} (ho:o≤4) (h:o+j<l.length):W (W (ex o (fun j=>l.getD j 0) j)+fixG o (l.take (o+j)))=l.getD (o+j) 0:=by
 have hwide:wideB (l.getD (o+j) 0)=true:=by
  have e:l.getD (o+j) 0=l[o+j]:=by simp [List.getD_eq_getElem?_getD,h]
  rw [e]
  exact List.all_eq_true.1 hw _ (List.getElem_mem h)
 have at_eq:∀ i:Nat,1≤i→i≤o→atB (l.take (o+j)) i=l.getD (o+j-i) 0:=fun i h1 h2=>by
  simp only [atB,List.length_take,Nat.min_eq_left (Nat.le_of_lt h),List.getD_eq_getElem?_getD,List.getElem?_take]
  rw [if_pos (by omega)]
 have key:ex o (fun j=>l.getD j 0) j+fixG o (l.take (o+j))=l.getD (o+j) 0:=by
  have h5:o=0∨o=1∨o=2∨o=3∨o=4:=by omega
  rcases h5 with rfl|rfl|rfl|rfl|rfl
  ·simp [ex,fixG]
  ·simp only [ex,fixG,at_eq 1 (by omega) (by omega)]
   have e1:1+j-1=j:=by omega
   have e2:j+1=1+j:=by omega
   rw [e1,e2];omega
  ·simp only [ex,fixG,at_eq 1 (by omega) (by omega),at_eq 2 (by omega) (by omega)]
   have e1:2+j-1=j+1:=by omega
   have e2:2+j-2=j:=by omega
   have e3:j+1+1=2+j:=by omega
   rw [e1,e2,e3];omega
  ·simp only [ex,fixG,at_eq 1 (by omega) (by omega),at_eq 2 (by omega) (by omega),at_eq 3 (by omega) (by omega)]
   have e1:3+j-1=j+1+1:=by omega
   have e2:3+j-2=j+1:=by omega
   have e3:3+j-3=j:=by omega
   have e4:j+1+1+1=3+j:=by omega
   rw [e1,e2,e3,e4];omega
  ·simp only [ex,fixG,at_eq 1 (by omega) (by omega),at_eq 2 (by omega) (by omega),at_eq 3 (by omega) (by omega),at_eq 4 (by omega) (by omega)]
   have e1:4+j-1=j+1+1+1:=by omega
   have e2:4+j-2=j+1+1:=by omega
   have e3:4+j-3=j+1:=by omega
   have e4:4+j-4=j:=by omega
   have e5:j+1+1+1+1=4+j:=by omega
   rw [e1,e2,e3,e4,e5];omega
 have:W (W (ex o (fun j=>l.getD j 0) j)+fixG o (l.take (o+j)))=W (ex o (fun j=>l.getD j 0) j+fixG o (l.take (o+j))):=by
  simp only [W,wrap_bmod,Int.bmod_add_bmod]
 rw [this,key,W_of_wide hwide]
theorem back_dif {l:List Int} (hw:l.all wideB=true) {o:Nat} (ho:o≤4):∀ (k j:Nat),o+j+k=l.length→backO (fixG o) ((difN o l).drop j) (l.take (o+j))=some l
 |0,j,h=>by
  rw [List.drop_of_length_le (by rw [difN_length];omega),List.take_of_length_le (by omega)]
  rfl
 |k+1,j,h=>by
  have hlt:j<(difN o l).length:=by rw [difN_length];omega
  have hg:=difN_get hw o j (by omega)
  rw [List.getElem?_eq_getElem hlt] at hg
  have e:=Option.some.inj hg
  have e2:l.getD (o+j) 0=l[o+j]:=by simp [List.getD_eq_getElem?_getD,show o+j<l.length by omega]
  have st:=back_step hw ho (show o+j<l.length by omega)
  rw [e2] at st
  rw [List.drop_eq_getElem_cons hlt,e]
  simp only [backO,st,List.all_eq_true.1 hw _ (List.getElem_mem (show o+j<l.length by omega)),cond_true]
  have et:l.take (o+j)++[l[o+j]]=l.take (o+(j+1)):=by
   rw [show o+(j+1)=(o+j)+1 by omega]
   simp
  rw [et]
  exact back_dif hw ho k (j+1) (by omega)
end Go.Ab
namespace Go.Ab
theorem wrapu_range (y:Int):0≤IntKind.wrap .u64 y∧IntKind.wrap .u64 y<18446744073709551616:=by
 simp only [IntKind.wrap,IntKind.bits,IntKind.signed]
 simp
 omega
def downB (n:Int) (x:Int):Bool:=wideB x&&!(Int.tmod x (gshl .i64 1 n) != 0)
def downStep {β:Type} (n:Int) (bad:β) (out:List Int) (x:Int):List Int ⊕ β:=bif downB n x then .inl (out++[gshr .i64 x n]) else .inr bad
def downO (n:Int) (l:List Int):Option (List Int):=bif l.all (downB n) then some (l.map fun x=>gshr .i64 x n) else none
theorem endE_downStep {β:Type} (n:Int) (bad:β) (fin:List Int→β):∀ (l out:List Int),endE fin (foldE (downStep n bad) l out)=match downO n l with|some r=>fin (out++r)|none=>bad
 | [],out=>by simp [foldE,endE,downO]
 |x::l,out=>by
  simp only [foldE,downStep,downO,List.all_cons]
  cases hx:downB n x with
  |true=>
   simp only [cond_true,Bool.true_and]
   rw [endE_downStep n bad fin l _]
   simp only [downO]
   cases l.all (downB n) with
   |true=>simp
   |false=>rfl
  |false=>rfl
theorem shl1 {o:Nat} (h:o≤30):gshl .i64 1 (o:Int)=((2^o:Nat):Int):=by
 have h2:2^o≤2^30:=Nat.pow_le_pow_right (by omega) h
 have:=gshl_nat (N:=1) (o:=o) (by omega) (by omega)
 simpa using this
theorem sample_Down_eq {l:List Int} {o:Nat} (h1:o≤30) (hr:l.length<100000):F_sample_Down (l,(o:Int))=some (resB (downO (o:Int) l)):=by
 have hsr:short l:=by unfold short;omega
 have g1:¬ (o:Int)<0:=by omega
 have g2:¬ (o:Int) > 30:=by omega
 have g3:(gshl .i64 (1:Int) (o:Int)==0)=false:=by
  rw [shl1 h1]
  have:0<2^o:=Nat.two_pow_pos o
  simp only [beq_eq_false_iff_ne,ne_eq]
  omega
 unfold F_sample_Down
 simp only [g1,g2,decide_false,cond_false,Option.bind_some]
 have:=iter_list (f:=F_sample_Down_l0) l (fun i out=>((o:Int),(l,((l.length:Int),((i:Int),(out,())))))) (downStep (o:Int) (Sum.inr ((6:Int),(([]:List Int),()))))
  (fun i out=>out.length=i) (fun out=>Sum.inl (out,()))
  (fun i h out hI=>by
   have hlt:i<1000000:=by omega
   simp only [F_sample_Down_l0,dlt h,cond_true,gidx_get h,Option.bind_some,sample_wide_eq,downStep,downB,g1,g3,decide_false,cond_false]
   cases hb:wideB l[i] with
   |true=>
    cases hb2:(Int.tmod l[i] (gshl .i64 1 (o:Int)) != 0) with
    |false=>
     simp only [cond_true,Bool.not_true,cond_false,Option.bind_some,g1,decide_false,lim_short (show out.length+1<1000000 by omega),wrap_succ hlt,Bool.and_self,Bool.not_false,hb2]
     refine ⟨fun a' ha=>?_,fun b hb=>(by cases hb)⟩
     simp only [Sum.inl.injEq] at ha
     subst ha
     exact ⟨rfl,by simp;omega⟩
    |true=>
     refine ⟨fun a' ha=>(by simp at ha),fun b hb=>?_⟩
     simp only [Bool.true_and,Bool.not_true,cond_false,Sum.inr.injEq] at hb
     subst hb
     simp [hb2]
   |false=>
    refine ⟨fun a' ha=>(by simp at ha),fun b hb=>?_⟩
    simp only [Bool.false_and,cond_false,Sum.inr.injEq] at hb
    subst hb
    rfl)
  (fun out _=>by simp [F_sample_Down_l0]) (a:=[]) rfl
 simp only [Int.natCast_zero,endE_downStep,List.nil_append] at this
 rw [this]
 cases downO (o:Int) l<;>rfl
theorem down_one {o:Nat} (h:o≤30) {x:Int} (hx:downB (o:Int) x=true):wideB (gshr .i64 x (o:Int))=true∧gshl .i64 (gshr .i64 x (o:Int)) (o:Int)=x∧wideB x=true:=by
 simp only [downB,shl1 h,Bool.and_eq_true,Bool.not_eq_true',bne_eq_false_iff_eq] at hx
 obtain ⟨hw,hm⟩:=hx
 obtain ⟨c,rfl⟩:=Int.dvd_of_tmod_eq_zero hm
 have hw':=wideB_iff.1 hw
 have e:min (Int.toNat (o:Int)) (IntKind.bits .i64)=o:=by simp only [Int.toNat_natCast,IntKind.bits];omega
 have hp:(0:Int)<2^o:=Int.pow_pos (by omega)
 have ep:((2^o:Nat):Int)=2^o:=by simp
 rw [ep] at hw' hw ⊢
 have e1:gshr .i64 (2^o*c) (o:Int)=c:=by
  unfold gshr
  rw [e]
  exact Int.mul_fdiv_cancel_left _ (by omega)
 rw [e1]
 refine ⟨wideB_iff.2 ?_,?_,hw⟩
 ·generalize (2:Int)^o=p at hp hw'
  have hs:p*c=(p-1)*c+c:=by rw [Int.sub_mul];omega
  by_cases hc:0≤c
  ·have:=Int.mul_nonneg (show 0≤p-1 by omega) hc
   omega
  ·have:=Int.mul_nonneg (show 0≤p-1 by omega) (show 0≤-c by omega)
   rw [Int.mul_neg] at this
   omega
 ·unfold gshl
  rw [e,Int.mul_comm]
  exact wrap64 (by omega)
theorem down_up {o:Nat} (h:o≤30) {l d:List Int} (hd:downO (o:Int) l=some d):d.all wideB=true∧d.length=l.length∧upO (o:Int) d=some l:=by
 unfold downO at hd
 cases ha:l.all (downB (o:Int)) with
 |false=>rw [ha] at hd;cases hd
 |true=>
  rw [ha] at hd
  simp only [cond_true,sj] at hd
  subst hd
  have hall:=List.all_eq_true.1 ha
  refine ⟨?_,by simp,?_⟩
  ·simp only [List.all_map]
   exact List.all_eq_true.2 fun x hx=>(down_one h (hall x hx)).1
  ·have e1:(l.map fun x=>gshr .i64 x (o:Int)).all (fun x=>wideB x&&wideB (gshl .i64 x (o:Int)))=true:=by
    simp only [List.all_map]
    refine List.all_eq_true.2 fun x hx=>?_
    obtain ⟨h1,h2,h3⟩:=down_one h (hall x hx)
    simp only [Function.comp,h1,h2,h3,Bool.and_self]
   unfold upO
   rw [e1]
   simp only [cond_true,sj,List.map_map]
   have em:l.map ((fun x=>gshl .i64 x (o:Int))∘fun x=>gshr .i64 x (o:Int))=l.map id:=List.map_congr_left (fun x hx=>(down_one h (hall x hx)).2.1)
   rw [em,List.map_id]
end Go.Ab
namespace Go.Ab
theorem sizes_zero {n warm:Int} (h:rowB n warm=true):(sizesI 0 n warm).length≠0:=by
 have h':=h
 simp only [rowB,Bool.and_eq_true,decide_eq_true_eq] at h'
 unfold sizesI sizesN
 have e:((n.toNat / 2^(0:Int).toNat:Nat):Int)=n:=by simp;omega
 have e2:n.toNat%2^(0:Int).toNat=0:=by simp;omega
 simp only [h,e,e2]
 simp [h'.2.2.2]
end Go.Ab
namespace Go.Ab
def riceC (k:Nat) (x:Int):Nat:=if foldN x / 2^k<32 then foldN x / 2^k+1+k else 65
theorem riceC_le {k:Nat} (hk:k≤25) (x:Int):riceC k x≤65:=by
 unfold riceC
 split
 ·rename_i h
  generalize foldN x / 2^k=q at h
  omega
 ·omega
theorem rice_Cost_eq {k:Nat} (hk:k≤25) {x:Int} (hw:wideB x=true):F_rice_Cost ((k:Int),x)=some ((riceC k x:Nat):Int):=by
 have hy:=foldN_lt hw
 have eq:gshr .u64 ((foldN x:Nat):Int) (k:Int)=((foldN x / 2^k:Nat):Int):=gshru_nat (by omega)
 have ew:IntKind.wrap .i64 ((foldN x / 2^k:Nat):Int)=((foldN x / 2^k:Nat):Int):=wrap_nat (Nat.lt_of_le_of_lt (Nat.div_le_self _ _) hy)
 have hk0:decide ((k:Int)<0)=false:=by simp
 unfold F_rice_Cost riceC
 simp only [rice_parameter_eq hk,rice_wide_eq,hw,Option.bind_some,Bool.not_true,cond_false,rice_Fold_eq hw,hk0,eq,ew]
 generalize foldN x / 2^k=q
 by_cases hq:q<32
 ·have hd:decide ((q:Int)<32)=true:=decide_eq_true (by omega)
  simp only [hd,cond_true,if_pos hq]
  rw [wrap64 (n:=(q:Int)+1) (by omega),wrap64 (by omega)]
  rfl
 ·have hd:decide ((q:Int)<32)=false:=decide_eq_false (by omega)
  simp only [hd,cond_false,if_neg hq]
  rfl
theorem sum_le {f:Int→Nat} {M:Nat} (h:∀ x,f x≤M):∀ l:List Int,(l.map f).sum≤M*l.length
 | []=>by simp
 |x::l=>by
  have:=h x
  have:=sum_le h l
  rw [List.map_cons,List.sum_cons,List.length_cons,Nat.mul_add,Nat.mul_one];omega
theorem sum_take {f:Int→Nat} {l:List Int} {i:Nat} (h:i<l.length):((l.take (i+1)).map f).sum=((l.take i).map f).sum+f l[i]:=by
 rw [List.take_succ_eq_append_getElem h,List.map_append,List.sum_append]
 simp only [List.map_cons,List.map_nil,List.sum_cons,List.sum_nil,Nat.add_zero]
theorem rice_Sum_eq {k:Nat} (hk:k≤25) {l:List Int} (hw:l.all wideB=true) (hl:l.length<10000):F_rice_Sum ((k:Int),l)=some (((l.map (riceC k)).sum:Nat):Int):=by
 have:=iter_count (f:=F_rice_Sum_l0) (fun i:Nat=>((k:Int),(((((l.take i).map (riceC k)).sum:Nat):Int),(l,((l.length:Int),((i:Int),())))))) l.length (b:=((((l.map (riceC k)).sum:Nat):Int),()))
  (fun i hi=>by
   have hc:=rice_Cost_eq hk (List.all_eq_true.1 hw _ (List.getElem_mem hi))
   have h1:=sum_le (riceC_le hk) (l.take (i+1))
   rw [sum_take hi] at h1
   rw [List.length_take] at h1
   have e:IntKind.wrap .i64 (((((l.take i).map (riceC k)).sum:Nat):Int)+((riceC k l[i]:Nat):Int))=((((l.take (i+1)).map (riceC k)).sum:Nat):Int):=by
    rw [sum_take hi,wrap64 (by omega)];omega
   simp only [F_rice_Sum_l0,dlt hi,cond_true,gidx_get hi,Option.bind_some,hc,e,wrap_succ (show i<1000000 by omega)])
  (by simp only [F_rice_Sum_l0,dge,cond_false,List.take_length])
 unfold F_rice_Sum
 have e0:(((l.take 0).map (riceC k)).sum:Nat)=0:=rfl
 simp only [e0,Int.natCast_zero] at this
 simp only [this,Option.bind_some]
theorem fits31 {x:Int} (h:wideB x=true):fitsS x ((31:Nat):Int)=true:=by
 have:=wideB_iff.1 h
 have e1:gshl .i64 (-1) (((31:Nat):Int)-1)=-1073741824:=by decide
 have e2:IntKind.wrap .i64 (gshl .i64 1 (((31:Nat):Int)-1)-1)=1073741823:=by decide
 unfold fitsS
 rw [e1,e2]
 simp only [Bool.and_eq_true,decide_eq_true_eq]
 omega
theorem growN_wide {x:Int} (h:wideB x=true):∀ (k w:Nat),w+k=32→1≤k→growN x k w≤31
 |k+1,w,hk,_=>by
  simp only [growN]
  by_cases h31:w=31
  ·subst h31
   rw [fits31 h]
   simp
  ·cases (x != 0)&&!fitsS x w with
   |true=>exact growN_wide h k (w+1) (by omega) (by omega)
   |false=>simp only [cond_false];omega
theorem width_fold_wide:∀ (l:List Int) (w:Nat),l.all wideB=true→w≤31→l.foldl (fun w x=>growN x (32-w) w) w≤31
 | [],w,_,h=>h
 |x::l,w,hl,h=>by
  simp only [List.all_cons,Bool.and_eq_true] at hl
  exact width_fold_wide l _ hl.2 (growN_wide hl.1 (32-w) w (by omega) (by omega))
theorem widthN_wide {l:List Int} (h:l.all wideB=true):widthN l≤31:=width_fold_wide l 0 h (by omega)
theorem parts_raw_eq {l:List Int} (hl:l.length<10000):F_parts_raw l=some (((5+widthN l*l.length:Nat)):Int):=by
 have hw:=widthN_le l
 have hm:widthN l*l.length≤32*l.length:=Nat.mul_le_mul_right _ hw
 unfold F_parts_raw
 simp only [sample_Width_eq (show short l by unfold short;omega),Option.bind_some]
 have e:((widthN l:Nat):Int)*((l.length:Nat):Int)=((widthN l*l.length:Nat):Int):=by simp
 rw [e,wrap64 (n:=((widthN l*l.length:Nat):Int)) (by omega),wrap64 (by omega)]
 congr 1
def partC (k:Int) (part:List Int):Nat:=5+(if k=31 then 5+widthN part*part.length else (part.map (riceC k.toNat)).sum)
def partsC:List Nat→List Int→List Int→Nat
 |z::zs,k::ks,l=>partC k (l.take z)+partsC zs ks (l.drop z)
 |_,_,_=>0
theorem wrapu_nat {q:Nat} (h:q<2147483648):IntKind.wrap .u64 (q:Int)=(q:Int):=wrapu64 (by omega)
theorem partC_le {k:Int} (hk:kB k=true) (part:List Int):partC k part≤10+65*part.length:=by
 simp only [kB,Bool.or_eq_true,Bool.and_eq_true,decide_eq_true_eq,beq_iff_eq] at hk
 unfold partC
 split
 ·have hm:widthN part*part.length≤32*part.length:=Nat.mul_le_mul_right _ (widthN_le part)
  omega
 ·have:=sum_le (riceC_le (k:=k.toNat) (by omega)) part
  omega
theorem parts_cost_exact {zn:List Nat} {p:Prt} (hk:p.2.1.length=zn.length) (hall:p.2.1.all kB=true) (hz:zn.length≤256):∀ (j i:Nat) (l:List Int) (c:Nat),i+j=zn.length→(zn.drop i).sum=l.length→l.all wideB=true→l.length≤5000→c+10*j+65*l.length<1000000→
  iter F_parts_Cost_l0 (l,((c:Int),((zn.length:Int),((i:Int),(castZ zn,(p,()))))))=some (((c+partsC (zn.drop i) (p.2.1.drop i) l:Nat):Int),())
 |0,i,l,c,hi,_,_,_,_=>by
  obtain rfl:i=zn.length:=by omega
  rw [List.drop_length]
  exact iter_done (by simp [F_parts_Cost_l0,partsC])
 |j+1,i,l,c,hi,hsum,hw,hl5,hb=>by
  have hlt:i<zn.length:=by omega
  have hki:i<p.2.1.length:=by omega
  have hkb:=List.all_eq_true.1 hall _ (List.getElem_mem hki)
  rw [sum_drop hlt] at hsum
  have h0:decide ((0:Int)≤(i:Int))=true:=by simp
  have h1:decide ((i:Int)<(((castZ zn).length:Nat):Int))=true:=by rw [castZ_length];simp;omega
  have h2:decide ((0:Int)≤((zn[i]:Nat):Int))=true:=by simp
  have h3:decide (((zn[i]:Nat):Int)≤((l.length:Nat):Int))=true:=by simp;omega
  have hpart:(l.take zn[i]).length=zn[i]:=by rw [List.length_take];omega
  have hrest:(l.drop zn[i]).length=(zn.drop (i+1)).sum:=by rw [List.length_drop];omega
  have hwp:(l.take zn[i]).all wideB=true:=List.all_eq_true.2 fun x hx=>List.all_eq_true.1 hw x (List.mem_of_mem_take hx)
  have hwr:(l.drop zn[i]).all wideB=true:=List.all_eq_true.2 fun x hx=>List.all_eq_true.1 hw x (List.mem_of_mem_drop hx)
  have hle:=partC_le hkb (l.take zn[i])
  rw [hpart] at hle
  have goal:F_parts_Cost_l0 (l,((c:Int),((zn.length:Int),((i:Int),(castZ zn,(p,()))))))=some (.inl (l.drop zn[i],(((c+partC p.2.1[i] (l.take zn[i]):Nat):Int),((zn.length:Int),(((i+1:Nat):Int),(castZ zn,(p,()))))))):=by
   by_cases h31:p.2.1[i]=31
   ·have hne:(p.2.1[i]==31)=true:=by rw [h31];rfl
    have hr:=parts_raw_eq (l:=l.take zn[i]) (by omega)
    have ec:partC p.2.1[i] (l.take zn[i])=5+(5+widthN (l.take zn[i])*(l.take zn[i]).length):=by unfold partC;rw [if_pos h31]
    rw [ec] at hle ⊢
    generalize 5+widthN (l.take zn[i])*(l.take zn[i]).length=r at hr hle ⊢
    have e1:IntKind.wrap .i64 (5+(r:Int))=5+(r:Int):=wrap64 (by omega)
    have e2:IntKind.wrap .i64 ((c:Int)+(5+(r:Int)))=((c+(5+r):Nat):Int):=by rw [wrap64 (by omega)];omega
    simp only [F_parts_Cost_l0,dlt hlt,h0,h1,castZ_get hlt,h2,h3,cond_true,Bool.and_self,Int.toNat_natCast,gidx_get hki,Option.bind_some,hne,hr,e1,e2,List.take_length,wrap_succ (show i<1000000 by omega)]
   ·have hne:(p.2.1[i]==31)=false:=by simp [h31]
    have hkb':=hkb
    simp only [kB,Bool.or_eq_true,Bool.and_eq_true,decide_eq_true_eq,beq_iff_eq] at hkb'
    obtain ⟨K,hK⟩:=Int.eq_ofNat_of_zero_le (show 0≤p.2.1[i] by omega)
    have hr:=rice_Sum_eq (k:=K) (by omega) hwp (by omega)
    have ec:partC p.2.1[i] (l.take zn[i])=5+((l.take zn[i]).map (riceC K)).sum:=by unfold partC;rw [if_neg h31,hK];rfl
    rw [←hK] at hr
    rw [ec] at hle ⊢
    generalize ((l.take zn[i]).map (riceC K)).sum=r at hr hle ⊢
    have e1:IntKind.wrap .i64 (5+(r:Int))=5+(r:Int):=wrap64 (by omega)
    have e2:IntKind.wrap .i64 ((c:Int)+(5+(r:Int)))=((c+(5+r):Nat):Int):=by rw [wrap64 (by omega)];omega
    simp only [F_parts_Cost_l0,dlt hlt,h0,h1,castZ_get hlt,h2,h3,cond_true,cond_false,Bool.and_self,Int.toNat_natCast,gidx_get hki,Option.bind_some,hne,hr,e1,e2,List.take_length,wrap_succ (show i<1000000 by omega)]
  rw [iter_step goal,parts_cost_exact hk hall hz j (i+1) (l.drop zn[i]) _ (by omega) hrest.symm hwr (by rw [List.length_drop];omega) (by rw [List.length_drop];omega)]
  rw [List.drop_eq_getElem_cons hlt,List.drop_eq_getElem_cons hki]
  simp only [partsC]
  congr 3
  omega
theorem parts_Cost_eq {p:Prt} {n warm:Int} {l:List Int} {zn:List Nat} (h:PartsOk p n warm l zn):F_parts_Cost (p,(n,(warm,l)))=some ((4+partsC zn p.2.1 l:Nat):Int):=by
 have hk:Go.Ab.short p.2.1:=by have:=h.ks;have:=h.len;unfold Go.Ab.short;omega
 have h5:=h.short
 have hz:=h.len
 have h1:=parts_cost_exact h.ks h.all h.len zn.length 0 l 4 (by omega) (by rw [List.drop_zero];exact h.sum) h.wide h.short (by omega)
 simp only [Int.natCast_zero,Int.cast_ofNat_Int,List.drop_zero] at h1
 unfold F_parts_Cost
 simp only [parts_May_eq hk,h.may,parts_right_eq h.row h.rest h.wide h.short,Option.bind_some,Bool.not_true,cond_false,parts_Sizes_eq,h.sizes,castZ_length,h1]
end Go.Ab
namespace Go.Ab
def zeroO (o:Int):Sub:=((0:Int),((0:Int),(o,((0:Int),((0:Int),(([]:List Int),(List.replicate 3 (0:Int),(([]:List Stg),(([]:List Int),(((0:Int),(([]:List Int),())),(([]:List Int),())))))))))))
theorem small_zeroO (o:Int):SmallS (zeroO o):=⟨by simp [zeroO],by simp [zeroO],by simp [zeroO],by simp [zeroO],by simp [zeroO],by simp [zeroO]⟩
end Go.Ab
namespace Go.Ab
end Go.Ab
namespace Go.Ab
end Go.Ab
namespace Go.Ab
end Go.Ab
namespace Go.Ab
end Go.Ab
namespace Go.Ab
def restG (g:List Int→Int):List Int→List Int→List Int
 | [],_=>[]
 |x::r,done=>W (x-g done)::restG g r (done++[x])
theorem restG_length (g:List Int→Int):∀ r done,(restG g r done).length=r.length
 | [],_=>rfl
 |x::r,done=>by simp [restG,restG_length g r]
theorem W_back {x g:Int} (h:wideB x=true):W (W (x-g)+g)=x:=by
 have:=W_of_wide h
 simp only [W,wrap_bmod,Int.bmod_add_bmod] at *
 rw [show x-g+g=x from by omega]
 exact this
theorem back_restG (g:List Int→Int):∀ (r done:List Int),r.all wideB=true→backO g (restG g r done) done=some (done++r)
 | [],done,_=>by simp [restG,backO]
 |x::r,done,h=>by
  rw [List.all_cons,Bool.and_eq_true] at h
  simp only [restG,backO,W_back h.1,h.1,cond_true,back_restG g r (done++[x]) h.2,List.append_assoc,List.singleton_append]
def restO (g:List Int→Int) (r done:List Int):Option (List Int):=bif (restG g r done).all wideB then some (restG g r done) else none
def stepR {β:Type} (g:List Int→Int) (bad:β) (a:List Int×List Int) (x:Int):(List Int×List Int) ⊕ β:=
 bif wideB (W (x-g a.1)) then .inl (a.1++[x],a.2++[W (x-g a.1)]) else .inr bad
theorem endE_stepR {β:Type} (g:List Int→Int) (bad:β) (fin:List Int×List Int→β):∀ (r done acc:List Int),
  endE fin (foldE (stepR g bad) r (done,acc))=match restO g r done with|some e=>fin (done++r,acc++e)|none=>bad
 | [],done,acc=>by simp [foldE,endE,restO,restG]
 |x::r,done,acc=>by
  simp only [foldE,stepR]
  cases h:wideB (W (x-g done)) with
  |true=>
   simp only [cond_true]
   rw [endE_stepR g bad fin r]
   simp only [restO,restG,List.all_cons,h,Bool.true_and]
   cases (restG g r (done++[x])).all wideB<;>simp
  |false=>simp [endE,restO,restG,h]
theorem restO_some {g:List Int→Int} {r done e:List Int} (h:restO g r done=some e):e=restG g r done∧e.all wideB=true:=by
 unfold restO at h
 cases hc:(restG g r done).all wideB with
 |true=>simp only [hc,cond_true,sj] at h;subst h;exact ⟨rfl,hc⟩
 |false=>simp [hc] at h
theorem take_snoc {l:List Int} {i:Nat} (h:i<l.length):l.take i++[l[i]]=l.take (i+1):=by rw [List.take_append_getElem h]
theorem all_take {l:List Int} {p:Int→Bool} (h:l.all p=true) (i:Nat):(l.take i).all p=true:=by
 rw [List.all_eq_true] at h ⊢
 exact fun x hx=>h x (List.mem_of_mem_take hx)
theorem all_drop {l:List Int} {p:Int→Bool} (h:l.all p=true) (i:Nat):(l.drop i).all p=true:=by
 rw [List.all_eq_true] at h ⊢
 exact fun x hx=>h x (List.mem_of_mem_drop hx)
theorem iter_rest {σ β:Type} {f:σ→Option (σ ⊕ β)} (l:List Int) (k:Nat) (hk:k≤l.length) (S:Nat→List Int→σ) (g:List Int×List Int→Int→(List Int×List Int) ⊕ β) (fin:List Int→β)
  (hstep:∀ i (h:i<l.length) acc,k≤i→acc.length=i-k→(∀ a',g (l.take i,acc) l[i]=.inl a'→f (S i acc)=some (.inl (S (i+1) a'.2))∧a'.1=l.take (i+1)∧a'.2.length=i+1-k)∧(∀ b,g (l.take i,acc) l[i]=.inr b→f (S i acc)=some (.inr b)))
  (hexit:∀ acc,acc.length=l.length-k→f (S l.length acc)=some (.inr (fin acc))):iter f (S k [])=some (endE (fun a=>fin a.2) (foldE g (l.drop k) (l.take k,[]))):=by
 have h:=iter_list (f:=f) (l.drop k) (fun i a=>S (k+i) a.2) g (fun i a=>a.1=l.take (k+i)∧a.2.length=i) (fun a=>fin a.2)
  (fun i hi a ha=>by
   obtain ⟨a1,acc⟩:=a
   obtain ⟨h1,h2⟩:=ha
   simp only at h1 h2
   subst h1
   rw [List.length_drop] at hi
   have hlt:k+i<l.length:=by omega
   have e:(l.drop k)[i]'(by rw [List.length_drop];exact hi)=l[k+i]:=by rw [List.getElem_drop]
   rw [e]
   obtain ⟨g1,g2⟩:=hstep (k+i) hlt acc (by omega) (by omega)
   refine ⟨fun a' ha'=>?_,g2⟩
   obtain ⟨q1,q2,q3⟩:=g1 a' ha'
   exact ⟨q1,q2,by omega⟩)
  (fun a ha=>by
   rw [List.length_drop] at ha ⊢
   rw [show k+(l.length-k)=l.length from by omega]
   exact hexit a.2 ha.2) (a:=(l.take k,[])) ⟨by simp,rfl⟩
 exact h
def linRO (l c:List Int) (s:Int):Option (List Int):=bif l.all wideB then restO (linG c s) (l.drop c.length) (l.take c.length) else none
theorem linear_Rest_eq {l c:List Int} {s:Int} (hl:linB c s=true) (hc:c.length≤l.length) (hr:l.length<100000):
  F_linear_Rest (l,(c,s))=some (resB (linRO l c s)):=by
 have hs:short l:=by unfold short;omega
 have hcs:short c:=by unfold short;omega
 have h0:0≤s:=by simp only [linB,Bool.and_eq_true,decide_eq_true_eq] at hl;omega
 have e1:decide (((l.length:Nat):Int)<((c.length:Nat):Int))=false:=by simp;omega
 unfold F_linear_Rest linRO
 simp only [linear_May_eq hcs,hl,Option.bind_some,Bool.not_true,cond_false,e1,linear_allWide_eq hs]
 cases hw:l.all wideB with
 |false=>rfl
 |true=>
  have e2:IntKind.wrap .i64 (((l.length:Nat):Int)-((c.length:Nat):Int))=((l.length-c.length:Nat):Int):=by rw [wrap64 (by omega)];omega
  have e3:decide ((0:Int)≤((l.length-c.length:Nat):Int))=true:=by simp
  have e4:lim (l.length-c.length)=true:=lim_short (by omega)
  simp only [Bool.not_true,cond_false,cond_true,e2,e3,Int.toNat_natCast,e4,Bool.and_self]
  have:=iter_rest (f:=F_linear_Rest_l0) l c.length hc (fun i acc=>(l,(c,(s,((i:Int),(acc,())))))) (stepR (linG c s) (.inr ((6:Int),(([]:List Int),())))) (fun acc=>.inl (acc,()))
   (fun i hi acc hki hacc=>by
    have ht:short (l.take i):=by unfold short;rw [List.length_take];omega
    have h1:decide ((0:Int)≤(i:Int))=true:=by simp
    have h2:decide ((i:Int)≤((l.length:Nat):Int))=true:=by simp;omega
    have h3:lim (acc.length+1)=true:=lim_short (by omega)
    constructor
    ·intro a' ha'
     unfold stepR at ha'
     cases hq:wideB (W (l[i]-linG c s (l.take i))) with
     |false=>simp [hq] at ha'
     |true=>
      simp only [hq,cond_true,Sum.inl.injEq] at ha'
      subst ha'
      refine ⟨?_,take_snoc hi,by simp;omega⟩
      simp only [F_linear_Rest_l0,dlt hi,cond_true,gidx_get hi,Option.bind_some,h1,h2,Bool.and_self,Int.toNat_natCast,predict_eq ht hcs h0,linear_wide_eq,hq,Bool.not_true,cond_false,h3,wrap_succ (Nat.lt_trans hi hs),List.append_eq]
    ·intro b hb
     unfold stepR at hb
     cases hq:wideB (W (l[i]-linG c s (l.take i))) with
     |true=>simp [hq] at hb
     |false=>
      simp only [hq,cond_false,Sum.inr.injEq] at hb
      subst hb
      simp only [F_linear_Rest_l0,dlt hi,cond_true,gidx_get hi,Option.bind_some,h1,h2,Bool.and_self,Int.toNat_natCast,predict_eq ht hcs h0,linear_wide_eq,hq,Bool.not_false])
   (fun acc hacc=>by simp [F_linear_Rest_l0])
  rw [this,endE_stepR]
  cases restO (linG c s) (l.drop c.length) (l.take c.length)<;>rfl
theorem lin_back {l c r:List Int} {s:Int} (h:linRO l c s=some r):linO (l.take c.length) r c s=some l∧r.all wideB=true∧r.length=l.length-c.length:=by
 unfold linRO at h
 cases hw:l.all wideB with
 |false=>simp [hw] at h
 |true=>
  simp only [hw,cond_true] at h
  obtain ⟨e,hr⟩:=restO_some h
  refine ⟨?_,hr,by rw [e,restG_length,List.length_drop]⟩
  simp only [linO,all_take hw,hr,Bool.and_self,cond_true]
  rw [e,back_restG _ _ _ (all_drop hw _),List.take_append_drop]
def longRO (l:List Int) (lag:Int) (t:List Int):Option (List Int):=bif l.all wideB then restO (longG lag t) l [] else none
theorem long_Rest_eq {l t:List Int} {lag:Int} (hl:longB lag t=true) (ht:t.length=3) (hr:l.length<100000):
  F_long_Rest (l,(lag,t))=some (resB (longRO l lag t)):=by
 have hs:short l:=by unfold short;omega
 obtain ⟨h1,h2⟩:2≤lag∧lag≤1024:=by simp only [longB,Bool.and_eq_true,decide_eq_true_eq] at hl;omega
 unfold F_long_Rest longRO
 simp only [long_May_eq ht,hl,Option.bind_some,Bool.not_true,cond_false,long_allWide_eq hs]
 cases hw:l.all wideB with
 |false=>rfl
 |true=>
  have e3:decide ((0:Int)≤((l.length:Nat):Int))=true:=by simp
  have e4:lim l.length=true:=lim_short (by omega)
  simp only [Bool.not_true,cond_false,cond_true,e3,Int.toNat_natCast,e4,Bool.and_self]
  have:=iter_rest (f:=F_long_Rest_l0) l 0 (Nat.zero_le _) (fun i acc=>(l,(lag,(l,((l.length:Int),((i:Int),(acc,(t,())))))))) (stepR (longG lag t) (.inr ((6:Int),(([]:List Int),())))) (fun acc=>.inl (acc,()))
   (fun i hi acc hki hacc=>by
    have h3:lim (acc.length+1)=true:=lim_short (by omega)
    have hp:=long_predict_at (lag:=lag) (t:=t) (Nat.le_of_lt hi) hs ht h1 h2
    constructor
    ·intro a' ha'
     unfold stepR at ha'
     cases hq:wideB (W (l[i]-longG lag t (l.take i))) with
     |false=>simp [hq] at ha'
     |true=>
      simp only [hq,cond_true,Sum.inl.injEq] at ha'
      subst ha'
      refine ⟨?_,take_snoc hi,by simp;omega⟩
      simp only [F_long_Rest_l0,dlt hi,cond_true,gidx_get hi,Option.bind_some,hp,long_wide_eq,hq,Bool.not_true,cond_false,h3,wrap_succ (Nat.lt_trans hi hs),List.append_eq]
    ·intro b hb
     unfold stepR at hb
     cases hq:wideB (W (l[i]-longG lag t (l.take i))) with
     |true=>simp [hq] at hb
     |false=>
      simp only [hq,cond_false,Sum.inr.injEq] at hb
      subst hb
      simp only [F_long_Rest_l0,dlt hi,cond_true,gidx_get hi,Option.bind_some,hp,long_wide_eq,hq,Bool.not_false])
   (fun acc hacc=>by simp [F_long_Rest_l0])
  simp only [Int.natCast_zero] at this
  rw [this,endE_stepR,List.drop_zero,List.take_zero]
  cases restO (longG lag t) l []<;>rfl
theorem long_back {l t r:List Int} {lag:Int} (h:longRO l lag t=some r):longO r lag t=some l∧r.all wideB=true∧r.length=l.length:=by
 unfold longRO at h
 cases hw:l.all wideB with
 |false=>simp [hw] at h
 |true=>
  simp only [hw,cond_true] at h
  obtain ⟨e,hr⟩:=restO_some h
  refine ⟨?_,hr,by rw [e,restG_length]⟩
  simp only [longO,hr,cond_true]
  rw [e,back_restG _ _ _ hw,List.nil_append]
end Go.Ab
namespace Go.Ab
def rsG:List Int→Fil→List Int
 | [],_=>[]
 |x::r,f=>W (x-guessF f)::rsG r (tellF f x)
theorem rsG_length:∀ r f,(rsG r f).length=r.length
 | [],_=>rfl
 |x::r,f=>by simp [rsG,rsG_length r]
def rsO:List Int→List Int→Fil→Option (List Int)
 | [],done,_=>some done
 |x::r,done,f=>bif wideB (W (x-guessF f)) then rsO r (done++[W (x-guessF f)]) (tellF f x) else none
theorem rsO_eq:∀ (r done:List Int) (f:Fil),rsO r done f=bif (rsG r f).all wideB then some (done++rsG r f) else none
 | [],done,f=>by simp [rsO,rsG]
 |x::r,done,f=>by
  simp only [rsO,rsG,List.all_cons]
  cases wideB (W (x-guessF f)) with
  |false=>rfl
  |true=>simp only [cond_true,Bool.true_and,rsO_eq r,List.append_assoc,List.singleton_append]
theorem rs_back:∀ (r z:List Int) (f:Fil),r.all wideB=true→stO (rsG r f) z f=some (z++r)
 | [],z,f,_=>by simp [rsG,stO]
 |x::r,z,f,h=>by
  rw [List.all_cons,Bool.and_eq_true] at h
  have e:W (guessF f+W (x-guessF f))=x:=by rw [Int.add_comm];exact W_back h.1
  simp only [rsG,stO,e,h.1,cond_true,rs_back r _ _ h.2,List.append_assoc,List.singleton_append]
theorem learn_rest_from {row:List Int} {a:List Stg} {b c:Int} (hs:short row):∀ (k i:Nat) (done:List Int) (f:Fil),i+k=row.length→done.length=i→FilOk f→
  iter F_learn_Rest_l0 (a,(b,(c,((row.length:Int),((i:Int),(done++row.drop i,(f,())))))))=some (match rsO (row.drop i) done f with
   |some r=>.inl (a,(b,(c,(r,()))))
   |none=>.inr ((6:Int),(([]:List Int),())))
 |0,i,done,f,h,hd,hf=>by
  obtain rfl:i=row.length:=by omega
  rw [List.drop_length,List.append_nil]
  exact iter_done (b:=Sum.inl (a,(b,(c,(done,()))))) (by simp [F_learn_Rest_l0])
 |k+1,i,done,f,h,hd,hf=>by
  have hi:i<row.length:=by omega
  have hs':row.length<1000000:=hs
  have h0:decide ((0:Int)≤(i:Int))=true:=by simp
  have hl:(done++row.drop i).length=row.length:=by simp;omega
  have h1:decide ((i:Int)<(((done++row.drop i).length:Nat):Int))=true:=by rw [hl];simp;omega
  have hst:rsO (row.drop i) done f=bif wideB (W (row[i]-guessF f)) then rsO (row.drop (i+1)) (done++[W (row[i]-guessF f)]) (tellF f row[i]) else none:=by
   rw [List.drop_eq_getElem_cons hi];rfl
  rw [hst]
  cases hw:wideB (W (row[i]-guessF f)) with
  |true=>
   rw [iter_step (s':=(a,(b,(c,((row.length:Int),(((i+1:Nat):Int),((done++[W (row[i]-guessF f)])++row.drop (i+1),(tellF f row[i],())))))))) (by
    simp only [F_learn_Rest_l0,dlt hi,h0,h1,cond_true,Bool.and_self,learn_Guess_eq hf,Option.bind_some,Int.toNat_natCast,getD_done hd hi,learn_wide_eq,hw,Bool.not_true,cond_false,learn_Tell_eq hf,set_done hd hi,wrap_succ (show i<1000000 by omega)])]
   exact learn_rest_from hs k (i+1) _ _ (by omega) (by simp;omega) (tellF_ok hf _)
  |false=>
   exact iter_done (by
    simp only [F_learn_Rest_l0,dlt hi,h0,h1,cond_true,Bool.and_self,learn_Guess_eq hf,Option.bind_some,Int.toNat_natCast,getD_done hd hi,learn_wide_eq,hw,Bool.not_false]
    rfl)
def lRO:List Stg→List Int→Option (List Int)
 | [],row=>some row
 |s::r,row=>match rsO row [] (newF s) with
  |some row'=>lRO r row'
  |none=>none
theorem rsO_some {row d:List Int} {f:Fil} (h:rsO row [] f=some d):d=rsG row f∧d.all wideB=true:=by
 rw [rsO_eq] at h
 cases hc:(rsG row f).all wideB with
 |true=>simp only [hc,cond_true,List.nil_append,sj] at h;subst h;exact ⟨rfl,hc⟩
 |false=>simp [hc] at h
theorem lO_append:∀ (a b:List Stg) (row:List Int),lO (a++b) row=match lO a row with|some r=>lO b r|none=>none
 | [],b,row=>rfl
 |s::a,b,row=>by
  simp only [List.cons_append,lO]
  split
  ·exact lO_append a b _
  ·rfl
theorem lRO_back:∀ (st:List Stg) (row d:List Int),row.all wideB=true→lRO st row=some d→lO st.reverse d=some row∧d.all wideB=true∧d.length=row.length
 | [],row,d,hw,h=>by
  simp only [lRO,sj] at h
  subst h
  exact ⟨rfl,hw,rfl⟩
 |s::st,row,d,hw,h=>by
  simp only [lRO] at h
  split at h
  ·rename_i row' hr
   obtain ⟨e,hw'⟩:=rsO_some hr
   obtain ⟨h1,h2,h3⟩:=lRO_back st row' d hw' h
   refine ⟨?_,h2,by rw [h3,e,rsG_length]⟩
   rw [List.reverse_cons,lO_append,h1]
   simp only [lO]
   rw [e,rs_back row [] _ hw,List.nil_append]
  ·cases h
theorem learn_rest_stages {st:List Stg} (hst:∀ s∈st,stageB s=true) (hl:st.length≤3):∀ (j k:Nat) (row:List Int),k+j=st.length→short row→
  iter F_learn_Rest_l1 (st,((st.length:Int),((k:Int),(row,()))))=some (match lRO (st.drop k) row with
   |some r=>.inl (r,())
   |none=>.inr ((6:Int),(([]:List Int),())))
 |0,k,row,h,hs=>by
  obtain rfl:k=st.length:=by omega
  rw [List.drop_length]
  exact iter_done (by simp [F_learn_Rest_l1,lRO])
 |j+1,k,row,h,hs=>by
  have hk:k<st.length:=by omega
  have hstage:=hst _ (List.getElem_mem hk)
  have h1:=learn_rest_from (a:=st) (b:=(st.length:Int)) (c:=(k:Int)) hs row.length 0 [] (newF st[k]) (by omega) rfl (newF_ok hstage)
  simp only [Int.natCast_zero,List.drop_zero,List.nil_append] at h1
  have hne:((0:Int) != 0)=false:=rfl
  rw [List.drop_eq_getElem_cons hk]
  simp only [lRO]
  cases hr:rsO row [] (newF st[k]) with
  |some r=>
   rw [hr] at h1
   rw [iter_step (s':=(st,((st.length:Int),(((k+1:Nat):Int),(r,()))))) (by simp only [F_learn_Rest_l1,dlt hk,cond_true,gidx_get hk,Option.bind_some,learn_New_eq hstage,hne,cond_false,h1,wrap_succ (show k<1000000 by omega)])]
   exact learn_rest_stages hst hl j (k+1) r (by omega) (by have:=(rsO_some hr).1;unfold short at hs ⊢;rw [this,rsG_length];exact hs)
  |none=>
   rw [hr] at h1
   exact iter_done (by simp only [F_learn_Rest_l1,dlt hk,cond_true,gidx_get hk,Option.bind_some,learn_New_eq hstage,hne,cond_false,h1])
def learnRO (l:List Int) (st:List Stg):Option (List Int):=bif l.all wideB then lRO st l else none
theorem learn_Rest_eq {l:List Int} {st:List Stg} (hl:learnB st=true) (hr:l.length<100000):F_learn_Rest (l,st)=some (resB (learnRO l st)):=by
 have hl':=hl
 simp only [learnB,Bool.and_eq_true,decide_eq_true_eq] at hl'
 have hss:short st:=by unfold short;omega
 have hsr:short l:=by unfold short;omega
 unfold F_learn_Rest learnRO
 simp only [learn_May_eq hss,hl,Option.bind_some,Bool.not_true,cond_false,learn_allWide_eq hsr]
 cases hw:l.all wideB with
 |false=>rfl
 |true=>
  have:=learn_rest_stages (List.all_eq_true.1 hl'.2) hl'.1 st.length 0 l (by omega) hsr
  simp only [Int.natCast_zero,List.drop_zero] at this
  simp only [Bool.not_true,cond_false,cond_true,clone_eq hsr,Option.bind_some,this]
  cases lRO st l<;>rfl
theorem learn_back {l r:List Int} {st:List Stg} (h:learnRO l st=some r):learnO r st=some l∧r.all wideB=true∧r.length=l.length:=by
 unfold learnRO at h
 cases hw:l.all wideB with
 |false=>simp [hw] at h
 |true=>
  simp only [hw,cond_true] at h
  obtain ⟨h1,h2,h3⟩:=lRO_back st l r hw h
  exact ⟨by simp only [learnO,h2,cond_true,h1],h2,h3⟩
end Go.Ab
namespace Go.Ab
theorem p64 {w:Nat} (h:w≤64):((2^w:Nat):Int) ∣ 18446744073709551616:=Int.natCast_dvd_natCast.2 (Nat.pow_dvd_pow 2 h)
theorem wrap_q (n:Int):∃ q,IntKind.wrap .i64 n=n+18446744073709551616*q:=by
 rw [wrap_bmod,Int.bmod]
 split
 ·exact ⟨-(n / 18446744073709551616),by omega⟩
 ·exact ⟨-(n / 18446744073709551616)-1,by omega⟩
theorem dvd_wrap {w:Nat} (h:w≤64) (n:Int):((2^w:Nat):Int) ∣ IntKind.wrap .i64 n↔((2^w:Nat):Int) ∣ n:=by
 obtain ⟨q,hq⟩:=wrap_q n
 rw [hq]
 exact Int.dvd_add_left (Int.dvd_mul_of_dvd_left (p64 h))
theorem dvd_of_bv {w:Nat} (h:w≤64) (a:Int):2^w ∣ (BitVec.ofInt 64 a).toNat↔((2^w:Nat):Int) ∣ a:=by
 have e:(((BitVec.ofInt 64 a).toNat:Nat):Int)=a+18446744073709551616*-(a / 18446744073709551616):=by
  rw [BitVec.toNat_ofInt]
  have:((2^64:Nat):Int)=18446744073709551616:=rfl
  rw [this]
  omega
 rw [←Int.natCast_dvd_natCast,e]
 exact Int.dvd_add_left (Int.dvd_mul_of_dvd_left (p64 h))
theorem nat_or_dvd (w x y:Nat):2^w ∣ (x ||| y)↔2^w ∣ x∧2^w ∣ y:=by
 rw [Nat.dvd_iff_mod_eq_zero,Nat.dvd_iff_mod_eq_zero,Nat.dvd_iff_mod_eq_zero,Nat.or_mod_two_pow]
 exact Nat.or_eq_zero_iff
theorem dvd_or {w:Nat} (h:w≤64) (a b:Int):((2^w:Nat):Int) ∣ bits .i64 .or a b↔((2^w:Nat):Int) ∣ a∧((2^w:Nat):Int) ∣ b:=by
 show ((2^w:Nat):Int) ∣ IntKind.wrap .i64 ((((BitVec.ofInt 64 a) ||| (BitVec.ofInt 64 b)).toNat:Nat):Int)↔_
 rw [dvd_wrap h,Int.natCast_dvd_natCast,BitVec.toNat_or,nat_or_dvd,dvd_of_bv h,dvd_of_bv h]
def orI (l:List Int) (a:Int):Int:=l.foldl (fun a x=>bits .i64 .or a x) a
theorem dvd_orI {w:Nat} (h:w≤64):∀ (l:List Int) (a:Int),((2^w:Nat):Int) ∣ orI l a↔((2^w:Nat):Int) ∣ a∧∀ x∈l,((2^w:Nat):Int) ∣ x
 | [],a=>by simp [orI]
 |x::l,a=>by
  show ((2^w:Nat):Int) ∣ orI l (bits .i64 .or a x)↔_
  rw [dvd_orI h l,dvd_or h]
  simp only [List.mem_cons,forall_eq_or_imp,and_assoc]
theorem orI_zero:∀ (l:List Int),(∀ x∈l,x=0)→orI l 0=0
 | [],_=>rfl
 |x::l,h=>by
  have hx:=h x (List.mem_cons_self)
  subst hx
  show orI l (bits .i64 .or 0 0)=0
  rw [show bits .i64 .or 0 0=0 from by decide]
  exact orI_zero l fun y hy=>h y (List.mem_cons_of_mem _ hy)
theorem orI_ne {l:List Int} (hw:l.all wideB=true) (h:∃ x∈l,x≠0):orI l 0≠0:=by
 intro e
 obtain ⟨x,hx,hne⟩:=h
 have hd:=((dvd_orI (w:=62) (by omega) l 0).1 (by rw [e];exact Int.dvd_zero _)).2 x hx
 have hwx:=wideB_iff.1 (List.all_eq_true.1 hw x hx)
 have e62:((2^62:Nat):Int)=4611686018427387904:=rfl
 rw [e62] at hd
 omega
def WasteIs (l:List Int) (w:Nat):Prop:=
 ((∀ x∈l,x=0)∧w=0)∨((∃ x∈l,x≠0)∧w≤30∧(∀ x∈l,((2^w:Nat):Int) ∣ x)∧(w=30∨∃ x∈l,¬ ((2^(w+1):Nat):Int) ∣ x))
theorem pow_dvd_le {v w:Nat} (h:v≤w) {x:Int} (hx:((2^w:Nat):Int) ∣ x):((2^v:Nat):Int) ∣ x:=
 Int.dvd_trans (Int.natCast_dvd_natCast.2 (Nat.pow_dvd_pow 2 h)) hx
theorem WasteIs.unique {l:List Int} {v w:Nat} (hv:WasteIs l v) (hw:WasteIs l w):v=w:=by
 have key:∀ {v w:Nat},v≤30→w≤30→(∀ x∈l,((2^w:Nat):Int) ∣ x)→(v=30∨∃ x∈l,¬ ((2^(v+1):Nat):Int) ∣ x)→w≤v:=by
  intro v w h30 h30' h1 h2
  rcases h2 with h2|⟨x,hx,h2⟩
  ·omega
  ·exact Nat.le_of_not_lt fun hlt=>h2 (pow_dvd_le (show v+1≤w by omega) (h1 x hx))
 rcases hv with ⟨h0,hv⟩|⟨⟨x,hx,hne⟩,hv1,hv2,hv3⟩
 ·rcases hw with ⟨-,hw⟩|⟨⟨x,hx,hne⟩,-⟩
  ·omega
  ·exact absurd (h0 x hx) hne
 ·rcases hw with ⟨h0,-⟩|⟨-,hw1,hw2,hw3⟩
  ·exact absurd (h0 x hx) hne
  ·exact Nat.le_antisymm (key hw1 hv1 hv2 hw3) (key hv1 hw1 hw2 hv3)
theorem odd_part:∀ (n N:Nat),N≤n→0<N→∃ k m,N=2^k*(2*m+1)
 |0,N,h,h0=>absurd h0 (by omega)
 |n+1,N,h,h0=>by
  by_cases he:N%2=0
  ·obtain ⟨k,m,e⟩:=odd_part n (N / 2) (by omega) (by omega)
   refine ⟨k+1,m,?_⟩
   rw [Nat.pow_succ,Nat.mul_comm (2^k) 2,Nat.mul_assoc,←e]
   omega
  ·exact ⟨0,N / 2,by omega⟩
theorem low_bit {k m:Nat} (h:2^k*(2*m+1)<2^64):(2^k*(2*m+1)) &&& (2^64-2^k*(2*m+1))=2^k:=by
 have hp:1≤2^k:=Nat.one_le_two_pow
 have hk:k<64:=by
  refine Nat.lt_of_not_le fun hge=>?_
  have h1:2^64≤2^k:=Nat.pow_le_pow_right (by decide) hge
  have h2:2^k*1≤2^k*(2*m+1):=Nat.mul_le_mul_left _ (by omega)
  omega
 have e:2^k*(2*m+1)=(2^k*(2*m)+(2^k-1))+1:=by rw [Nat.mul_add];omega
 have hx:2^k*(2*m)+(2^k-1)<2^64:=by omega
 refine Nat.eq_of_testBit_eq fun i=>?_
 have e2:(2^64-2^k*(2*m+1)).testBit i=(decide (i<64)&&!(2^k*(2*m)+(2^k-1)).testBit i):=by
  rw [e];exact Nat.testBit_two_pow_sub_succ hx i
 have e1:=Nat.testBit_two_pow_mul_add (2*m+1) (b:=0) (i:=k) (by omega) i
 rw [Nat.add_zero] at e1
 have e3:=Nat.testBit_two_pow_mul_add (2*m) (b:=2^k-1) (i:=k) (by omega) i
 rw [Nat.testBit_and,e2,e1,e3,Nat.testBit_two_pow]
 by_cases h1:i<k
 ·have:¬ k=i:=by omega
  simp [h1,this]
 ·by_cases h2:k=i
  ·subst h2
   simp [hk,Nat.testBit_zero]
  ·obtain ⟨j,rfl⟩:∃ j,i=k+(j+1):=⟨i-k-1,by omega⟩
   have s1:k+(j+1)-k=j+1:=by omega
   have s2:(2*m+1) / 2=m:=by omega
   have s3:2*m / 2=m:=by omega
   simp only [h1,h2,if_false,s1,Nat.testBit_succ,s2,s3,decide_false]
   cases m.testBit j<;>simp
theorem glob0_at:∀ k:Nat,k<64→glob0[(2^k*285870213051353865)%18446744073709551616 / 288230376151711744]?=some (k:Int):=by
 have h:∀ k:Fin 64,glob0[(2^k.val*285870213051353865)%18446744073709551616 / 288230376151711744]?=some (k.val:Int):=by decide
 exact fun k hk=>h ⟨k,hk⟩
theorem not_dvd_odd {k m:Nat}:¬ 2^(k+1) ∣ 2^k*(2*m+1):=by
 rintro ⟨c,hc⟩
 rw [Nat.pow_succ,Nat.mul_assoc] at hc
 have:=Nat.eq_of_mul_eq_mul_left (Nat.two_pow_pos k) hc
 omega
theorem trail_eq {N:Nat} (h0:0<N) (h:N<18446744073709551616):∃ k:Nat,F_math_bits_TrailingZeros64 (N:Int)=some (k:Int)∧2^k ∣ N∧¬ 2^(k+1) ∣ N:=by
 obtain ⟨k,m,e⟩:=odd_part N N (Nat.le_refl _) h0
 have h2:2^k≤N:=by rw [e];exact Nat.le_mul_of_pos_right _ (by omega)
 have hk:k<64:=by
  refine Nat.lt_of_not_le fun hge=>?_
  have h1:2^64≤2^k:=Nat.pow_le_pow_right (by decide) hge
  omega
 refine ⟨k,?_,⟨_,e⟩,e▸not_dvd_odd⟩
 have hb:bits .u64 .and (N:Int) (IntKind.wrap .u64 (0-(N:Int)))=((2^k:Nat):Int):=by
  have e1:IntKind.wrap .u64 (0-(N:Int))=((18446744073709551616-N:Nat):Int):=by
   have:IntKind.wrap .u64 (0-(N:Int))=(0-(N:Int))%18446744073709551616:=by simp [IntKind.wrap,IntKind.bits,IntKind.signed]
   rw [this];omega
  rw [e1]
  show IntKind.wrap .u64 (((BitVec.ofInt 64 (N:Int)) &&& (BitVec.ofInt 64 ((18446744073709551616-N:Nat):Int))).toNat:Int)=_
  rw [BitVec.ofInt_natCast,BitVec.ofInt_natCast,BitVec.toNat_and,BitVec.toNat_ofNat,BitVec.toNat_ofNat,Nat.mod_eq_of_lt h,Nat.mod_eq_of_lt (by omega)]
  have:=low_bit (k:=k) (m:=m) (by rw [←e];exact h)
  rw [←e] at this
  rw [show (18446744073709551616:Nat)=2^64 from rfl,this]
  exact wrapu64 (by omega)
 have hx:((N:Int)==0)=false:=by simp only [beq_eq_false_iff_ne,ne_eq];omega
 unfold F_math_bits_TrailingZeros64
 rw [hb,hx,cond_false]
 have e2:IntKind.wrap .u64 (((2^k:Nat):Int)*285870213051353865)=(((2^k*285870213051353865)%18446744073709551616:Nat):Int):=by
  have:IntKind.wrap .u64 (((2^k:Nat):Int)*285870213051353865)=(((2^k:Nat):Int)*285870213051353865)%18446744073709551616:=by simp [IntKind.wrap,IntKind.bits,IntKind.signed]
  rw [this];omega
 have hg:=glob0_at k hk
 generalize (2^k*285870213051353865)%18446744073709551616=M at e2 hg
 have e3:=gshru_nat (N:=M) (o:=58) (by omega)
 rw [e2,show (58:Int)=((58:Nat):Int) from rfl,e3,show 2^58=288230376151711744 from rfl]
 generalize M / 288230376151711744=J at hg
 obtain ⟨hi,hv⟩:=List.getElem?_eq_some_iff.1 hg
 rw [gidx_get hi,hv]
 simp only [Option.bind_some,wrap64 (show -9223372036854775808≤(k:Int)∧(k:Int)≤9223372036854775807 by omega)]
theorem or_loop {l:List Int} (hs:short l):∀ (k i:Nat) (a:Int),i+k=l.length→iter F_sample_Wasted_l0 (a,(l,((l.length:Int),((i:Int),()))))=some (orI (l.drop i) a,())
 |0,i,a,h=>by
  obtain rfl:i=l.length:=by omega
  rw [List.drop_length]
  exact iter_done (by simp [F_sample_Wasted_l0,orI])
 |k+1,i,a,h=>by
  have hi:i<l.length:=by omega
  have hs':l.length<1000000:=hs
  rw [List.drop_eq_getElem_cons hi,iter_step (s':=(bits .i64 .or a l[i],(l,((l.length:Int),(((i+1:Nat):Int),()))))) (by
   simp only [F_sample_Wasted_l0,dlt hi,cond_true,gidx_get hi,Option.bind_some,wrap_succ (show i<1000000 by omega)])]
  exact or_loop hs k (i+1) _ (by omega)
theorem some_of_orI {l:List Int} {r:Nat} (hr:r≤30) (h:r=30∨¬ ((2^(r+1):Nat):Int) ∣ orI l 0):r=30∨∃ x∈l,¬ ((2^(r+1):Nat):Int) ∣ x:=by
 rcases h with h|h
 ·exact .inl h
 ·refine .inr (Classical.byContradiction fun hc=>h ((dvd_orI (by omega) l 0).2 ⟨Int.dvd_zero _,fun x hx=>Classical.byContradiction fun hn=>hc ⟨x,hx,hn⟩⟩))
theorem sample_Wasted_eq {l:List Int} (hs:short l) (hw:l.all wideB=true):∃ w:Nat,F_sample_Wasted l=some (w:Int)∧w≤30∧WasteIs l w:=by
 have h1:=or_loop hs l.length 0 0 (by omega)
 simp only [Int.natCast_zero,List.drop_zero] at h1
 unfold F_sample_Wasted
 simp only [h1,Option.bind_some]
 by_cases hz:∀ x∈l,x=0
 ·have e:=orI_zero l hz
  exact ⟨0,by rw [e];rfl,by omega,.inl ⟨hz,rfl⟩⟩
 ·have hx:∃ x∈l,x≠0:=Classical.byContradiction fun hc=>hz fun x hx=>Classical.byContradiction fun hn=>hc ⟨x,hx,hn⟩
  have hne:=orI_ne hw hx
  have he:(orI l 0==0)=false:=by simpa using hne
  obtain ⟨q,hq⟩:∃ q,IntKind.wrap .u64 (orI l 0)=orI l 0+18446744073709551616*q:=⟨-(orI l 0 / 18446744073709551616),by
   have:IntKind.wrap .u64 (orI l 0)=orI l 0%18446744073709551616:=by simp [IntKind.wrap,IntKind.bits,IntKind.signed]
   rw [this];omega⟩
  obtain ⟨r1,r2⟩:=wrapu_range (orI l 0)
  obtain ⟨N,hN⟩:=Int.eq_ofNat_of_zero_le r1
  have hdN:∀ v,v≤64→(2^v ∣ N↔((2^v:Nat):Int) ∣ orI l 0):=fun v hv=>by
   rw [←Int.natCast_dvd_natCast,←hN,hq]
   exact Int.dvd_add_left (Int.dvd_mul_of_dvd_left (p64 hv))
  have hN0:0<N:=by
   refine Nat.pos_of_ne_zero fun e0=>?_
   obtain ⟨x,hxl,hx0⟩:=hx
   have hd:=((dvd_orI (w:=62) (by omega) l 0).1 ((hdN 62 (by omega)).1 (by rw [e0];exact Nat.dvd_zero _))).2 x hxl
   have hwx:=wideB_iff.1 (List.all_eq_true.1 hw x hxl)
   rw [show ((2^62:Nat):Int)=4611686018427387904 from rfl] at hd
   omega
  obtain ⟨k,hk,hk1,hk2⟩:=trail_eq hN0 (by omega)
  have hk64:k≤63:=by
   refine Nat.le_of_not_lt fun hgt=>?_
   have h1:2^64≤2^k:=Nat.pow_le_pow_right (by decide) (by omega)
   have:=Nat.le_of_dvd hN0 hk1
   omega
  simp only [he,cond_false,hN,hk,Option.bind_some]
  have em:imin (k:Int) 30=((min k 30:Nat):Int):=by rw [imin_eq];omega
  refine ⟨min k 30,by rw [em],by omega,.inr ⟨hx,by omega,?_,?_⟩⟩
  ·exact ((dvd_orI (by omega) l 0).1 ((hdN _ (by omega)).1 (Nat.dvd_trans (Nat.pow_dvd_pow 2 (by omega)) hk1))).2
  ·refine some_of_orI (by omega) ?_
   by_cases hk30:30≤k
   ·exact .inl (by omega)
   ·have:min k 30=k:=by omega
    rw [this]
    exact .inr fun hh=>hk2 ((hdN _ (by omega)).2 hh)
theorem down_of {l:List Int} {w:Nat} (hw30:w≤30) (hw:l.all wideB=true) (h:WasteIs l w):downO (w:Int) l=some (l.map fun x=>gshr .i64 x (w:Int)):=by
 have hd:∀ x∈l,((2^w:Nat):Int) ∣ x:=by
  rcases h with ⟨h,-⟩|⟨-,-,h,-⟩
  ·exact fun x hx=>by rw [h x hx];exact Int.dvd_zero _
  ·exact h
 have:l.all (downB (w:Int))=true:=by
  rw [List.all_eq_true]
  intro x hx
  obtain ⟨c,hc⟩:=hd x hx
  have hm:Int.tmod x (gshl .i64 1 (w:Int))=0:=by rw [shl1 hw30,hc];exact Int.mul_tmod_right _ _
  simp only [downB,List.all_eq_true.1 hw x hx,hm,Bool.true_and]
  rfl
 simp only [downO,this,cond_true]
end Go.Ab
namespace Go.Ab
def sumC (k:Nat) (l:List Int):Nat:=(l.map (riceC k)).sum
def rbN (l:List Int):Nat→Nat
 |0=>0
 |i+1=>if sumC (i+1) l<sumC (rbN l i) l then i+1 else rbN l i
theorem rbN_le (l:List Int):∀ i,rbN l i≤i
 |0=>Nat.le_refl _
 |i+1=>by
  have:=rbN_le l i
  simp only [rbN]
  split<;>omega
theorem rice_Sum_C {k:Nat} (hk:k≤25) {l:List Int} (hw:l.all wideB=true) (hl:l.length<10000):F_rice_Sum ((k:Int),l)=some ((sumC k l:Nat):Int):=rice_Sum_eq hk hw hl
theorem dnat {a b:Nat} (h:a<b):decide ((a:Int)<(b:Int))=true:=decide_eq_true (by omega)
theorem dnat' {a b:Nat} (h:¬ a<b):decide ((a:Int)<(b:Int))=false:=decide_eq_false (by omega)
theorem rice_Best_eq {l:List Int} (hw:l.all wideB=true) (hl:l.length<10000):F_rice_Best l=some ((rbN l 25:Nat):Int):=by
 have:=iter_count (f:=F_rice_Best_l0) (fun i:Nat=>(l,(((rbN l i:Nat):Int),(((sumC (rbN l i) l:Nat):Int),(((i+1:Nat):Int),()))))) 25 (b:=(((rbN l 25:Nat):Int),()))
  (fun i hi=>by
   have d0:decide (((i+1:Nat):Int)≤25)=true:=decide_eq_true (by omega)
   have w1:IntKind.wrap .i64 (((i+1:Nat):Int)+1)=((i+1+1:Nat):Int):=wrap_succ (by omega)
   have hs:=rice_Sum_C (k:=i+1) (by omega) hw hl
   by_cases hlt:sumC (i+1) l<sumC (rbN l i) l
   ·simp only [F_rice_Best_l0,d0,cond_true,hs,Option.bind_some,w1,dnat hlt,rbN,hlt,if_true]
   ·simp only [F_rice_Best_l0,d0,cond_true,cond_false,hs,Option.bind_some,w1,dnat' hlt,rbN,hlt,if_false])
  (by
   have d0:decide (((25+1:Nat):Int)≤25)=false:=decide_eq_false (by omega)
   simp only [F_rice_Best_l0,d0,cond_false])
 have h0:=rice_Sum_C (k:=0) (by omega) hw hl
 have e1:((0+1:Nat):Int)=1:=rfl
 have e0:rbN l 0=0:=rfl
 simp only [Int.natCast_zero] at h0
 simp only [e0,Int.natCast_zero,e1] at this
 unfold F_rice_Best
 simp only [h0,Option.bind_some,this]
def chooseI (l:List Int):Int:=if 5+widthN l*l.length<sumC (rbN l 25) l then 31 else ((rbN l 25:Nat):Int)
theorem chooseI_kB (l:List Int):kB (chooseI l)=true:=by
 have:=rbN_le l 25
 unfold chooseI
 split
 ·rfl
 ·simp only [kB,Bool.or_eq_true,Bool.and_eq_true,decide_eq_true_eq];omega
theorem parts_choose_eq {l:List Int} (hw:l.all wideB=true) (hl:l.length<10000):F_parts_choose l=some (chooseI l):=by
 have h1:=rbN_le l 25
 have hs:=rice_Sum_C (k:=rbN l 25) h1 hw hl
 unfold F_parts_choose chooseI
 by_cases hlt:5+widthN l*l.length<sumC (rbN l 25) l
 ·simp only [rice_Best_eq hw hl,parts_raw_eq hl,hs,Option.bind_some,dnat hlt,cond_true,hlt,if_true]
 ·simp only [rice_Best_eq hw hl,parts_raw_eq hl,hs,Option.bind_some,dnat' hlt,cond_false,hlt,if_false]
def chooseL:List Nat→List Int→List Int
 | [],_=>[]
 |z::zs,l=>chooseI (l.take z)::chooseL zs (l.drop z)
theorem chooseL_length:∀ zs l,(chooseL zs l).length=zs.length
 | [],_=>rfl
 |z::zs,l=>by simp [chooseL,chooseL_length zs]
theorem chooseL_kB:∀ zs l,(chooseL zs l).all kB=true
 | [],_=>rfl
 |z::zs,l=>by simp [chooseL,chooseL_kB zs,chooseI_kB]
theorem best_inner_eq {zn:List Nat} {n warm most least order:Int} {L:List Int} {a b:Prt} (hz:zn.length≤256):∀ (j i:Nat) (rest ks:List Int),i+j=zn.length→(zn.drop i).sum=rest.length→rest.all wideB=true→rest.length≤5000→ks.length=i→
  iter F_parts_Best_l0 (n,(warm,(most,(L,(least,(order,(rest,(((zn.length:Nat):Int),((i:Int),(castZ zn,(a,(b,((order,(ks,())),())))))))))))))=some (n,(warm,(most,(L,(least,(order,(a,(b,((order,(ks++chooseL (zn.drop i) rest,())),())))))))))
 |0,i,rest,ks,h,_,_,_,_=>by
  obtain rfl:i=zn.length:=by omega
  rw [List.drop_length]
  exact iter_done (by simp only [F_parts_Best_l0,dge,cond_false,chooseL,List.append_nil])
 |j+1,i,rest,ks,h,hr,hwr,hr5,hki=>by
  have hlt:i<zn.length:=by omega
  rw [sum_drop hlt] at hr
  have h0:decide ((0:Int)≤(i:Int))=true:=by simp
  have h1:decide ((i:Int)<(((castZ zn).length:Nat):Int))=true:=by rw [castZ_length];simp;omega
  have h2:decide ((0:Int)≤((zn[i]:Nat):Int))=true:=by simp
  have h3:decide (((zn[i]:Nat):Int)≤((rest.length:Nat):Int))=true:=by simp;omega
  have hk:=parts_choose_eq (all_take hwr zn[i]) (by rw [List.length_take];omega)
  have hlim:lim (ks.length+1)=true:=lim_short (by omega)
  rw [List.drop_eq_getElem_cons hlt,iter_step (s':=(n,(warm,(most,(L,(least,(order,(rest.drop zn[i],(((zn.length:Nat):Int),(((i+1:Nat):Int),(castZ zn,(a,(b,((order,(ks++[chooseI (rest.take zn[i])],())),())))))))))))))) (by
   simp only [F_parts_Best_l0,dlt hlt,h0,h1,castZ_get hlt,h2,h3,cond_true,Bool.and_self,Int.toNat_natCast,hk,Option.bind_some,hlim,List.take_length,wrap_succ (show i<1000000 by omega),List.append_eq])]
  rw [best_inner_eq hz j (i+1) _ _ (by omega) (by rw [List.length_drop];omega) (all_drop hwr _) (by rw [List.length_drop];omega) (by simp;omega)]
  simp only [chooseL,List.append_assoc,List.singleton_append]
def zsN (o n warm:Int):List Nat:=(sizesI o n warm).map Int.toNat
def candP (o n warm:Int) (l:List Int):Prt:=(o,(chooseL (zsN o n warm) l,()))
def candC (o n warm:Int) (l:List Int):Nat:=4+partsC (zsN o n warm) (chooseL (zsN o n warm) l) l
def bestPC (n warm:Int) (l:List Int):Nat→Prt×Nat
 |0=>((0,([],())),0)
 |i+1=>if (sizesI (i:Int) n warm).length=0 then bestPC n warm l i else
   if (bestPC n warm l i).2=0∨candC (i:Int) n warm l<(bestPC n warm l i).2 then (candP (i:Int) n warm l,candC (i:Int) n warm l) else bestPC n warm l i
def bestP (n warm:Int) (l:List Int):Prt:=(bestPC n warm l 7).1
theorem cand_ok {o:Nat} {n warm:Int} {l:List Int} (hs:(sizesI (o:Int) n warm).length≠0) (hl:(l.length:Int)=n-warm) (hw:l.all wideB=true) (h5:l.length≤5000):
  ∃ zn,sizesI (o:Int) n warm=castZ zn∧zsN (o:Int) n warm=zn∧zn.length≤256∧zn.sum=l.length∧partsB (candP (o:Int) n warm l) n warm=true∧PartsOk (candP (o:Int) n warm l) n warm l zn:=by
 obtain ⟨zn,g1,g2,g3⟩:=sizes_facts hs
 have ez:zsN (o:Int) n warm=zn:=by unfold zsN;rw [g1,castZ_toNat]
 have hp:partsB (candP (o:Int) n warm l) n warm=true:=by
  simp only [partsB,candP,Bool.and_eq_true,Bool.not_eq_true',beq_eq_false_iff_ne,ne_eq,beq_iff_eq]
  exact ⟨hs,by rw [g1,castZ_length,chooseL_length,ez],chooseL_kB _ _⟩
 obtain ⟨zn',hok⟩:=PartsOk.of hp hl hw h5
 have:zn'=zn:=by
  have h1:=hok.sizes
  simp only [candP] at h1
  rw [g1] at h1
  rw [←castZ_toNat zn,h1,castZ_toNat]
 subst this
 exact ⟨_,g1,ez,g3,by omega,hp,hok⟩
theorem bestPC_inv {n warm:Int} {l:List Int} (hr:rowB n warm=true) (hl:(l.length:Int)=n-warm) (hw:l.all wideB=true) (h5:l.length≤5000):∀ i,1≤i→(bestPC n warm l i).2≠0∧partsB (bestPC n warm l i).1 n warm=true
 |0,h=>absurd h (by omega)
 |i+1,_=>by
  by_cases hs:(sizesI (i:Int) n warm).length=0
  ·simp only [bestPC,hs,if_true]
   cases i with
   |zero=>exact absurd hs (sizes_zero hr)
   |succ i=>exact bestPC_inv hr hl hw h5 (i+1) (by omega)
  ·obtain ⟨zn,-,-,-,-,hp,-⟩:=cand_ok hs hl hw h5
   simp only [bestPC,hs,if_false]
   split
   ·exact ⟨by simp only [candC];omega,hp⟩
   ·rename_i hne
    cases i with
    |zero=>exact absurd (Or.inl rfl) hne
    |succ i=>exact bestPC_inv hr hl hw h5 (i+1) (by omega)
theorem bestP_ok {n warm:Int} {l:List Int} (hr:rowB n warm=true) (hl:(l.length:Int)=n-warm) (hw:l.all wideB=true) (h5:l.length≤5000):partsB (bestP n warm l) n warm=true:=
 (bestPC_inv hr hl hw h5 7 (by omega)).2
theorem parts_Best_eq {n warm:Int} {l:List Int} (hr:rowB n warm=true) (hl:(l.length:Int)=n-warm) (hw:l.all wideB=true) (h5:l.length≤5000):
  F_parts_Best (n,(warm,((6:Int),l)))=some (bestP n warm l,0):=by
 have:=iter_count (f:=F_parts_Best_l1) (fun i:Nat=>(n,(warm,((6:Int),(l,((((bestPC n warm l i).2:Nat):Int),((i:Int),(((0:Int),(([]:List Int),())),((bestPC n warm l i).1,()))))))))) 7 (b:=(((0:Int),(([]:List Int),())),(bestP n warm l,())))
  (fun i hi=>by
   have d0:decide ((i:Int)≤imin (imax 6 0) 8)=true:=decide_eq_true (by have:imin (imax 6 0) 8=6:=rfl;omega)
   have w1:IntKind.wrap .i64 ((i:Int)+1)=((i+1:Nat):Int):=wrap_succ (by omega)
   by_cases hs:(sizesI (i:Int) n warm).length=0
   ·have hb:((((sizesI (i:Int) n warm).length:Nat):Int)==0)=true:=by rw [hs];rfl
    have eb:bestPC n warm l (i+1)=bestPC n warm l i:=by simp only [bestPC,hs,if_true]
    simp only [F_parts_Best_l1,d0,cond_true,parts_Sizes_eq,Option.bind_some,hb,w1,eb]
   ·have hb:((((sizesI (i:Int) n warm).length:Nat):Int)==0)=false:=by simp only [beq_eq_false_iff_ne,ne_eq];omega
    obtain ⟨zn,g1,ez,g3,g4,-,hok⟩:=cand_ok hs hl hw h5
    have g5:=best_inner_eq (n:=n) (warm:=warm) (most:=6) (least:=(((bestPC n warm l i).2:Nat):Int)) (order:=(i:Int)) (L:=l) (a:=((0:Int),(([]:List Int),()))) (b:=(bestPC n warm l i).1) g3 zn.length 0 l [] (by omega) (by rw [List.drop_zero];exact g4) hw h5 rfl
    simp only [Int.natCast_zero,List.drop_zero,List.nil_append] at g5
    have hc:=parts_Cost_eq hok
    simp only [candP,ez] at hc
    have hb':(((zn.length:Nat):Int)==0)=false:=by rw [←castZ_length zn,←g1];exact hb
    have el:(((castZ zn).length:Nat):Int)=((zn.length:Nat):Int):=by rw [castZ_length]
    have eP:candP (i:Int) n warm l=((i:Int),(chooseL zn l,())):=by simp only [candP,ez]
    have eC:candC (i:Int) n warm l=4+partsC zn (chooseL zn l) l:=by simp only [candC,ez]
    by_cases hz:(bestPC n warm l i).2=0
    ·have hz':((((bestPC n warm l i).2:Nat):Int)==0)=true:=by rw [hz];rfl
     have eb:bestPC n warm l (i+1)=(((i:Int),(chooseL zn l,())),4+partsC zn (chooseL zn l) l):=by simp only [bestPC,hs,if_false,hz,true_or,if_true,eP,eC]
     simp only [F_parts_Best_l1,d0,cond_true,parts_Sizes_eq,Option.bind_some,g1,el,hb',cond_false,g5,hc,w1,eb,hz']
    ·have hz':((((bestPC n warm l i).2:Nat):Int)==0)=false:=by simp only [beq_eq_false_iff_ne,ne_eq];omega
     by_cases hlt:4+partsC zn (chooseL zn l) l<(bestPC n warm l i).2
     ·have eb:bestPC n warm l (i+1)=(((i:Int),(chooseL zn l,())),4+partsC zn (chooseL zn l) l):=by simp only [bestPC,hs,if_false,hz,false_or,eP,eC,hlt,if_true]
      simp only [F_parts_Best_l1,d0,cond_true,parts_Sizes_eq,Option.bind_some,g1,el,hb',cond_false,g5,hc,w1,eb,hz',dnat hlt]
     ·have eb:bestPC n warm l (i+1)=bestPC n warm l i:=by simp only [bestPC,hs,if_false,hz,false_or,eP,eC,hlt]
      simp only [F_parts_Best_l1,d0,cond_true,parts_Sizes_eq,Option.bind_some,g1,el,hb',cond_false,g5,hc,w1,eb,hz',dnat' hlt])
  (by
   have d0:decide (((7:Nat):Int)≤imin (imax 6 0) 8)=false:=decide_eq_false (by have:imin (imax 6 0) 8=6:=rfl;omega)
   simp only [F_parts_Best_l1,d0,cond_false,bestP])
 simp only [bestPC,Int.natCast_zero] at this
 unfold F_parts_Best
 simp only [parts_right_eq hr hl hw h5,Option.bind_some,Bool.not_true,cond_false,this]
end Go.Ab
namespace Go.Ab
def chosenP (k:Int) (s:Sub):Sub:=
 (k,((0:Int),((if k=2 then s.2.2.1 else 0),((if k=3∨k=4 then s.2.2.2.1 else 0),((if k=4 then s.2.2.2.2.1 else 0),((if k=3∨k=4 then s.2.2.2.2.2.1 else []),
  ((if k=4 then s.2.2.2.2.2.2.1 else List.replicate 3 (0:Int)),((if k=5 then s.2.2.2.2.2.2.2.1 else []),(([]:List Int),(((0:Int),(([]:List Int),())),(([]:List Int),())))))))))))
def z0:Prt:=((0:Int),(([]:List Int),()))
def fillP (s:Sub) (w:Nat) (wm:List Int) (p:Prt) (r:List Int):Sub:=
 (s.1,((w:Int),(s.2.2.1,(s.2.2.2.1,(s.2.2.2.2.1,(s.2.2.2.2.2.1,(s.2.2.2.2.2.2.1,(s.2.2.2.2.2.2.2.1,(wm,(p,(r,())))))))))))
theorem chosen_eq {s:Sub} (h:SmallS s) (k:Int):F_sub_chosen (k,s)=some (chosenP k s):=by
 have hc:short s.2.2.2.2.2.1:=by have:=h.coefs;unfold short;omega
 have hst:short s.2.2.2.2.2.2.2.1:=by have:=h.stages;unfold short;omega
 obtain ⟨k',w,o,sh,lag,c,t,st,wm,p,r,u⟩:=s
 simp only at hc hst
 unfold F_sub_chosen chosenP
 by_cases k2:k=2
 ·subst k2;rfl
 by_cases k4:k=4
 ·subst k4;simp [clone_v_eq hc]
 by_cases k3:k=3
 ·subst k3;simp [clone_v_eq hc]
 by_cases k5:k=5
 ·subst k5;simp [cloneS_v_eq hst]
 have e2:(k==2)=false:=by simp [k2]
 have e3:(k==3)=false:=by simp [k3]
 have e4:(k==4)=false:=by simp [k4]
 have e5:(k==5)=false:=by simp [k5]
 simp [e2,e3,e4,e5,k2,k3,k4,k5]
theorem chosen_small {s:Sub} (h:SmallS s) (k:Int):SmallS (chosenP k s):=by
 have h1:=h.coefs
 have h2:=h.taps
 have h3:=h.stages
 refine ⟨?_,?_,?_,by simp [chosenP],by simp [chosenP],by simp [chosenP]⟩<;>simp only [chosenP]<;>split<;>first|omega|simp
theorem fit_chosen {s:Sub} {k n:Int}:fitP (chosenP k s).1 (chosenP k s) n↔fitP k s n:=by
 unfold fitP chosenP
 constructor
 ·rintro (h|h|⟨h,h1⟩|⟨h,h1⟩|⟨h,h1⟩|⟨h,h1⟩)
  ·exact .inl h
  ·exact .inr (.inl h)
  ·simp only at h;subst h;simpa using h1
  ·simp only at h;subst h;simpa using h1
  ·simp only at h;subst h;simpa using h1
  ·simp only at h;subst h;simpa using h1
 ·rintro (h|h|⟨h,h1⟩|⟨h,h1⟩|⟨h,h1⟩|⟨h,h1⟩)
  ·exact .inl h
  ·exact .inr (.inl h)
  ·subst h;simpa using h1
  ·subst h;simpa using h1
  ·subst h;simpa using h1
  ·subst h;simpa using h1
open Classical in
def wasN (l:List Int):Nat:=if h:∃ w,WasteIs l w then h.choose else 0
theorem wasN_eq {l:List Int} {w:Nat} (h:WasteIs l w):wasN l=w:=by
 unfold wasN
 rw [dif_pos ⟨w,h⟩]
 exact (Classical.choose_spec (⟨w,h⟩:∃ w,WasteIs l w)).unique h
def downN (l:List Int):List Int:=l.map fun x=>gshr .i64 x (wasN l:Int)
theorem waste_facts {l:List Int} (hs:short l) (hw:l.all wideB=true):F_sample_Wasted l=some ((wasN l:Nat):Int)∧wasN l≤30∧WasteIs l (wasN l):=by
 obtain ⟨w,h1,h3,h4⟩:=sample_Wasted_eq hs hw
 rw [wasN_eq h4]
 exact ⟨h1,h3,h4⟩
theorem down_facts {l:List Int} (hs:l.length≤4096) (hw:l.all wideB=true):downO ((wasN l:Nat):Int) l=some (downN l)∧(downN l).all wideB=true∧(downN l).length=l.length∧upO ((wasN l:Nat):Int) (downN l)=some l:=by
 obtain ⟨-,h3,h4⟩:=waste_facts (show short l by unfold short;omega) hw
 have h:=down_of h3 hw h4
 exact ⟨h,down_up h3 h⟩
def restK (k:Int) (s:Sub) (d:List Int):Option (List Int×List Int):=
 if k=2 then (bif (difN s.2.2.1.toNat d).all wideB then some (d.take s.2.2.1.toNat,difN s.2.2.1.toNat d) else none)
 else if k=3 then (linRO d s.2.2.2.2.2.1 s.2.2.2.1).map fun r=>(d.take s.2.2.2.2.2.1.length,r)
 else if k=4 then (longRO d s.2.2.2.2.1 s.2.2.2.2.2.2.1).bind fun x=>(linRO x s.2.2.2.2.2.1 s.2.2.2.1).map fun r=>(x.take s.2.2.2.2.2.1.length,r)
 else (learnRO d s.2.2.2.2.2.2.2.1).map fun r=>([],r)
theorem restK_ok {k:Int} {s:Sub} {d wm r:List Int} (hk:k=2∨k=3∨k=4∨k=5) (hf:fitP k s (d.length:Int)) (hw:d.all wideB=true) (h:restK k s d=some (wm,r)):
  wm.length≤d.length∧r.length=d.length-wm.length∧r.all wideB=true∧wm.all wideB=true:=by
 have hf':=hf
 simp only [fitP] at hf'
 rcases hk with rfl|rfl|rfl|rfl
 ·have:0≤s.2.2.1∧s.2.2.1≤(d.length:Int):=by simp at hf';omega
  simp only [restK,if_true] at h
  cases hq:(difN s.2.2.1.toNat d).all wideB with
  |false=>simp [hq] at h
  |true=>
   simp only [hq,cond_true,sj,Prod.mk.injEq] at h
   obtain ⟨rfl,rfl⟩:=h
   refine ⟨by rw [List.length_take];omega,by rw [difN_length,List.length_take];omega,hq,all_take hw _⟩
 ·have:(s.2.2.2.2.2.1.length:Int)≤(d.length:Int):=by simp at hf';omega
  simp only [restK,show ¬ (3:Int)=2 by decide,if_false,if_true,Option.map_eq_some_iff,Prod.mk.injEq] at h
  obtain ⟨r',h1,rfl,rfl⟩:=h
  obtain ⟨-,h2,h3⟩:=lin_back h1
  exact ⟨by rw [List.length_take];omega,by rw [h3,List.length_take];omega,h2,all_take hw _⟩
 ·have:(s.2.2.2.2.2.1.length:Int)≤(d.length:Int):=by simp at hf';omega
  simp only [restK,show ¬ (4:Int)=2 by decide,show ¬ (4:Int)=3 by decide,if_false,if_true,Option.bind_eq_some_iff,Option.map_eq_some_iff,Prod.mk.injEq] at h
  obtain ⟨x,h0,r',h1,rfl,rfl⟩:=h
  obtain ⟨-,g2,g3⟩:=long_back h0
  obtain ⟨-,h2,h3⟩:=lin_back h1
  exact ⟨by rw [List.length_take];omega,by rw [h3,List.length_take];omega,h2,all_take g2 _⟩
 ·simp only [restK,show ¬ (5:Int)=2 by decide,show ¬ (5:Int)=3 by decide,show ¬ (5:Int)=4 by decide,if_false,Option.map_eq_some_iff,Prod.mk.injEq] at h
  obtain ⟨r',h1,rfl,rfl⟩:=h
  obtain ⟨-,h2,h3⟩:=learn_back h1
  exact ⟨by simp,by simpa using h3,h2,rfl⟩
theorem split_eq {k:Int} {s:Sub} {d:List Int} (hk:k=2∨k=3∨k=4∨k=5) (h:SmallS s) (hf:fitP k s (d.length:Int)) (hd:d.length≤4096) (hw:d.all wideB=true) (w:Nat):
  F_sub_split (fillP (chosenP k s) w [] z0 [],d)=some (match restK k s d with|none=>(6,fillP (chosenP k s) w [] z0 [])|some (wm,r)=>(0,fillP (chosenP k s) w wm z0 r)):=by
 have ht:=h.taps
 have hst:=h.stages
 have hsd:short d:=by unfold short;omega
 obtain ⟨k',w',o,sh,lag,c,t,st,wm',p,r',u⟩:=s
 simp only [fitP] at hf ht hst
 unfold F_sub_split
 rcases hk with rfl|rfl|rfl|rfl
 ·obtain ⟨h0,h4,hn⟩:0≤o∧o≤4∧o≤(d.length:Int):=by simp at hf;omega
  obtain ⟨O,rfl⟩:=Int.eq_ofNat_of_zero_le h0
  have hst:short (d.take O):=by unfold short;rw [List.length_take];omega
  have e2:decide ((O:Int)≤((d.length:Nat):Int))=true:=by simp;omega
  simp only [fillP,chosenP,restK,if_true,show ((2:Int)==2)=true from rfl,cond_true,fixed_Rest_eq (show O≤4 by omega) (show O≤d.length by omega) hsd hw,Option.bind_some,Int.toNat_natCast]
  cases (difN O d).all wideB with
  |false=>rfl
  |true=>simp [warmth_eq,warmI,show O≤d.length by omega,clone_eq hst]
 ·obtain ⟨hl,hn⟩:linB c sh=true∧(c.length:Int)≤(d.length:Int):=by simpa using hf
  have hst:short (d.take c.length):=by unfold short;rw [List.length_take];omega
  have e1:decide ((0:Int)≤((c.length:Nat):Int))=true:=by simp
  have e2:decide (((c.length:Nat):Int)≤((d.length:Nat):Int))=true:=by simp;omega
  simp only [fillP,chosenP,restK,show ((3:Int)==2)=false from rfl,show ((3:Int)==3)=true from rfl,show ¬ (3:Int)=2 by decide,show ¬ (3:Int)=4 by decide,show ¬ (3:Int)=5 by decide,true_or,if_true,if_false,cond_true,cond_false,linear_Rest_eq hl (show c.length≤d.length by omega) (show d.length<100000 by omega),Option.bind_some]
  cases linRO d c sh with
  |none=>rfl
  |some r=>simp [resB,warmth_eq,warmI,show c.length≤d.length by omega,clone_eq hst]
 ·obtain ⟨hl,hn,hlg⟩:linB c sh=true∧(c.length:Int)≤(d.length:Int)∧longB lag t=true:=by simpa using hf
  simp only [fillP,chosenP,restK,show ((4:Int)==2)=false from rfl,show ((4:Int)==3)=false from rfl,show ((4:Int)==4)=true from rfl,show ¬ (4:Int)=2 by decide,show ¬ (4:Int)=3 by decide,show ¬ (4:Int)=5 by decide,or_true,if_true,if_false,cond_true,cond_false,long_Rest_eq hlg ht (show d.length<100000 by omega),Option.bind_some]
  cases hx:longRO d lag t with
  |none=>rfl
  |some x=>
   obtain ⟨-,g2,g3⟩:=long_back hx
   have hst:short (x.take c.length):=by unfold short;rw [List.length_take];omega
   have e1:decide ((0:Int)≤((c.length:Nat):Int))=true:=by simp
   have e2:decide (((c.length:Nat):Int)≤((x.length:Nat):Int))=true:=by simp;omega
   simp only [resB,show ((0:Int)==0)=true from rfl,cond_true,linear_Rest_eq hl (show c.length≤x.length by omega) (show x.length<100000 by omega),Option.bind_some]
   cases linRO x c sh with
   |none=>rfl
   |some r=>simp [resB,warmth_eq,warmI,show c.length≤x.length by omega,clone_eq hst]
 ·obtain ⟨hn,hlr⟩:0<st.length∧learnB st=true:=by simpa using hf
  have hst:short (d.take 0):=by simp [short]
  simp only [fillP,chosenP,restK,show ((5:Int)==2)=false from rfl,show ((5:Int)==3)=false from rfl,show ((5:Int)==4)=false from rfl,show ((5:Int)==5)=true from rfl,show ¬ (5:Int)=2 by decide,show ¬ (5:Int)=3 by decide,show ¬ (5:Int)=4 by decide,or_self,if_true,if_false,cond_true,cond_false,learn_Rest_eq hlr (show d.length<100000 by omega),Option.bind_some]
  cases learnRO d st with
  |none=>rfl
  |some r=>
   have e1:decide ((0:Int)≤((d.length:Nat):Int))=true:=by simp
   have hc:=clone_eq hst
   simp only [List.take_zero] at hc
   simp [resB,warmth_eq,warmI,e1,hc]
end Go.Ab
namespace Go.Ab
open Classical in

def makeP (k:Int) (l:List Int) (s:Sub):Sub×Int:=
 if ¬ (1≤l.length∧l.length≤4096∧fitP k s (l.length:Int)) then (zeroO 0,1)
 else if l.all wideB=false then (zeroO 0,6)
 else if k=0 then (bif l.all (fun x=>x==l.headD 0) then (fillP (chosenP 0 s) 0 [l.headD 0] z0 [],0) else (zeroO 0,7))
 else if k=1 then (fillP (chosenP 1 s) (wasN l) (downN l) z0 [],0)
 else match restK k s (downN l) with
  |none=>(zeroO 0,6)
  |some (wm,r)=>(fillP (chosenP k s) (wasN l) wm (bestP (l.length:Int) (wm.length:Int) r) r,0)
theorem gidx0 {l:List Int} (h:1≤l.length):gidx l 0=some (l.headD 0):=by
 cases l with
 |nil=>simp at h
 |cons a l=>rfl
theorem mk_flat_loop {l:List Int} (h1:1≤l.length) (hs:short l) (a b:Sub):
  iter F_sub_Make_l0 (l,(l,((l.length:Int),((0:Int),(a,(b,()))))))=some (bif l.all (fun x=>x==l.headD 0) then .inl (l,(a,(b,()))) else .inr ((7:Int),(zeroO 0,()))):=by
 have:=iter_all (f:=F_sub_Make_l0) l (fun i=>(l,(l,((l.length:Int),((i:Int),(a,(b,()))))))) (fun x=>x==l.headD 0) (bt:=Sum.inl (l,(a,(b,())))) (bf:=Sum.inr ((7:Int),(zeroO 0,())))
  (fun i h hp=>by
   have hne:(l[i] != l.headD 0)=false:=by simpa using hp
   simp only [F_sub_Make_l0,dlt h,cond_true,gidx_get h,Option.bind_some,gidx0 h1,hne,cond_false,wrap_succ (Nat.lt_trans h hs)])
  (fun i h hp=>by
   have hne:(l[i] != l.headD 0)=true:=by simpa using hp
   simp only [F_sub_Make_l0,dlt h,cond_true,gidx_get h,Option.bind_some,gidx0 h1,hne];rfl)
  (by simp [F_sub_Make_l0])
 simpa using this
theorem kind_of_fit {k n:Int} {s:Sub} (h:fitP k s n) (h0:k≠0) (h1:k≠1):k=2∨k=3∨k=4∨k=5:=by
 rcases h with h|h|⟨h,-⟩|⟨h,-⟩|⟨h,-⟩|⟨h,-⟩
 ·exact absurd h h0
 ·exact absurd h h1
 ·exact .inl h
 ·exact .inr (.inl h)
 ·exact .inr (.inr (.inl h))
 ·exact .inr (.inr (.inr h))
theorem Make_eq {s:Sub} (h:SmallS s) (k:Int) {l:List Int} (hl:l.length≤100000):F_sub_Make (k,(l,s))=some (makeP k l s):=by
 have hs:short l:=by unfold short;omega
 unfold F_sub_Make makeP
 by_cases h1:1≤l.length
 rotate_left
 ·have e:decide (((l.length:Nat):Int)<1)=true:=decide_eq_true (by omega)
  rw [if_pos (fun hc=>h1 hc.1)]
  simp only [e,cond_true,Option.bind_some];rfl
 have e1:decide (((l.length:Nat):Int)<1)=false:=decide_eq_false (by omega)
 by_cases h2:l.length≤4096
 rotate_left
 ·have e:decide (((l.length:Nat):Int) > 4096)=true:=decide_eq_true (by omega)
  rw [if_pos (fun hc=>h2 hc.2.1)]
  simp only [e1,e,cond_true,cond_false,Option.bind_some];rfl
 have e2:decide (((l.length:Nat):Int) > 4096)=false:=decide_eq_false (by omega)
 by_cases h3:fitP k s (l.length:Int)
 rotate_left
 ·have e3:fitB k s (l.length:Int)=false:=by simp [fitB,h3]
  rw [if_pos (fun hc=>h3 hc.2.2)]
  simp only [e1,e2,fit_eq h,e3,cond_false,Bool.not_false,cond_true,Option.bind_some];rfl
 have e3:fitB k s (l.length:Int)=true:=by simp [fitB,h3]
 rw [if_neg (fun hc=>hc ⟨h1,h2,h3⟩)]
 simp only [e1,e2,fit_eq h,e3,cond_false,Bool.not_true,Option.bind_some,sub_allWide_eq hs]
 cases hw:l.all wideB with
 |false=>rfl
 |true=>
  simp only [Bool.not_true,cond_false,chosen_eq h,Option.bind_some]
  rw [if_neg (by decide)]
  by_cases h0:k=0
  ·subst h0
   have hf:=mk_flat_loop h1 hs (zeroO 0) (chosenP 0 s)
   have ez:zeroO 0=((0:Int),((0:Int),((0:Int),((0:Int),((0:Int),(([]:(List Int)),(List.replicate 3 (0:Int),(([]:(List (Int×(Int×Unit)))),(([]:(List Int)),(((0:Int),(([]:(List Int)),())),(([]:(List Int)),()))))))))))):=rfl
   rw [←ez,if_pos rfl]
   simp only [show ((0:Int)==0)=true from rfl,cond_true,hf,Option.bind_some]
   cases l.all (fun x=>x==l.headD 0) with
   |false=>rfl
   |true=>simp only [cond_true,gidx0 h1,Option.bind_some];rfl
  ·obtain ⟨w1,w3,-⟩:=waste_facts hs hw
   obtain ⟨d1,d2,d3,-⟩:=down_facts h2 hw
   have he0:(k==0)=false:=by simp [h0]
   rw [if_neg h0]
   simp only [he0,cond_false,w1,Option.bind_some,sample_Down_eq w3 (show l.length<100000 by omega),d1,resB,show ((0:Int) != 0)=false from rfl]
   by_cases hk1:k=1
   ·subst hk1;rfl
   ·have he1:(k==1)=false:=by simp [hk1]
    have hk:=kind_of_fit h3 h0 hk1
    rw [if_neg hk1]
    have hsp:=split_eq hk h (d:=downN l) (by rw [d3];exact h3) (by omega) d2 (wasN l)
    have e4:((chosenP k s).1,(((wasN l:Nat):Int),(chosenP k s).2.2))=fillP (chosenP k s) (wasN l) [] z0 []:=rfl
    simp only [he1,cond_false,e4,hsp,Option.bind_some]
    cases hr:restK k s (downN l) with
    |none=>rfl
    |some q=>
     obtain ⟨wm,r⟩:=q
     obtain ⟨r1,r2,r3,-⟩:=restK_ok hk (by rw [d3];exact h3) d2 hr
     have hrow:rowB (l.length:Int) (wm.length:Int)=true:=by simp only [rowB,Bool.and_eq_true,decide_eq_true_eq];omega
     have hb:=parts_Best_eq hrow (l:=r) (by omega) r3 (by omega)
     simp only [show ((0:Int) != 0)=false from rfl,cond_false,fillP,hb,Option.bind_some]
end Go.Ab
namespace Go.Ab
theorem partsB_ks {p:Prt} {n warm:Int} (h:partsB p n warm=true):p.2.1.length≤256:=by
 simp only [partsB,Bool.and_eq_true,Bool.not_eq_true',beq_eq_false_iff_ne,ne_eq,beq_iff_eq] at h
 obtain ⟨zn,h1,-,h3⟩:=sizes_facts h.1
 rw [←h.2.1,h1,castZ_length]
 exact h3
theorem fill_small {s:Sub} (h:SmallS s) {w:Nat} {wm r:List Int} {p:Prt} (h1:wm.length≤5000) (h2:r.length≤5000) (h3:p.2.1.length≤300):SmallS (fillP s w wm p r):=
 ⟨h.coefs,h.taps,h.stages,h1,h2,h3⟩
theorem make_cases {k:Int} {l:List Int} {s:Sub} (h0:(makeP k l s).2=0):
  1≤l.length∧l.length≤4096∧fitP k s (l.length:Int)∧l.all wideB=true∧
   ((k=0∧l.all (fun x=>x==l.headD 0)=true∧(makeP k l s).1=fillP (chosenP 0 s) 0 [l.headD 0] z0 [])∨
    (k=1∧(makeP k l s).1=fillP (chosenP 1 s) (wasN l) (downN l) z0 [])∨
     ((k=2∨k=3∨k=4∨k=5)∧∃ wm r,restK k s (downN l)=some (wm,r)∧(makeP k l s).1=fillP (chosenP k s) (wasN l) wm (bestP (l.length:Int) (wm.length:Int) r) r)):=by
 unfold makeP at h0 ⊢
 split at h0
 ·cases h0
 rename_i hc
 have hc:1≤l.length∧l.length≤4096∧fitP k s (l.length:Int):=Classical.byContradiction hc
 refine ⟨hc.1,hc.2.1,hc.2.2,?_⟩
 rw [if_neg (fun h=>h hc)]
 split at h0
 ·cases h0
 rename_i hw
 have hw':l.all wideB=true:=by simpa using hw
 refine ⟨hw',?_⟩
 rw [if_neg hw]
 split at h0
 ·rename_i k0
  rw [if_pos k0]
  cases hq:l.all (fun x=>x==l.headD 0) with
  |false=>rw [hq] at h0;cases h0
  |true=>exact .inl ⟨k0,rfl,rfl⟩
 rename_i k0
 rw [if_neg k0]
 split at h0
 ·rename_i k1
  rw [if_pos k1]
  exact .inr (.inl ⟨k1,rfl⟩)
 rename_i k1
 rw [if_neg k1]
 refine .inr (.inr ⟨kind_of_fit hc.2.2 k0 k1,?_⟩)
 cases hr:restK k s (downN l) with
 |none=>rw [hr] at h0;cases h0
 |some q=>
  obtain ⟨wm,r⟩:=q
  exact ⟨wm,r,rfl,rfl⟩
theorem alone_chosen {s:Sub} {k:Int} {w:Nat} {wm r:List Int} {p:Prt}:aloneP (fillP (chosenP k s) w wm p r):=by
 unfold aloneP fillP chosenP
 refine ⟨fun h=>if_neg h,fun h=>if_neg (not_or.2 h),fun h=>if_neg h,fun h=>if_neg h,fun h=>if_neg (not_or.2 h),fun h=>if_neg h⟩
theorem fit_fill {s:Sub} {k n:Int} {w:Nat} {wm r:List Int} {p:Prt} (h:fitP k s n):fitP (fillP (chosenP k s) w wm p r).1 (fillP (chosenP k s) w wm p r) n:=fit_chosen.2 h
theorem head_all {l:List Int} (h:l.all (fun x=>x==l.headD 0)=true):List.replicate l.length (l.headD 0)=l:=by
 refine (List.eq_replicate_iff.2 ⟨rfl,fun x hx=>?_⟩).symm
 have:=List.all_eq_true.1 h x hx
 simpa using this
theorem make_ok {k:Int} {l:List Int} {s:Sub} (hS:SmallS s) (h0:(makeP k l s).2=0):
  SmallS (makeP k l s).1∧(makeP k l s).1.1=k∧statedP (makeP k l s).1 (l.length:Int)∧subO (makeP k l s).1 (l.length:Int)=some l:=by
 obtain ⟨h1,h2,hf,hw,hc⟩:=make_cases h0
 have hs:short l:=by unfold short;omega
 obtain ⟨-,w3,-⟩:=waste_facts hs hw
 obtain ⟨d1,d2,d3,d4⟩:=down_facts h2 hw
 have key:∀ m:Sub,statedP m (l.length:Int)→rowO m (l.length:Int)=some l→subO m (l.length:Int)=some l:=fun m g1 g2=>by unfold subO;rw [if_pos g1,g2]
 have hcs:=chosen_small hS k
 rcases hc with ⟨rfl,hall,e⟩|⟨rfl,e⟩|⟨hk,wm,r,hr,e⟩
 ·rw [e]
  have hst:statedP (fillP (chosenP 0 s) 0 [l.headD 0] z0 []) (l.length:Int):=by
   have hh:wideB (l.headD 0)=true:=by
    cases l with
    |nil=>rfl
    |cons a l=>exact List.all_eq_true.1 hw _ List.mem_cons_self
   exact ⟨by omega,by omega,fit_fill hf,alone_chosen,Int.le_refl _,(by decide:(0:Int)≤30),fun _=>rfl,rfl,by simp only [fillP,List.all_cons,hh,List.all_nil];rfl,rfl,fun _=>⟨rfl,rfl,rfl⟩,fun h=>absurd rfl h.1⟩
  refine ⟨fill_small hcs (by simp) (by simp) (by simp [z0]),rfl,hst,key _ hst ?_⟩
  show some (List.replicate (l.length:Int).toNat (l.headD 0))=some l
  rw [Int.toNat_natCast,head_all hall]
 ·rw [e]
  have hst:statedP (fillP (chosenP 1 s) (wasN l) (downN l) z0 []) (l.length:Int):=
   ⟨by omega,by omega,fit_fill hf,alone_chosen,Int.natCast_nonneg _,(by show ((wasN l:Nat):Int)≤30;omega),fun h=>absurd h (by decide:¬ (1:Int)=0),by show (((downN l).length:Nat):Int)=(l.length:Int);rw [d3],d2,rfl,fun _=>⟨rfl,rfl,rfl⟩,fun h=>absurd rfl h.2⟩
  refine ⟨fill_small hcs (by omega) (by simp) (by simp [z0]),rfl,hst,key _ hst ?_⟩
  show upO ((wasN l:Nat):Int) (downN l)=some l
  exact d4
 ·rw [e]
  obtain ⟨r1,r2,r3,r4⟩:=restK_ok hk (by rw [d3];exact hf) d2 hr
  have hrow:rowB (l.length:Int) (wm.length:Int)=true:=by simp only [rowB,Bool.and_eq_true,decide_eq_true_eq];omega
  have hp:=bestP_ok hrow (l:=r) (by omega) r3 (by omega)
  generalize bestP (l.length:Int) (wm.length:Int) r=p at hp
  have hks:=partsB_ks hp

  have hwb:warmI (fillP (chosenP k s) (wasN l) wm p r) (l.length:Int)=(wm.length:Int)∧backP (fillP (chosenP k s) (wasN l) wm p r)=some (downN l):=by
   simp only [fitP] at hf
   rcases hk with rfl|rfl|rfl|rfl
   ·obtain ⟨q0,q4,qn⟩:0≤s.2.2.1∧s.2.2.1≤4∧s.2.2.1≤(l.length:Int):=by simp at hf;omega
    simp only [restK,if_true] at hr
    cases hq:(difN s.2.2.1.toNat (downN l)).all wideB with
    |false=>simp [hq] at hr
    |true=>
     simp only [hq,cond_true,sj,Prod.mk.injEq] at hr
     obtain ⟨rfl,rfl⟩:=hr
     refine ⟨?_,?_⟩
     ·show s.2.2.1=_
      rw [List.length_take];omega
     ·show fixO ((downN l).take s.2.2.1.toNat) (difN s.2.2.1.toNat (downN l)) s.2.2.1=some (downN l)
      have hb:=back_dif d2 (o:=s.2.2.1.toNat) (by omega) ((downN l).length-s.2.2.1.toNat) 0 (by omega)
      rw [List.drop_zero,Nat.add_zero] at hb
      unfold fixO
      rw [all_take d2,hq]
      exact hb
   ·have qn:(s.2.2.2.2.2.1.length:Int)≤(l.length:Int):=by simp at hf;omega
    simp only [restK,show ¬ (3:Int)=2 by decide,if_false,if_true,Option.map_eq_some_iff,Prod.mk.injEq] at hr
    obtain ⟨r',g1,rfl,rfl⟩:=hr
    obtain ⟨g2,-,-⟩:=lin_back g1
    refine ⟨?_,?_⟩
    ·show ((s.2.2.2.2.2.1.length:Nat):Int)=_
     rw [List.length_take];omega
    ·exact g2
   ·have qn:(s.2.2.2.2.2.1.length:Int)≤(l.length:Int):=by simp at hf;omega
    simp only [restK,show ¬ (4:Int)=2 by decide,show ¬ (4:Int)=3 by decide,if_false,if_true,Option.bind_eq_some_iff,Option.map_eq_some_iff,Prod.mk.injEq] at hr
    obtain ⟨x,g0,r',g1,rfl,rfl⟩:=hr
    obtain ⟨f1,-,f3⟩:=long_back g0
    obtain ⟨g2,-,-⟩:=lin_back g1
    refine ⟨?_,?_⟩
    ·show ((s.2.2.2.2.2.1.length:Nat):Int)=_
     rw [List.length_take];omega
    ·show (linO (x.take s.2.2.2.2.2.1.length) r' s.2.2.2.2.2.1 s.2.2.2.1).bind (fun l=>longO l s.2.2.2.2.1 s.2.2.2.2.2.2.1)=_
     rw [g2]
     exact f1
   ·simp only [restK,show ¬ (5:Int)=2 by decide,show ¬ (5:Int)=3 by decide,show ¬ (5:Int)=4 by decide,if_false,Option.map_eq_some_iff,Prod.mk.injEq] at hr
    obtain ⟨r',g1,rfl,rfl⟩:=hr
    obtain ⟨g2,-,-⟩:=learn_back g1
    exact ⟨rfl,g2⟩
  have hne:¬ (k=0∨k=1):=by rcases hk with rfl|rfl|rfl|rfl<;>decide
  have hst:statedP (fillP (chosenP k s) (wasN l) wm p r) (l.length:Int):=by
   unfold statedP
   rw [hwb.1]
   exact ⟨by omega,by omega,fit_fill hf,alone_chosen,Int.natCast_nonneg _,(by show ((wasN l:Nat):Int)≤30;omega),fun h=>absurd (.inl h) hne,rfl,r4,r3,fun h=>absurd h hne,fun _=>⟨(by show ((r.length:Nat):Int)=_;omega),hp⟩⟩
  refine ⟨fill_small hcs (by omega) (by omega) (by omega),rfl,hst,key _ hst ?_⟩
  have e0:¬ (fillP (chosenP k s) (wasN l) wm p r).1=0:=fun h=>hne (.inl h)
  unfold rowO
  rw [if_neg e0,hwb.2]
  exact d4
theorem zero_small:SmallS (zeroO 0):=small_zeroO 0
end Go.Ab
namespace Go.Ab
end Go.Ab
namespace Go.Ab
theorem kind_range {k n:Int} {s:Sub} (h:fitP k s n):0≤k∧k≤5:=by
 rcases h with h|h|⟨h,-⟩|⟨h,-⟩|⟨h,-⟩|⟨h,-⟩<;>omega
theorem subO_stated {s:Sub} {n:Int} (h:(subO s n).isSome=true):statedP s n:=by
 unfold subO at h
 split at h
 ·assumption
 ·cases h
end Go.Ab
namespace Go.Ab
structure Shifted (l m:List Int) (n:Nat):Prop where
 len:m.length=l.length
 wl:l.all wideB=true
 wm:m.all wideB=true
 down:downN m=downN l
 waste:wasN m=wasN l+n
 fl:l.all (fun x=>x==l.headD 0)=false
 fm:m.all (fun x=>x==m.headD 0)=false
structure BestIs (l:List Int) (cs:List Sub) (a:Int×(Bool×Sub)):Prop where
 one:a.2.1=true→∃ c∈cs,(makeP c.1 l c).2=0∧a.2.2=(makeP c.1 l c).1∧a.1=costI a.2.2 (l.length:Int)
 least:∀ c∈cs,(makeP c.1 l c).2=0→a.2.1=true∧a.1≤costI (makeP c.1 l c).1 (l.length:Int)
end Go.Ab
namespace Go.Ab
def inW (x:Int) (v:Nat):Bool:=decide (x=0) || fitsS x (v:Int)
theorem fits_iff {x:Int} {v:Nat}:fitsS x (v:Int)=true↔1≤v∧v≤31∧-((2^(v-1):Nat):Int)≤x∧x≤((2^(v-1):Nat):Int)-1:=by
 by_cases hv:1≤v∧v≤31
 ·have e:((v:Int)-1)=((v-1:Nat):Int):=by omega
  have hp:2^(v-1)≤2^30:=Nat.pow_le_pow_right (by omega) (by omega)
  have hp1:=Nat.two_pow_pos (v-1)
  have e1:gshl .i64 1 ((v-1:Nat):Int)=((2^(v-1):Nat):Int):=shl1 (by omega)
  have e2:gshl .i64 (-1) ((v-1:Nat):Int)=-((2^(v-1):Nat):Int):=by
   have em:min (Int.toNat ((v-1:Nat):Int)) (IntKind.bits .i64)=v-1:=by simp only [Int.toNat_natCast,IntKind.bits];omega
   unfold gshl
   rw [em,show (-1:Int)*2^(v-1)=-((2^(v-1):Nat):Int) by simp]
   exact wrap64 (by omega)
  have e3:IntKind.wrap .i64 (((2^(v-1):Nat):Int)-1)=((2^(v-1):Nat):Int)-1:=wrap64 (by omega)
  simp only [fitsS,e,e1,e2,e3,Bool.and_eq_true,decide_eq_true_eq]
  constructor
  ·intro h;exact ⟨hv.1,hv.2,h.2.2.1,h.2.2.2⟩
  ·intro h;exact ⟨by omega,by omega,h.2.2.1,h.2.2.2⟩
 ·constructor
  ·intro h
   simp only [fitsS,Bool.and_eq_true,decide_eq_true_eq] at h
   omega
  ·intro h;omega
theorem inW_iff {x:Int} {v:Nat}:inW x v=true↔x=0∨(1≤v∧v≤31∧-((2^(v-1):Nat):Int)≤x∧x≤((2^(v-1):Nat):Int)-1):=by
 simp only [inW,Bool.or_eq_true,decide_eq_true_eq,fits_iff]
theorem inW_mono {x:Int} {v w:Nat} (h:v≤w) (hw:w≤31) (hx:inW x v=true):inW x w=true:=by
 rw [inW_iff] at hx ⊢
 rcases hx with hx|⟨h1,h2,h3,h4⟩
 ·exact .inl hx
 ·have:2^(v-1)≤2^(w-1):=Nat.pow_le_pow_right (by omega) (by omega)
  exact .inr ⟨by omega,hw,by omega,by omega⟩
theorem inW_wide {x:Int} (h:wideB x=true):inW x 31=true:=by
 have:=wideB_iff.1 h
 rw [inW_iff]
 exact .inr ⟨by omega,by omega,by rw [show ((2^(31-1):Nat):Int)=1073741824 from rfl];omega,by rw [show ((2^(31-1):Nat):Int)=1073741824 from rfl];omega⟩
theorem grow_spec {x:Int} (hx:wideB x=true):∀ (k w:Nat),w+k=32→w≤31→w≤growN x k w∧growN x k w≤31∧inW x (growN x k w)=true∧∀ v,w≤v→inW x v=true→v≤31→growN x k w≤v
 |0,w,h,h31=>absurd h31 (by omega)
 |k+1,w,h,h31=>by
  by_cases hin:inW x w=true
  ·have:growN x (k+1) w=w:=by
    unfold growN
    cases hc:(x != 0)&&!fitsS x (w:Int) with
    |false=>rfl
    |true=>
     simp only [Bool.and_eq_true,bne_iff_ne,ne_eq,Bool.not_eq_true'] at hc
     simp only [inW,Bool.or_eq_true,decide_eq_true_eq,hc.2,Bool.false_eq_true,or_false] at hin
     exact absurd hin hc.1
   rw [this]
   exact ⟨Nat.le_refl _,h31,hin,fun v hv _ _=>hv⟩
  ·have hc:((x != 0)&&!fitsS x (w:Int))=true:=by
    simp only [inW,Bool.or_eq_true,decide_eq_true_eq,not_or,Bool.not_eq_true] at hin
    simp only [Bool.and_eq_true,bne_iff_ne,ne_eq,Bool.not_eq_true']
    exact hin
   have hne:w≠31:=fun e=>hin (by rw [e];exact inW_wide hx)
   have e:growN x (k+1) w=growN x k (w+1):=by
    show (bif (x != 0)&&!fitsS x (w:Int) then growN x k (w+1) else w)=_
    rw [hc,cond_true]
   obtain ⟨g1,g2,g3,g4⟩:=grow_spec hx k (w+1) (by omega) (by omega)
   rw [e]
   refine ⟨by omega,g2,g3,fun v hv hvi h31=>g4 v ?_ hvi h31⟩
   rcases Nat.lt_or_ge w v with q|q
   ·exact q
   ·have:v=w:=by omega
    exact absurd (this▸hvi) hin
theorem width_fold_spec:∀ (l:List Int) (w:Nat),l.all wideB=true→w≤31→
  w≤l.foldl (fun w x=>growN x (32-w) w) w∧l.foldl (fun w x=>growN x (32-w) w) w≤31∧(∀ x∈l,inW x (l.foldl (fun w x=>growN x (32-w) w) w)=true)∧∀ v,w≤v→v≤31→(∀ x∈l,inW x v=true)→l.foldl (fun w x=>growN x (32-w) w) w≤v
 | [],w,_,h31=>⟨Nat.le_refl _,h31,by simp,fun v hv _ _=>hv⟩
 |x::l,w,h,h31=>by
  rw [List.all_cons,Bool.and_eq_true] at h
  obtain ⟨g1,g2,g3,g4⟩:=grow_spec h.1 (32-w) w (by omega) h31
  obtain ⟨f1,f2,f3,f4⟩:=width_fold_spec l (growN x (32-w) w) h.2 g2
  simp only [List.foldl_cons]
  refine ⟨by omega,f2,fun y hy=>?_,fun v hv hv31 hall=>?_⟩
  ·rcases List.mem_cons.1 hy with rfl|hy
   ·exact inW_mono f1 f2 g3
   ·exact f3 y hy
  ·exact f4 v (g4 v hv (hall x List.mem_cons_self) hv31) hv31 fun y hy=>hall y (List.mem_cons_of_mem _ hy)
theorem width_in {l:List Int} (h:l.all wideB=true):∀ x∈l,inW x (widthN l)=true:=(width_fold_spec l 0 h (by omega)).2.2.1
end Go.Ab
namespace Go.Ab
@[reducible] def Rd:Type:=(List Int)×(Int×(Int×Unit))
def BitsOk (L:List Int):Prop:=∀ b∈L,b=0∨b=1
def byteBit (bs:List Int) (i:Nat):Bool:=(bs.getD (i / 8) 0).toNat.testBit (7-i%8)
theorem or8 {x y:Nat} (hx:x<256) (hy:y<256):bits .u8 .or (x:Int) (y:Int)=((x ||| y:Nat):Int):=by
 show IntKind.wrap .u8 (((BitVec.ofInt 8 (x:Int)) ||| (BitVec.ofInt 8 (y:Int))).toNat:Int)=_
 rw [BitVec.ofInt_natCast,BitVec.ofInt_natCast,BitVec.toNat_or,BitVec.toNat_ofNat,BitVec.toNat_ofNat,Nat.mod_eq_of_lt hx,Nat.mod_eq_of_lt hy,wrapu8]
 have:x ||| y<2^8:=Nat.or_lt_two_pow hx hy
 omega
theorem shl8 {b:Int} (hb:b=0∨b=1) {r:Nat} (hr:r<8):gshl .u8 b (7-(r:Int))=((b.toNat*2^(7-r):Nat):Int):=by
 have key:∀ r:Fin 8,gshl .u8 0 (7-(r.1:Int))=((0*2^(7-r.1):Nat):Int)∧gshl .u8 1 (7-(r.1:Int))=((1*2^(7-r.1):Nat):Int):=by decide +kernel
 rcases hb with rfl|rfl
 ·exact (key ⟨r,hr⟩).1
 ·exact (key ⟨r,hr⟩).2
theorem shr_and8 {x:Nat} (hx:x<256) {r:Nat} (hr:r<8):bits .u8 .and (gshr .u8 (x:Int) (7-(r:Int))) 1=if x.testBit (7-r) then 1 else 0:=by
 have e:gshr .u8 (x:Int) (7-(r:Int))=((x / 2^(7-r):Nat):Int):=by
  show Int.fdiv (x:Int) (2^(min (7-(r:Int)).toNat 8))=_
  rw [show min (7-(r:Int)).toNat 8=7-r from by omega]
  rw [Int.fdiv_eq_ediv_of_nonneg _ (Int.le_of_lt (Int.pow_pos (by decide)))]
  simp
 rw [e]
 have hy:x / 2^(7-r)<256:=Nat.lt_of_le_of_lt (Nat.div_le_self _ _) hx
 show IntKind.wrap .u8 (((BitVec.ofInt 8 ((x / 2^(7-r):Nat):Int)) &&& (BitVec.ofInt 8 1)).toNat:Int)=_
 rw [BitVec.ofInt_natCast,BitVec.toNat_and,BitVec.toNat_ofNat,Nat.mod_eq_of_lt hy,show (BitVec.ofInt 8 1).toNat=1 from by decide,Nat.and_one_is_mod,wrapu8,Nat.testBit_eq_decide_div_mod_eq]
 by_cases h:x / 2^(7-r)%2=1
 ·simp [h]
 ·have:x / 2^(7-r)%2=0:=by omega
  simp [this]
theorem getD_snoc0 (bs:List Int) (j:Nat):(bs++[0]).getD j 0=bs.getD j 0:=by
 simp only [List.getD_eq_getElem?_getD]
 by_cases h:j<bs.length
 ·rw [List.getElem?_append_left h]
 ·rw [List.getElem?_append_right (by omega),List.getElem?_eq_none (by omega:bs.length≤j)]
  cases h2:j-bs.length with
  |zero=>rfl
  |succ k=>rfl
theorem getD_snoc (L:List Int) (b:Int) (i:Nat):(L++[b]).getD i 0=if i=L.length then b else L.getD i 0:=by
 simp only [List.getD_eq_getElem?_getD]
 by_cases h:i<L.length
 ·rw [List.getElem?_append_left h,if_neg (by omega)]
 ·rw [List.getElem?_append_right (by omega)]
  by_cases e:i=L.length
  ·subst e;simp
  ·rw [if_neg e,List.getElem?_eq_none (by simp;omega),List.getElem?_eq_none (by omega)]
theorem getD_set (bs:List Int) (k:Nat) (y:Int) (hk:k<bs.length) (j:Nat):(bs.set k y).getD j 0=if j=k then y else bs.getD j 0:=by
 simp only [List.getD_eq_getElem?_getD,List.getElem?_set]
 by_cases e:k=j
 ·subst e;simp [hk]
 ·rw [if_neg e,if_neg (Ne.symm e)]
theorem wL_bits_n:∀ (n:Nat) (L:List Int),L.length=n→BitsOk L→(∀ j,0≤(wL L).1.getD j 0∧(wL L).1.getD j 0<256)∧∀ i,byteBit (wL L).1 i=decide (L.getD i 0=1)
 |0,L,h,_=>by
  rw [List.length_eq_zero_iff.1 h]
  exact ⟨fun j=>by simp [wL],fun i=>by simp [byteBit,wL]⟩
 |n+1,L,h,hL=>by
  obtain ⟨L',b,rfl⟩:∃ L' b,L=L'++[b]:=by
   rcases List.eq_nil_or_concat L with rfl|⟨L',b,e⟩
   ·simp at h
   ·exact ⟨L',b,by rw [e,List.concat_eq_append]⟩
  have hb:b=0∨b=1:=hL b (by simp)
  obtain ⟨i1,i2⟩:=wL_bits_n n L' (by simpa using h) fun c hc=>hL c (by simp [hc])
  obtain ⟨h1,h2⟩:=wL_facts L'
  rw [wL_snoc]
  generalize wL L'=wr at h1 h2 i1 i2 ⊢
  obtain ⟨bs,m,u⟩:=wr
  have h1:m=(L'.length:Int):=h1
  have h2:bs.length=(L'.length+7) / 8:=h2
  subst h1
  have e8:((L'.length:Int) / 8).toNat=L'.length / 8:=by omega
  have em:(L'.length:Int)%8=((L'.length%8:Nat):Int):=by omega
  obtain ⟨bs1,hbs1,g1,g2⟩:∃ bs1:List Int,(if (L'.length:Int)%8=0 then bs++[0] else bs)=bs1∧L'.length / 8<bs1.length∧∀ j,bs1.getD j 0=bs.getD j 0:=by
   by_cases hz:(L'.length:Int)%8=0
   ·exact ⟨bs++[0],by rw [if_pos hz],by simp;omega,getD_snoc0 bs⟩
   ·exact ⟨bs,by rw [if_neg hz],by omega,fun _=>rfl⟩
  rw [em] at hbs1
  have hr:L'.length%8<8:=Nat.mod_lt _ (by decide)
  obtain ⟨x,hx⟩:∃ x:Nat,bs.getD (L'.length / 8) 0=(x:Int):=Int.eq_ofNat_of_zero_le (i1 _).1
  have hx256:x<256:=by
   have h6:bs.getD (L'.length / 8) 0<256:=(i1 (L'.length / 8)).2
   omega
  have hy:b.toNat*2^(7-L'.length%8)<256:=by
   have hp:2^(7-L'.length%8)≤2^7:=Nat.pow_le_pow_right (by decide) (by omega)
   rcases hb with rfl|rfl<;>simp<;>omega
  have hor:x ||| b.toNat*2^(7-L'.length%8)<2^8:=Nat.or_lt_two_pow hx256 hy
  have hbit:(bitS (bs,((L'.length:Int),u)) b).1=bs1.set (L'.length / 8) ((x ||| b.toNat*2^(7-L'.length%8):Nat):Int):=by
   unfold bitS
   simp only [hbs1,e8,em]
   rw [g2,hx,shl8 hb hr,or8 hx256 hy]
  rw [hbit]
  refine ⟨fun j=>?_,fun i=>?_⟩
  ·rw [getD_set _ _ _ g1]
   split
   ·omega
   ·rw [g2];exact i1 j
  ·unfold byteBit
   rw [getD_set _ _ _ g1,getD_snoc]
   have hi:=i2 i
   unfold byteBit at hi
   by_cases hk:i / 8=L'.length / 8
   ·rw [if_pos hk,Int.toNat_natCast,Nat.testBit_or]
    rw [hk,hx,Int.toNat_natCast] at hi
    rw [hi]
    have hbt:(b.toNat*2^(7-L'.length%8)).testBit (7-i%8)=(decide (b=1)&&decide (i=L'.length)):=by
     rcases hb with rfl|rfl
     ·simp
     ·have e:(1:Int).toNat*2^(7-L'.length%8)=2^(7-L'.length%8):=by simp
      rw [e,Nat.testBit_two_pow]
      by_cases hi':i=L'.length
      ·subst hi';simp
      ·have:¬ (7-L'.length%8=7-i%8):=by omega
       simp [hi',this]
    rw [hbt]
    by_cases hi':i=L'.length
    ·subst hi'
     have:L'.getD L'.length 0=0:=by simp [List.getD_eq_getElem?_getD]
     simp
    ·simp [hi']
   ·rw [if_neg hk,g2,hi,if_neg (fun e=>hk (by rw [e]))]
theorem wL_bits {L:List Int} (h:BitsOk L):(∀ j,0≤(wL L).1.getD j 0∧(wL L).1.getD j 0<256)∧∀ i,byteBit (wL L).1 i=decide (L.getD i 0=1):=wL_bits_n _ L rfl h
def rdr (P R:List Int):Rd:=((wL (P++R)).1,((P.length:Int),((0:Int),())))
theorem look_eq {L:List Int} (hL:BitsOk L) (hl:L.length<1000000000) {i:Nat} (hi:i<L.length) (t:Int×(Int×Unit)):
  F_bits_Reader_look (((wL L).1,t),(i:Int))=some (L.getD i 0,((wL L).1,t)):=by
 obtain ⟨h1,h2⟩:=wL_bits hL
 obtain ⟨-,h3⟩:=wL_facts L
 have ht:Int.tmod (i:Int) 8=((i%8:Nat):Int):=by rw [Int.tmod_eq_emod_of_nonneg (by omega)];omega
 have hd:Int.tdiv (i:Int) 8=((i / 8:Nat):Int):=by rw [Int.tdiv_eq_ediv_of_nonneg (by omega)];omega
 have e1:IntKind.wrap .i64 ((i / 8:Nat):Int)=((i / 8:Nat):Int):=wrap64 (by omega)
 have e2:IntKind.wrap .i64 (7-((i%8:Nat):Int))=7-((i%8:Nat):Int):=wrap64 (by omega)
 have g:decide (7-((i%8:Nat):Int)<0)=false:=by simp;omega
 have hb:i / 8<(wL L).1.length:=by omega
 have hget:(wL L).1[i / 8]=(wL L).1.getD (i / 8) 0:=by simp [List.getD_eq_getElem?_getD,hb]
 unfold F_bits_Reader_look
 simp only [ht,hd,e1,e2,g,gidx_get hb,Option.bind_some,cond_false]
 obtain ⟨x,hx⟩:∃ x:Nat,(wL L).1.getD (i / 8) 0=(x:Int):=Int.eq_ofNat_of_zero_le (h1 _).1
 have hx256:x<256:=by have:=(h1 (i / 8)).2;omega
 rw [hget,hx,shr_and8 hx256 (Nat.mod_lt _ (by decide))]
 have:=h2 i
 unfold byteBit at this
 rw [hx,Int.toNat_natCast] at this
 rw [this]
 have hv:L.getD i 0=0∨L.getD i 0=1:=by
  have:L.getD i 0=L[i]:=by simp [List.getD_eq_getElem?_getD,hi]
  rw [this];exact hL _ (List.getElem_mem hi)
 rcases hv with h|h<;>rw [h]<;>rfl
theorem bitAt_nat {v:Nat} (hv:v<18446744073709551616) {i:Nat} (hi:i≤64):bitAt (v:Int) i=((v / 2^i%2:Nat):Int):=by
 unfold bitAt
 rw [gshru_nat hi]
 have hy:v / 2^i<18446744073709551616:=Nat.lt_of_le_of_lt (Nat.div_le_self _ _) hv
 show IntKind.wrap .u8 (IntKind.wrap .u64 (((BitVec.ofInt 64 ((v / 2^i:Nat):Int)) &&& (BitVec.ofInt 64 1)).toNat:Int))=_
 rw [BitVec.ofInt_natCast,BitVec.toNat_and,BitVec.toNat_ofNat,Nat.mod_eq_of_lt hy,show (BitVec.ofInt 64 1).toNat=1 from by decide,Nat.and_one_is_mod]
 have:v / 2^i%2<2:=Nat.mod_lt _ (by decide)
 rw [wrapu64 (by omega),wrapu8]
 omega
theorem BitsOk.app {A B:List Int} (h:BitsOk A) (h':BitsOk B):BitsOk (A++B):=fun b hb=>(List.mem_append.1 hb).elim (h b) (h' b)
theorem orU {a b:Nat} (ha:a<18446744073709551616) (hb:b<2) (h2:a%2=0):bits .u64 .or (a:Int) (b:Int)=((a+b:Nat):Int):=by
 show IntKind.wrap .u64 (((BitVec.ofInt 64 (a:Int) ||| BitVec.ofInt 64 (b:Int)).toNat:Nat):Int)=_
 have h1:(BitVec.ofInt 64 (a:Int)).toNat=a:=by rw [BitVec.toNat_ofInt];omega
 have h2':(BitVec.ofInt 64 (b:Int)).toNat=b:=by rw [BitVec.toNat_ofInt];omega
 rw [BitVec.toNat_or,h1,h2']
 have e:a ||| b=a+b:=by
  have:=Nat.two_pow_add_eq_or_of_lt (i:=1) (b:=b) (by omega) (a / 2)
  rw [show 2^1*(a / 2)=a from by omega] at this
  exact this.symm
 rw [e]
 exact wrapu64 (by omega)
theorem getD_at (P:List Int) (b:Int) (R:List Int):(P++b::R).getD P.length 0=b:=by
 simp [List.getD_eq_getElem?_getD]
theorem get_from {v:Nat} (hv:v<9223372036854775808) {n:Nat} (hn:n≤62):∀ (m:Nat) (P R:List Int),m≤n→BitsOk (P++(pb (v:Int) m++R))→(P++(pb (v:Int) m++R)).length<1000000000→
  iter F_bits_Reader_Get_l0 (((v / 2^m:Nat):Int),((n:Int),(((n-m:Nat):Int),(rdr P (pb (v:Int) m++R),()))))=some ((v:Int),(rdr (P++pb (v:Int) m) R,()))
 |0,P,R,_,_,_=>by
  have hd:decide (((n:Nat):Int)<(n:Int))=false:=by simp
  rw [iter_done (b:=((v:Int),(rdr P R,()))) (by simp [F_bits_Reader_Get_l0,pb,rdr])]
  simp [pb]
 |m+1,P,R,hm,hok,hlen=>by
  have hd:decide (((n-(m+1):Nat):Int)<(n:Int))=true:=by simp;omega
  have hlk:F_bits_Reader_look (rdr P (pb (v:Int) (m+1)++R),(P.length:Int))=some (bitAt v m,rdr P (pb (v:Int) (m+1)++R)):=by
   have:=look_eq hok hlen (i:=P.length) (by simp [pb]) ((P.length:Int),((0:Int),()))
   rw [show (P++(pb (v:Int) (m+1)++R)).getD P.length 0=bitAt v m from by simp only [pb,List.cons_append];exact getD_at _ _ _] at this
   exact this
  have hbit:=bitAt_nat (v:=v) (by omega) (i:=m) (by omega)
  have hlt:v / 2^m%2<2:=Nat.mod_lt _ (by decide)
  have hdiv:v / 2^(m+1)=v / 2^m / 2:=by rw [Nat.pow_succ,Nat.div_div_eq_div_mul]
  have hle:v / 2^m≤v:=Nat.div_le_self _ _
  have hsh:gshl .u64 ((v / 2^(m+1):Nat):Int) 1=((v / 2^(m+1)*2^1:Nat):Int):=gshlu_nat (o:=1) (by omega) (by rw [hdiv];omega)
  have hacc:bits .u64 .or ((v / 2^(m+1)*2^1:Nat):Int) (IntKind.wrap .u64 (bitAt (v:Int) m))=((v / 2^m:Nat):Int):=by
   rw [hbit,wrapu64 (by omega),orU (by rw [hdiv];omega) hlt (by omega),hdiv]
   congr 1;omega
  have hw1:IntKind.wrap .i64 (((n-(m+1):Nat):Int)+1)=((n-m:Nat):Int):=by rw [wrap64 (by omega)];omega
  have hw2:IntKind.wrap .i64 ((P.length:Int)+1)=(((P++[bitAt v m]).length:Nat):Int):=by
   rw [wrap64 (by simp at hlen;omega)];simp
  have hassoc:P++(pb (v:Int) (m+1)++R)=(P++[bitAt v m])++(pb (v:Int) m++R):=by simp [pb]
  have hre:((rdr P (pb (v:Int) (m+1)++R)).1,((((P++[bitAt v m]).length:Nat):Int),(rdr P (pb (v:Int) (m+1)++R)).2.2))=rdr (P++[bitAt v m]) (pb (v:Int) m++R):=by
   unfold rdr;rw [hassoc]
  rw [iter_step (s':=(((v / 2^m:Nat):Int),((n:Int),(((n-m:Nat):Int),(rdr (P++[bitAt v m]) (pb (v:Int) m++R),()))))) (by
   simp only [F_bits_Reader_Get_l0,hd,cond_true]
   rw [show (rdr P (pb (v:Int) (m+1)++R)).2.1=(P.length:Int) from rfl,hlk]
   simp only [Option.bind_some,hsh,hacc,hw1]
   rw [show (rdr P (pb (v:Int) (m+1)++R)).2.1=(P.length:Int) from rfl,hw2,hre])]
  rw [get_from hv hn m _ _ (by omega) (by rw [←hassoc];exact hok) (by rw [←hassoc];exact hlen)]
  simp [pb]
theorem Get_eq {v n:Nat} (hn:n≤62) (hv:v<2^n) {P R:List Int} (hok:BitsOk (P++(pb (v:Int) n++R))) (hlen:(P++(pb (v:Int) n++R)).length<200000000):
  F_bits_Reader_Get (rdr P (pb (v:Int) n++R),(n:Int))=some ((v:Int),rdr (P++pb (v:Int) n) R):=by
 have hv63:v<9223372036854775808:=Nat.lt_of_lt_of_le hv (Nat.le_trans (Nat.pow_le_pow_right (by decide) hn) (by decide))
 have hk:=get_from hv63 hn n P R (by omega) hok (by omega)
 rw [Nat.div_eq_of_lt hv,Nat.sub_self] at hk
 simp only [Int.natCast_zero,Int.cast_ofNat_Int] at hk
 obtain ⟨-,hbl⟩:=wL_facts (P++(pb (v:Int) n++R))
 have hpl:=pb_length (v:Int) n
 have hll:(P++(pb (v:Int) n++R)).length=P.length+n+R.length:=by simp [pb_length];omega
 have e8:IntKind.wrap .i64 ((8:Int)*(((wL (P++(pb (v:Int) n++R))).1.length:Nat):Int))=(8:Int)*(((wL (P++(pb (v:Int) n++R))).1.length:Nat):Int):=wrap64 (by omega)
 have e9:IntKind.wrap .i64 ((8:Int)*(((wL (P++(pb (v:Int) n++R))).1.length:Nat):Int)-(P.length:Int))=(8:Int)*(((wL (P++(pb (v:Int) n++R))).1.length:Nat):Int)-(P.length:Int):=wrap64 (by omega)
 have d1:decide ((n:Int)<0)=false:=by simp
 have d2:decide ((n:Int) > 64)=false:=by simp;omega
 have d3:decide ((n:Int) > (8:Int)*(((wL (P++(pb (v:Int) n++R))).1.length:Nat):Int)-(P.length:Int))=false:=by
  simp only [gt_iff_lt,decide_eq_false_iff_not,Int.not_lt];omega
 unfold F_bits_Reader_Get F_bits_Reader_Left
 rw [show (rdr P (pb (v:Int) n++R)).2.2.1=0 from rfl]
 simp only [bne_self_eq_false,cond_false,d1,d2,Option.bind_some]
 rw [show (rdr P (pb (v:Int) n++R)).1=(wL (P++(pb (v:Int) n++R))).1 from rfl,show (rdr P (pb (v:Int) n++R)).2.1=(P.length:Int) from rfl,e8,e9]
 simp only [d3,cond_false,hk,Option.bind_some]
end Go.Ab
namespace Go.Ab
def fitS (n:Nat) (x:Int):Prop:=-((2^n:Nat):Int)≤2*x∧2*x<((2^n:Nat):Int)
theorem maskS_nat {n:Nat} (hn:n≤62) (x:Int):∃ v:Nat,maskS x n=(v:Int)∧v<2^n∧(v:Int)=x%((2^n:Nat):Int):=by
 have hw:IntKind.wrap .u64 x=x%18446744073709551616:=by simp [IntKind.wrap,IntKind.bits,IntKind.signed]
 obtain ⟨y,hy⟩:∃ y:Nat,x%18446744073709551616=(y:Int):=Int.eq_ofNat_of_zero_le (Int.emod_nonneg _ (by decide))
 have hy2:y<18446744073709551616:=by omega
 refine ⟨y%2^n,?_,Nat.mod_lt _ (Nat.two_pow_pos n),?_⟩
 ·unfold maskS
  rw [hw,hy]
  exact and_mask hy2 hn
 ·rw [Int.natCast_emod,←hy]
  refine Int.emod_emod_of_dvd x ?_
  have:(2:Nat)^n ∣ 2^64:=Nat.pow_dvd_pow 2 (by omega)
  exact Int.natCast_dvd_natCast.2 this
theorem Signed_eq {n:Nat} (hn:n≤62) {x:Int} (hf:fitS n x) {P R:List Int} (hok:BitsOk (P++(pb (maskS x n) n++R))) (hlen:(P++(pb (maskS x n) n++R)).length<200000000):
  F_bits_Reader_Signed (rdr P (pb (maskS x n) n++R),(n:Int))=some (x,rdr (P++pb (maskS x n) n) R):=by
 obtain ⟨v,hv,hlt,hmod⟩:=maskS_nat hn x
 rw [hv] at hok hlen ⊢
 have hget:=Get_eq hn hlt hok hlen
 obtain ⟨hf1,hf2⟩:=hf
 have h2:=Nat.two_pow_pos n
 have hvx:(v:Int)=x∧0≤x∨(v:Int)=x+((2^n:Nat):Int)∧x<0:=by
  by_cases h0:0≤x
  ·exact .inl ⟨by rw [hmod];exact Int.emod_eq_of_lt h0 (by omega),h0⟩
  ·refine .inr ⟨?_,by omega⟩
   rw [hmod,←Int.add_emod_right]
   exact Int.emod_eq_of_lt (by omega) (by omega)
 unfold F_bits_Reader_Signed
 simp only [hget,Option.bind_some]
 rw [show (rdr (P++pb (v:Int) n) R).2.2.1=0 from rfl]
 simp only [bne_self_eq_false,cond_false,Option.bind_some]
 cases n with
 |zero=>
  have hx0:x=0:=by simp at hf1 hf2;omega
  subst hx0
  rfl
 |succ k=>
  have hne:(((k+1:Nat):Int)==0)=false:=by simp only [beq_eq_false_iff_ne];omega
  have e1:IntKind.wrap .i64 ((64:Int)-((k+1:Nat):Int))=((64-(k+1):Nat):Int):=by rw [wrap64 (by omega)];omega
  have d1:decide (((64-(k+1):Nat):Int)<0)=false:=by simp
  simp only [hne,cond_false,e1,d1]
  have hm:64-(k+1)+(k+1)=64:=by omega
  generalize 64-(k+1)=m at hm ⊢
  have hpw:2^m*2^(k+1)=18446744073709551616:=by rw [←Nat.pow_add,hm]
  have hpwI:((2^m:Nat):Int)*((2^(k+1):Nat):Int)=18446744073709551616:=by rw [←Int.natCast_mul,hpw];rfl
  have hp:=Nat.two_pow_pos m
  have sh1:gshl .u64 (v:Int) (m:Int)=(v:Int)*((2^m:Nat):Int):=by
   show IntKind.wrap .u64 ((v:Int)*2^(min (m:Int).toNat 64))=_
   rw [Int.toNat_natCast,Nat.min_eq_left (by omega)]
   have e:(2:Int)^m=((2^m:Nat):Int):=by simp
   rw [e]
   refine wrapu64 ⟨Int.mul_nonneg (by omega) (by omega),?_⟩
   have:v*2^m<2^(k+1)*2^m:=Nat.mul_lt_mul_of_pos_right hlt hp
   rw [←Int.natCast_mul]
   rw [Nat.mul_comm (2^(k+1)),hpw] at this
   omega
  have b1:-9223372036854775808≤x*((2^m:Nat):Int):=by
   have:=Int.mul_le_mul_of_nonneg_right hf1 (show (0:Int)≤((2^m:Nat):Int) by omega)
   have e:-((2^(k+1):Nat):Int)*((2^m:Nat):Int)=-18446744073709551616:=by rw [Int.neg_mul,Int.mul_comm,hpwI]
   rw [e,Int.mul_assoc] at this
   omega
  have b2:x*((2^m:Nat):Int)<9223372036854775808:=by
   have:=Int.mul_lt_mul_of_pos_right hf2 (show (0:Int)<((2^m:Nat):Int) by omega)
   rw [Int.mul_comm ((2^(k+1):Nat):Int),hpwI,Int.mul_assoc] at this
   omega
  have w1:IntKind.wrap .i64 ((v:Int)*((2^m:Nat):Int))=x*((2^m:Nat):Int):=by
   rcases hvx with ⟨h,-⟩|⟨h,-⟩
   ·rw [h];exact wrap64 (by omega)
   ·rw [h,Int.add_mul,Int.mul_comm ((2^(k+1):Nat):Int),hpwI]
    generalize x*((2^m:Nat):Int)=y at b1 b2 ⊢
    have hx0:y<0∨0≤y:=by omega
    simp only [IntKind.wrap,IntKind.bits,IntKind.signed]
    simp
    split<;>omega
  have s1:gshr .i64 (x*((2^m:Nat):Int)) (m:Int)=x:=by
   show Int.fdiv (x*((2^m:Nat):Int)) (2^(min (m:Int).toNat 64))=x
   rw [Int.toNat_natCast,Nat.min_eq_left (by omega)]
   have e:(2:Int)^m=((2^m:Nat):Int):=by simp
   rw [e,Int.fdiv_eq_ediv_of_nonneg _ (by omega)]
   exact Int.mul_ediv_cancel _ (by omega)
  rw [sh1,w1,s1]
theorem getD_zeros (P:List Int) (n:Nat) (R:List Int) {c:Nat} (hc:c<n):(P++(List.replicate n 0++1::R)).getD (P.length+c) 0=0:=by
 simp only [List.getD_eq_getElem?_getD]
 rw [List.getElem?_append_right (by omega),Nat.add_sub_cancel_left,List.getElem?_append_left (by simpa using hc)]
 simp [hc]
theorem getD_one (P:List Int) (n:Nat) (R:List Int):(P++(List.replicate n 0++1::R)).getD (P.length+n) 0=1:=by
 simp only [List.getD_eq_getElem?_getD]
 rw [List.getElem?_append_right (by omega),Nat.add_sub_cancel_left,List.getElem?_append_right (by simp)]
 simp
theorem rUnary_eq {n lm:Nat} (hn:n≤lm) (hlm:lm<1000000) {P R:List Int} (hok:BitsOk (P++(List.replicate n 0++1::R))) (hlen:(P++(List.replicate n 0++1::R)).length<200000000):
  F_bits_Reader_Unary (rdr P (List.replicate n 0++1::R),(lm:Int))=some ((n:Int),rdr (P++(List.replicate n 0++[1])) R):=by
 obtain ⟨-,hbl⟩:=wL_facts (P++(List.replicate n 0++1::R))
 have hll:(P++(List.replicate n 0++1::R)).length=P.length+n+1+R.length:=by simp;omega
 have e8:IntKind.wrap .i64 ((8:Int)*(((wL (P++(List.replicate n 0++1::R))).1.length:Nat):Int))=(8:Int)*(((wL (P++(List.replicate n 0++1::R))).1.length:Nat):Int):=wrap64 (by omega)
 have hlk:∀ c,c≤n→F_bits_Reader_look (rdr P (List.replicate n 0++1::R),((P.length:Int)+(c:Int)))=some (if c=n then 1 else 0,rdr P (List.replicate n 0++1::R)):=fun c hc=>by
  have:=look_eq hok (by omega) (i:=P.length+c) (by omega) ((P.length:Int),((0:Int),()))
  rw [Int.natCast_add] at this
  refine this.trans ?_
  by_cases e:c=n
  ·subst e;rw [getD_one,if_pos rfl];rfl
  ·rw [getD_zeros P n R (by omega),if_neg e];rfl
 have hend:∀ c:Nat,c≤n→(((P.length:Int)+(c:Int))==(8:Int)*(((wL (P++(List.replicate n 0++1::R))).1.length:Nat):Int))=false:=fun c hc=>by
  simp only [beq_eq_false_iff_ne];omega
 have hP1:IntKind.wrap .i64 ((P.length:Int)+(n:Int)+1)=(((P++(List.replicate n 0++[1])).length:Nat):Int):=by
  rw [wrap64 (by omega)];simp;omega
 have hassoc:P++(List.replicate n 0++1::R)=(P++(List.replicate n 0++[1]))++R:=by simp
 have hre:((rdr P (List.replicate n 0++1::R)).1,((((P++(List.replicate n 0++[1])).length:Nat):Int),(rdr P (List.replicate n 0++1::R)).2.2))=rdr (P++(List.replicate n 0++[1])) R:=by
  unfold rdr;rw [hassoc]
 have hr1:(rdr P (List.replicate n 0++1::R)).1=(wL (P++(List.replicate n 0++1::R))).1:=rfl
 have hloop:=iter_count (f:=F_bits_Reader_Unary_l0) (fun c:Nat=>((lm:Int),((c:Int),((P.length:Int)+(c:Int),(rdr P (List.replicate n 0++1::R),()))))) n (b:=((n:Int),(rdr (P++(List.replicate n 0++[1])) R,())))
  (fun c hc=>by
   have d1:((0:Int)==1)=false:=rfl
   have d2:(((c:Nat):Int)==(lm:Int))=false:=by simp only [beq_eq_false_iff_ne];omega
   have w1:IntKind.wrap .i64 ((c:Int)+1)=((c+1:Nat):Int):=wrap_succ (by omega)
   have w2:IntKind.wrap .i64 ((P.length:Int)+(c:Int)+1)=(P.length:Int)+((c+1:Nat):Int):=by rw [wrap64 (by omega)];omega
   simp only [F_bits_Reader_Unary_l0,hr1,e8,hend c (by omega),cond_false,hlk c (by omega),Option.bind_some,if_neg (Nat.ne_of_lt hc),d1,d2,w1,w2])
  (by
   have d1:((1:Int)==1)=true:=rfl
   simp only [F_bits_Reader_Unary_l0,hr1,e8,hend n (Nat.le_refl _),cond_false,hlk n (Nat.le_refl _),Option.bind_some,if_pos rfl,d1,cond_true,hP1]
   rw [←hr1,hre]
   rfl)
 unfold F_bits_Reader_Unary
 rw [show (rdr P (List.replicate n 0++1::R)).2.2.1=0 from rfl,show (rdr P (List.replicate n 0++1::R)).2.1=(P.length:Int) from rfl]
 have hmx:imax (lm:Int) 0=(lm:Int):=by
  have d:decide ((0:Int) > (lm:Int))=false:=by simp
  simp only [imax,d,cond_false]
 simp only [Int.natCast_zero,Int.add_zero,Int.cast_ofNat_Int] at hloop
 simp only [bne_self_eq_false,cond_false,hmx,hloop,Option.bind_some]
end Go.Ab
namespace Go.Ab
def OkR (P R:List Int):Prop:=BitsOk (P++R)∧(P++R).length<200000000
theorem OkR.shift {P A R:List Int} (h:OkR P (A++R)):OkR (P++A) R:=by
 unfold OkR at h ⊢
 rwa [List.append_assoc]
theorem get_ok {v n:Nat} (hn:n≤62) (hv:v<2^n) {P R:List Int} (h:OkR P (pb (v:Int) n++R)):F_bits_Reader_Get (rdr P (pb (v:Int) n++R),(n:Int))=some ((v:Int),rdr (P++pb (v:Int) n) R):=Get_eq hn hv h.1 h.2
theorem signed_ok {n:Nat} (hn:n≤62) {x:Int} (hf:fitS n x) {P R:List Int} (h:OkR P (pb (maskS x n) n++R)):F_bits_Reader_Signed (rdr P (pb (maskS x n) n++R),(n:Int))=some (x,rdr (P++pb (maskS x n) n) R):=Signed_eq hn hf h.1 h.2
def unB (n:Nat):List Int:=List.replicate n 0++[1]
theorem unary_ok {n lm:Nat} (hn:n≤lm) (hlm:lm<1000000) {P R:List Int} (h:OkR P (unB n++R)):F_bits_Reader_Unary (rdr P (unB n++R),(lm:Int))=some ((n:Int),rdr (P++unB n) R):=by
 have e:unB n++R=List.replicate n 0++1::R:=by simp [unB]
 rw [e] at h ⊢
 exact rUnary_eq hn hlm h.1 h.2
theorem putL_app {v n:Nat} (hn:n≤63) (hv:v<2^n) (L:List Int):putL (v:Int) n L=L++pb (v:Int) n:=by
 unfold putL
 rw [gshru_nat (N:=v) (o:=n) (by omega),Nat.div_eq_of_lt hv]
 simp
def riceB (k:Nat) (x:Int):List Int:=
 if foldN x / 2^k<32 then unB (foldN x / 2^k)++pb ((foldN x%2^k:Nat):Int) k else unB 32++pb ((foldN x:Nat):Int) 32
theorem riceL_app {k:Nat} (hk:k≤25) {x:Int} (hx:wideB x=true) (L:List Int):riceL k x L=L++riceB k x:=by
 have hlt:=foldN_lt hx
 unfold riceL riceB
 split
 ·rw [putL_app (by omega) (Nat.mod_lt _ (Nat.two_pow_pos k))]
  simp [unL,unB]
 ·rw [putL_app (by omega) (by omega)]
  simp [unL,unB]
theorem Unfold_eq {x:Int} (hx:wideB x=true):F_rice_Unfold ((foldN x:Nat):Int)=some x:=by
 have hlt:=foldN_lt hx
 have hw:=wideB_iff.1 hx
 have ht:Int.tmod ((foldN x:Nat):Int) 2=((foldN x:Nat):Int)%2:=Int.tmod_eq_emod_of_nonneg (by omega)
 have hd:Int.tdiv ((foldN x:Nat):Int) 2=((foldN x:Nat):Int) / 2:=Int.tdiv_eq_ediv_of_nonneg (by omega)
 have d1:decide (((foldN x:Nat):Int)≥2147483648)=false:=by simp only [ge_iff_le,decide_eq_false_iff_not];omega
 unfold F_rice_Unfold
 simp only [d1,cond_false,ht,hd]
 by_cases h0:0≤x
 ·have e:((foldN x:Nat):Int)=2*x:=by unfold foldN;rw [if_pos h0];omega
  rw [e]
  have d2:((2*x)%2==(0:Int))=true:=by simp only [beq_iff_eq];omega
  have e2:2*x / 2=x:=by omega
  simp only [d2,cond_true,e2]
  rw [wrapu64 (by omega),wrap64 (by omega)]
 ·have e:((foldN x:Nat):Int)=-2*x-1:=by unfold foldN;rw [if_neg h0];omega
  rw [e]
  have d2:((-2*x-1)%2==(0:Int))=false:=by simp only [beq_eq_false_iff_ne];omega
  have e2:(-2*x-1) / 2=-x-1:=by omega
  simp only [d2,cond_false,e2]
  rw [wrapu64 (n:=-x-1) (by omega),wrap64 (n:=-x-1) (by omega),wrap64 (n:=0-(-x-1)) (by omega),wrap64 (by omega)]
  congr 1;omega
theorem rice_one_eq {k:Nat} (hk:k≤25) {x:Int} (hx:wideB x=true) {P R:List Int} (h:OkR P (riceB k x++R)):F_rice_one (rdr P (riceB k x++R),(k:Int))=some (x,((0:Int),rdr (P++riceB k x) R)):=by
 have hlt:=foldN_lt hx
 have hunf:=Unfold_eq hx
 unfold F_rice_one F_bits_Reader_Err
 unfold riceB at h ⊢
 have hz:∀ A B:List Int,(rdr A B).2.2.1=0:=fun _ _=>rfl
 split
 ·rename_i hq
  rw [if_pos hq,List.append_assoc] at h
  have h1:=unary_ok (n:=foldN x / 2^k) (lm:=32) (by omega) (by omega) h
  have h2:=get_ok (n:=k) (v:=foldN x%2^k) (by omega) (Nat.mod_lt _ (Nat.two_pow_pos k)) h.shift
  have e1:IntKind.wrap .u64 ((foldN x / 2^k:Nat):Int)=((foldN x / 2^k:Nat):Int):=wrapu_nat (by omega)
  have d1:decide (((foldN x / 2^k:Nat):Int)<32)=true:=by simp only [decide_eq_true_eq];omega
  have d2:decide ((k:Int)<0)=false:=by simp
  have hmul:foldN x / 2^k*2^k≤foldN x:=Nat.div_mul_le_self _ _
  have hsh:gshl .u64 ((foldN x / 2^k:Nat):Int) (k:Int)=((foldN x / 2^k*2^k:Nat):Int):=gshlu_nat (by omega) (by omega)
  have hsum:IntKind.wrap .u64 (((foldN x / 2^k*2^k:Nat):Int)+((foldN x%2^k:Nat):Int))=((foldN x:Nat):Int):=by
   rw [←Int.natCast_add,Nat.div_add_mod',wrapu64 (by omega)]
  rw [List.append_assoc]
  have h1':F_bits_Reader_Unary (rdr P (unB (foldN x / 2^k)++(pb ((foldN x%2^k:Nat):Int) k++R)),(32:Int))=_:=h1
  simp only [h1',Option.bind_some,hz,bne_self_eq_false,cond_false,e1,d1,cond_true,h2,d2,hsh,hsum,hunf]
  rw [List.append_assoc]
 ·rename_i hq
  rw [if_neg hq,List.append_assoc] at h
  have h1:=unary_ok (n:=32) (lm:=32) (by omega) (by omega) h
  have h2:=get_ok (n:=32) (v:=foldN x) (by omega) (by omega) h.shift
  have e1:IntKind.wrap .u64 (32:Int)=32:=wrapu64 (by omega)
  have d1:decide ((32:Int)<32)=false:=by simp
  have d2:decide ((k:Int)<0)=false:=by simp
  have d3:decide (((foldN x:Nat):Int)≥2147483648)=false:=by simp only [ge_iff_le,decide_eq_false_iff_not];omega
  have hsr:gshr .u64 ((foldN x:Nat):Int) (k:Int)=((foldN x / 2^k:Nat):Int):=gshru_nat (by omega)
  have d4:decide (((foldN x / 2^k:Nat):Int)<32)=false:=by simp only [decide_eq_false_iff_not];omega
  rw [List.append_assoc]
  have h1':F_bits_Reader_Unary (rdr P (unB 32++(pb ((foldN x:Nat):Int) 32++R)),(32:Int))=some ((32:Int),_):=h1
  have h2':F_bits_Reader_Get (rdr (P++unB 32) (pb ((foldN x:Nat):Int) 32++R),(32:Int))=_:=h2
  simp only [h1',Option.bind_some,hz,bne_self_eq_false,cond_false,e1,d1,h2',d2,d3,hsr,d4,hunf]
  rw [List.append_assoc]
def ricesB (k:Nat) (l:List Int):List Int:=l.flatMap (riceB k)
theorem ricesL_app {k:Nat} (hk:k≤25):∀ (l L:List Int),l.all wideB=true→ricesL k l L=L++ricesB k l
 | [],L,_=>by simp [ricesL,ricesB]
 |x::l,L,h=>by
  simp only [List.all_cons,Bool.and_eq_true] at h
  show ricesL k l (riceL k x L)=_
  rw [ricesL_app hk l _ h.2,riceL_app hk h.1]
  simp [ricesB]
theorem rice_get_from {k:Nat} (hk:k≤25) {N:Nat} (hN:N<1000000):∀ (l done P R:List Int),l.all wideB=true→done.length+l.length=N→OkR P (ricesB k l++R)→
  iter F_rice_Get_l0 ((k:Int),((N:Int),((done.length:Int),(done,(rdr P (ricesB k l++R),())))))=some (Sum.inl (done++l,(rdr (P++ricesB k l) R,())))
 | [],done,P,R,_,hl,_=>by
  have:done.length=N:=by simpa using hl
  subst this
  have d:decide ((done.length:Int)<(done.length:Int))=false:=by simp
  rw [iter_done (b:=Sum.inl (done,(rdr P R,()))) (by simp only [F_rice_Get_l0,d,cond_false];simp [ricesB])]
  simp [ricesB]
 |x::l,done,P,R,h,hl,hok=>by
  simp only [List.all_cons,Bool.and_eq_true] at h
  rw [List.length_cons] at hl
  have e:ricesB k (x::l)++R=riceB k x++(ricesB k l++R):=by simp [ricesB]
  rw [e] at hok ⊢
  have d:decide ((done.length:Int)<(N:Int))=true:=by simp;omega
  have h1:=rice_one_eq hk h.1 hok
  have hlm:lim (List.length done+1)=true:=lim_of (by omega)
  have hw:IntKind.wrap .i64 ((done.length:Int)+1)=(((done++[x]).length:Nat):Int):=by rw [wrap64 (by omega)];simp
  rw [iter_step (s':=((k:Int),((N:Int),((((done++[x]).length:Nat):Int),(done++[x],(rdr (P++riceB k x) (ricesB k l++R),())))))) (by
   simp only [F_rice_Get_l0,d,cond_true,h1,Option.bind_some,bne_self_eq_false,cond_false,hlm,hw,List.append_eq])]
  rw [rice_get_from hk hN l (done++[x]) (P++riceB k x) R h.2 (by simp;omega) hok.shift]
  simp [ricesB]
theorem rice_Get_eq {k:Nat} (hk:k≤25) {l P R:List Int} (h:l.all wideB=true) (hl:l.length<1000000) (hok:OkR P (ricesB k l++R)):
  F_rice_Get (rdr P (ricesB k l++R),((k:Int),((l.length:Nat):Int)))=some (l,((0:Int),rdr (P++ricesB k l) R)):=by
 have hp:F_rice_parameter (k:Int)=some true:=by
  unfold F_rice_parameter
  have d1:decide ((k:Int)≥0)=true:=by simp
  have d2:decide ((k:Int)≤25)=true:=by simp;omega
  simp [d1,d2]
 have d1:decide (((l.length:Nat):Int)<0)=false:=by simp
 have d2:decide (((l.length:Nat):Int) > 4194304)=false:=by simp;omega
 have hz:∀ A B:List Int,(rdr A B).2.2.1=0:=fun _ _=>rfl
 have hlp:=rice_get_from hk hl l [] P R h (by simp) hok
 simp only [List.length_nil,Int.natCast_zero,List.nil_append,Int.cast_ofNat_Int] at hlp
 unfold F_rice_Get F_bits_Reader_Err
 simp only [hp,Option.bind_some,Bool.not_true,cond_false,d1,d2,hz,bne_self_eq_false]
 erw [hlp]
 rfl
end Go.Ab
namespace Go.Ab
theorem fitS_inW {x:Int} {v:Nat} (h:inW x v=true):fitS v x:=by
 have hp:=Nat.two_pow_pos v
 rcases inW_iff.1 h with rfl|⟨h1,-,h3,h4⟩
 ·exact ⟨by omega,by omega⟩
 ·have e:2^v=2^(v-1)*2:=by rw [←Nat.pow_succ];congr 1;omega
  unfold fitS
  rw [e]
  omega
theorem fitS_width {l:List Int} (h:l.all wideB=true):∀ x∈l,fitS (widthN l) x:=fun x hx=>fitS_inW (width_in h x hx)
def sB (n:Nat) (l:List Int):List Int:=l.flatMap fun x=>pb (maskS x n) n
theorem putsL_app {n:Nat} (hn:n≤62):∀ (l L:List Int),putsL n l L=L++sB n l
 | [],L=>by simp [putsL,sB]
 |x::l,L=>by
  show putsL n l (putL (maskS x n) n L)=_
  obtain ⟨v,hv,hlt,-⟩:=maskS_nat hn x
  rw [putsL_app hn l,hv,putL_app (by omega) hlt,←hv]
  simp [sB]
theorem sB_cons (n:Nat) (x:Int) (l R:List Int):sB n (x::l)++R=pb (maskS x n) n++(sB n l++R):=by simp [sB]
theorem parts_raw_from {k:Int} {n:Nat} (hn:n≤62) {N:Nat} (hN:N<1000000):∀ (l done P R:List Int),(∀ x∈l,fitS n x)→done.length+l.length=N→OkR P (sB n l++R)→
  iter F_parts_one_l0 (k,((n:Int),((N:Int),((done.length:Int),(done,(rdr P (sB n l++R),()))))))=some (k,((n:Int),(done++l,(rdr (P++sB n l) R,()))))
 | [],done,P,R,_,hl,_=>by
  have:done.length=N:=by simpa using hl
  subst this
  have d:decide ((done.length:Int)<(done.length:Int))=false:=by simp
  rw [iter_done (b:=(k,((n:Int),(done,(rdr P R,()))))) (by simp only [F_parts_one_l0,d,cond_false];simp [sB])]
  simp [sB]
 |x::l,done,P,R,h,hl,hok=>by
  rw [List.length_cons] at hl
  rw [sB_cons] at hok ⊢
  have d:decide ((done.length:Int)<(N:Int))=true:=by simp;omega
  have h1:=signed_ok hn (h x (by simp)) hok
  have hlm:lim (List.length done+1)=true:=lim_of (by omega)
  have hw:IntKind.wrap .i64 ((done.length:Int)+1)=(((done++[x]).length:Nat):Int):=by rw [wrap64 (by omega)];simp
  rw [iter_step (s':=(k,((n:Int),((N:Int),((((done++[x]).length:Nat):Int),(done++[x],(rdr (P++pb (maskS x n) n) (sB n l++R),()))))))) (by
   simp only [F_parts_one_l0,d,cond_true,h1,Option.bind_some,hlm,hw,List.append_eq])]
  rw [parts_raw_from hn hN l (done++[x]) _ R (fun y hy=>h y (by simp [hy])) (by simp;omega) hok.shift]
  simp [sB]
def partB (k:Int) (part:List Int):List Int:=if k=31 then pb 31 5++(pb ((widthN part:Nat):Int) 5++sB (widthN part) part) else pb k 5++ricesB k.toNat part
theorem partL_app {k:Int} (hk:kB k=true) {part:List Int} (hw:part.all wideB=true) (L:List Int):partL k part L=L++partB k part:=by
 have hwd:=widthN_wide hw
 simp only [kB,Bool.or_eq_true,Bool.and_eq_true,decide_eq_true_eq,beq_iff_eq] at hk
 obtain ⟨K,rfl⟩:=Int.eq_ofNat_of_zero_le (show 0≤k by omega)
 unfold partL partB
 rw [wrapu_nat (by omega)]
 have hA:=putL_app (v:=K) (n:=5) (by omega) (by omega) L
 split
 ·rename_i h31
  rw [putsL_app (by omega),putL_app (v:=widthN part) (n:=5) (by omega) (by omega),hA,h31]
  simp
 ·rw [ricesL_app (by omega) _ _ hw,hA]
  simp
theorem parts_one_eq {k:Int} (hk:kB k=true) {part:List Int} (hw:part.all wideB=true) (hl:part.length<1000000) {P R:List Int} (hok:OkR P (partB k part++R)):
  F_parts_one (rdr P (partB k part++R),((part.length:Nat):Int))=some (k,(part,((0:Int),rdr (P++partB k part) R))):=by
 have hwd:=widthN_wide hw
 have hz:∀ A B:List Int,(rdr A B).2.2.1=0:=fun _ _=>rfl
 simp only [kB,Bool.or_eq_true,Bool.and_eq_true,decide_eq_true_eq,beq_iff_eq] at hk
 obtain ⟨K,rfl⟩:=Int.eq_ofNat_of_zero_le (show 0≤k by omega)
 unfold F_parts_one F_bits_Reader_Err
 unfold partB at hok ⊢
 split
 ·rename_i h31
  rw [if_pos h31,List.append_assoc,List.append_assoc] at hok
  rw [List.append_assoc,List.append_assoc]
  obtain rfl:K=31:=by omega
  have h1:F_bits_Reader_Get (rdr P (pb 31 5++(pb ((widthN part:Nat):Int) 5++(sB (widthN part) part++R))),(5:Int))=_:=get_ok (v:=31) (n:=5) (by omega) (by omega) hok
  have hok2:=hok.shift
  have h2:F_bits_Reader_Get (rdr (P++pb 31 5) (pb ((widthN part:Nat):Int) 5++(sB (widthN part) part++R)),(5:Int))=_:=get_ok (v:=widthN part) (n:=5) (by omega) (by omega) hok2
  have hlp:=parts_raw_from (k:=31) (n:=widthN part) (by omega) hl part [] _ R (fitS_width hw) (by simp) hok2.shift
  simp only [List.length_nil,Int.natCast_zero,List.nil_append,Int.cast_ofNat_Int] at hlp
  have w1:IntKind.wrap .i64 ((31:Nat):Int)=31:=by decide
  have w2:IntKind.wrap .i64 ((widthN part:Nat):Int)=((widthN part:Nat):Int):=wrap64 (by omega)
  have d1:decide ((31:Int)≤25)=false:=by decide
  have d2:((31:Int) != 31)=false:=by decide
  rw [h1]
  simp only [Option.bind_some,hz,bne_self_eq_false,cond_false,w1,d1]
  erw [h2]
  simp only [Option.bind_some,w2]
  erw [hlp]
  simp only [Option.bind_some,hz,bne_self_eq_false,cond_false,sample_Width_eq (show short part from hl)]
  simp
 ·rename_i h31
  rw [if_neg h31,List.append_assoc] at hok
  rw [List.append_assoc]
  have hK:K≤25:=by omega
  have h1:F_bits_Reader_Get (rdr P (pb (K:Int) 5++(ricesB ((K:Int).toNat) part++R)),(5:Int))=_:=get_ok (v:=K) (n:=5) (by omega) (by omega) hok
  have hr:=rice_Get_eq hK hw hl hok.shift
  have w1:IntKind.wrap .i64 (K:Int)=(K:Int):=wrap64 (by omega)
  have d1:decide ((K:Int)≤25)=true:=by simp;omega
  rw [h1]
  simp only [Option.bind_some,hz,bne_self_eq_false,cond_false,w1,d1,cond_true]
  erw [hr]
  simp
end Go.Ab
namespace Go.Ab
def partsBs:List Nat→List Int→List Int→List Int
 |z::zs,k::ks,l=>partB k (l.take z)++partsBs zs ks (l.drop z)
 |_,_,_=>[]
theorem wide_take {l:List Int} (h:l.all wideB=true) (z:Nat):(l.take z).all wideB=true:=List.all_eq_true.2 fun x hx=>List.all_eq_true.1 h x (List.mem_of_mem_take hx)
theorem wide_drop {l:List Int} (h:l.all wideB=true) (z:Nat):(l.drop z).all wideB=true:=List.all_eq_true.2 fun x hx=>List.all_eq_true.1 h x (List.mem_of_mem_drop hx)
theorem partsL_app:∀ (zs:List Nat) (ks l L:List Int),ks.all kB=true→l.all wideB=true→partsL zs ks l L=L++partsBs zs ks l
 |z::zs,k::ks,l,L,hk,hw=>by
  simp only [List.all_cons,Bool.and_eq_true] at hk
  simp only [partsL,partsBs]
  rw [partsL_app zs ks _ _ hk.2 (wide_drop hw z),partL_app hk.1 (wide_take hw z)]
  simp
 | [],_,_,L,_,_=>by simp [partsL,partsBs]
 |_::_,[],_,L,_,_=>by simp [partsL,partsBs]
theorem castZ_mid (dz:List Nat) (z:Nat) (zs:List Nat):(castZ (dz++z::zs)).getD dz.length 0=(z:Int):=by
 simp [castZ,List.getD_eq_getElem?_getD]
theorem parts_get_from {o:Int} {z0:Prt}:∀ (zs:List Nat) (ks l dk acc P R:List Int) (dz:List Nat),ks.length=zs.length→ks.all kB=true→zs.sum=l.length→l.all wideB=true→
  dk.length=dz.length→(dz++zs).length≤256→acc.length+l.length≤10000→OkR P (partsBs zs ks l++R)→
  iter F_parts_Get_l0 (((castZ (dz++zs)).length:Int),((dz.length:Int),(acc,(castZ (dz++zs),(rdr P (partsBs zs ks l++R),(z0,((o,(dk,())),()))))))) =
   some (Sum.inl (acc++l,(z0,((o,(dk++ks,())),(rdr (P++partsBs zs ks l) R,())))))
 | [],ks,l,dk,acc,P,R,dz,hk,_,hs,_,_,_,_,_=>by
  obtain rfl:ks=[]:=List.length_eq_zero_iff.1 hk
  obtain rfl:l=[]:=List.length_eq_zero_iff.1 (by simpa using hs.symm)
  have d:decide ((dz.length:Int)<((castZ (dz++[])).length:Int))=false:=by simp [castZ_length]
  rw [iter_done (b:=Sum.inl (acc,(z0,((o,(dk,())),(rdr P R,()))))) (by simp only [F_parts_Get_l0,d,cond_false];simp [partsBs])]
  simp [partsBs]
 |z::zs,[],_,_,_,_,_,_,hk,_,_,_,_,_,_,_=>by simp at hk
 |z::zs,k::ks,l,dk,acc,P,R,dz,hk,hkb,hs,hw,hd,h256,hacc,hok=>by
  simp only [List.all_cons,Bool.and_eq_true] at hkb
  rw [List.sum_cons] at hs
  have hz:z≤l.length:=by omega
  have htl:(l.take z).length=z:=by rw [List.length_take];omega
  have e:partsBs (z::zs) (k::ks) l++R=partB k (l.take z)++(partsBs zs ks (l.drop z)++R):=by simp [partsBs]
  rw [e] at hok ⊢
  have hlen:(castZ (dz++z::zs)).length=dz.length+1+zs.length:=by rw [castZ_length];simp;omega
  have d:decide ((dz.length:Int)<((castZ (dz++z::zs)).length:Int))=true:=by simp only [decide_eq_true_eq];omega
  have d0:decide ((0:Int)≤(dz.length:Int))=true:=by simp
  have hone:=parts_one_eq hkb.1 (wide_take hw z) (by omega) hok
  rw [htl] at hone
  have hz0:((0:Int) != 0)=false:=rfl
  rw [List.length_append,List.length_cons] at h256
  have hlm1:lim (List.length dk+1)=true:=lim_of (by omega)
  have hlm2:lim (List.length acc+List.length (l.take z))=true:=lim_of (by omega)
  have hw1:IntKind.wrap .i64 ((dz.length:Int)+1)=(((dz++[z]).length:Nat):Int):=by rw [wrap64 (by omega)];simp
  have ea:dz++z::zs=(dz++[z])++zs:=by simp
  rw [iter_step (s':=(((castZ ((dz++[z])++zs)).length:Int),((((dz++[z]).length:Nat):Int),(acc++l.take z,(castZ ((dz++[z])++zs),(rdr (P++partB k (l.take z)) (partsBs zs ks (l.drop z)++R),(z0,((o,(dk++[k],())),())))))))) (by
   simp only [F_parts_Get_l0,d,d0,Bool.and_self,cond_true,Int.toNat_natCast,castZ_mid,hone,Option.bind_some,hz0,cond_false,hlm1,hlm2,hw1,List.append_eq]
   rw [ea])]
  rw [parts_get_from zs ks (l.drop z) (dk++[k]) (acc++l.take z) _ R (dz++[z]) (by simpa using hk) hkb.2 (by rw [List.length_drop];omega) (wide_drop hw z) (by simp [hd]) (by simp;omega) (by simp;omega) hok.shift]
  simp [partsBs]
def partsPutB (p:Prt) (zn:List Nat) (l:List Int):List Int:=pb p.1 4++partsBs zn p.2.1 l
theorem partsPutL_app {p:Prt} {n warm:Int} {l:List Int} {zn:List Nat} (h:PartsOk p n warm l zn) (L:List Int):partsPutL p zn l L=L++partsPutB p zn l:=by
 obtain ⟨o,ks,u⟩:=p
 have ho:=h.order
 simp only at ho
 obtain ⟨O,rfl⟩:=Int.eq_ofNat_of_zero_le ho.1
 unfold partsPutL partsPutB
 simp only
 rw [wrapu_nat (by omega),putL_app (n:=4) (by omega) (by omega),partsL_app _ _ _ _ h.all h.wide]
 simp
theorem parts_Get_eq {p:Prt} {n warm:Int} {l:List Int} {zn:List Nat} (h:PartsOk p n warm l zn) {P R:List Int} (hok:OkR P (partsPutB p zn l++R)):
  F_parts_Get (rdr P (partsPutB p zn l++R),(n,warm))=some (p,(l,((0:Int),rdr (P++partsPutB p zn l) R))):=by
 obtain ⟨o,ks,u⟩:=p
 have ho:=h.order
 have h5:=h.short
 have hlen:=h.len
 simp only at ho
 obtain ⟨O,rfl⟩:=Int.eq_ofNat_of_zero_le ho.1
 have hz:∀ A B:List Int,(rdr A B).2.2.1=0:=fun _ _=>rfl
 have hmay:=h.may
 unfold partsB at hmay
 simp only [Bool.and_eq_true,Bool.not_eq_true',beq_eq_false_iff_ne] at hmay
 have hs:=h.sizes
 simp only at hs
 have hne:(((castZ zn).length:Int)==0)=false:=by
  rw [beq_eq_false_iff_ne]
  have:=hmay.1
  rw [hs] at this
  omega
 unfold partsPutB at hok ⊢
 simp only at hok ⊢
 rw [List.append_assoc] at hok ⊢
 have h1:F_bits_Reader_Get (rdr P (pb (O:Int) 4++(partsBs zn ks l++R)),(4:Int))=_:=get_ok (v:=O) (n:=4) (by omega) (by omega) hok
 have w1:IntKind.wrap .i64 (O:Int)=(O:Int):=wrap64 (by omega)
 have hlp:=parts_get_from (o:=(O:Int)) (z0:=((0:Int),(([]:List Int),()))) zn ks l [] [] _ R [] h.ks h.all h.sum h.wide rfl (by simpa using hlen) (by simp;omega) hok.shift
 simp only [List.length_nil,Int.natCast_zero,List.nil_append,Int.cast_ofNat_Int] at hlp
 unfold F_parts_Get F_bits_Reader_Err
 simp only [parts_row_eq,h.row,Option.bind_some,Bool.not_true,cond_false]
 rw [h1]
 simp only [Option.bind_some,hz,bne_self_eq_false,cond_false,w1,parts_Sizes_eq,hs,hne]
 erw [hlp]
 simp
def coefsB (s:Sub):List Int:=
 pb ((s.2.2.2.2.2.1.length-1:Nat):Int) 5++(pb s.2.2.2.1 4++(pb ((widthN s.2.2.2.2.2.1:Nat):Int) 5++sB (widthN s.2.2.2.2.2.1) s.2.2.2.2.2.1))
theorem lin_facts {c:List Int} {t:Int} (h:linB c t=true):1≤c.length∧c.length≤32∧0≤t∧t≤15∧c.all wideB=true:=by
 simp only [linB,Bool.and_eq_true,decide_eq_true_eq] at h
 obtain ⟨h1,h2,h3,h4,h5⟩:=h
 refine ⟨h1,h2,h3,h4,List.all_eq_true.2 fun x hx=>?_⟩
 have:=List.all_eq_true.1 h5 x hx
 simp only [coefB,Bool.and_eq_true,decide_eq_true_eq] at this
 rw [wideB_iff];omega
theorem coefsL_app {s:Sub} (h:linB s.2.2.2.2.2.1 s.2.2.2.1=true) (L:List Int):coefsL s L=L++coefsB s:=by
 obtain ⟨h1,h2,h3,h4,h5⟩:=lin_facts h
 have hwd:=widthN_wide h5
 unfold coefsL coefsB
 generalize s.2.2.2.2.2.1=c at *
 generalize s.2.2.2.1=t at *
 obtain ⟨T,rfl⟩:=Int.eq_ofNat_of_zero_le h3
 have e1:IntKind.wrap .u64 (IntKind.wrap .i64 (((c.length:Nat):Int)-1))=((c.length-1:Nat):Int):=by rw [wrap64 (by omega),wrapu64 (by omega)];omega
 have e2:IntKind.wrap .u64 (T:Int)=(T:Int):=wrapu64 (by omega)
 rw [e1,e2,putsL_app (by omega),putL_app (v:=widthN c) (n:=5) (by omega) (by omega),putL_app (v:=T) (n:=4) (by omega) (by omega),putL_app (v:=c.length-1) (n:=5) (by omega) (by omega)]
 simp
def setC (s:Sub) (c:List Int):Sub:=(s.1,(s.2.1,(s.2.2.1,(s.2.2.2.1,(s.2.2.2.2.1,(c,s.2.2.2.2.2.2))))))
def setT (s:Sub) (t:Int):Sub:=(s.1,(s.2.1,(s.2.2.1,(t,s.2.2.2.2))))
theorem coefs_from {n:Nat} (hn:n≤62) {N:Nat} (hN:N<1000000) (s:Sub):∀ (l done P R:List Int),(∀ x∈l,fitS n x)→done.length+l.length=N→OkR P (sB n l++R)→
  iter F_sub_getCoefs_l0 ((n:Int),((N:Int),((done.length:Int),(rdr P (sB n l++R),(setC s done,())))))=some ((n:Int),(setC s (done++l),(rdr (P++sB n l) R,())))
 | [],done,P,R,_,hl,_=>by
  have:done.length=N:=by simpa using hl
  subst this
  have d:decide ((done.length:Int)<(done.length:Int))=false:=by simp
  rw [iter_done (b:=((n:Int),(setC s done,(rdr P R,())))) (by simp only [F_sub_getCoefs_l0,d,cond_false];simp [sB])]
  simp [sB]
 |x::l,done,P,R,h,hl,hok=>by
  rw [List.length_cons] at hl
  rw [sB_cons] at hok ⊢
  have d:decide ((done.length:Int)<(N:Int))=true:=by simp;omega
  have h1:=signed_ok hn (h x (by simp)) hok
  have hlm:lim (List.length done+1)=true:=lim_of (by omega)
  have hw:IntKind.wrap .i64 ((done.length:Int)+1)=(((done++[x]).length:Nat):Int):=by rw [wrap64 (by omega)];simp
  rw [iter_step (s':=((n:Int),((N:Int),((((done++[x]).length:Nat):Int),(rdr (P++pb (maskS x n) n) (sB n l++R),(setC s (done++[x]),())))))) (by
   simp only [F_sub_getCoefs_l0,d,cond_true,h1,Option.bind_some,setC,hlm,hw,List.append_eq])]
  rw [coefs_from hn hN s l (done++[x]) _ R (fun y hy=>h y (by simp [hy])) (by simp;omega) hok.shift]
  simp [sB]
theorem getCoefs_eq {s s0:Sub} (h:linB s.2.2.2.2.2.1 s.2.2.2.1=true) (h0:s0.2.2.2.2.2.1=[]) {P R:List Int} (hok:OkR P (coefsB s++R)):
  F_sub_getCoefs (rdr P (coefsB s++R),s0)=some (true,(rdr (P++coefsB s) R,setC (setT s0 s.2.2.2.1) s.2.2.2.2.2.1)):=by
 obtain ⟨h1,h2,h3,h4,h5⟩:=lin_facts h
 have hwd:=widthN_wide h5
 unfold coefsB at hok ⊢
 generalize s.2.2.2.2.2.1=c at *
 generalize s.2.2.2.1=t at *
 obtain ⟨T,rfl⟩:=Int.eq_ofNat_of_zero_le h3
 simp only [List.append_assoc] at hok ⊢
 have g1:F_bits_Reader_Get (rdr P (pb ((c.length-1:Nat):Int) 5++(pb (T:Int) 4++(pb ((widthN c:Nat):Int) 5++(sB (widthN c) c++R)))),(5:Int))=_:=get_ok (v:=c.length-1) (n:=5) (by omega) (by omega) hok
 have hok2:=hok.shift
 have g2:F_bits_Reader_Get (rdr (P++pb ((c.length-1:Nat):Int) 5) (pb (T:Int) 4++(pb ((widthN c:Nat):Int) 5++(sB (widthN c) c++R))),(4:Int))=_:=get_ok (v:=T) (n:=4) (by omega) (by omega) hok2
 have hok3:=hok2.shift
 have g3:F_bits_Reader_Get (rdr (P++pb ((c.length-1:Nat):Int) 5++pb (T:Int) 4) (pb ((widthN c:Nat):Int) 5++(sB (widthN c) c++R)),(5:Int))=_:=get_ok (v:=widthN c) (n:=5) (by omega) (by omega) hok3
 have hlp:=coefs_from (n:=widthN c) (by omega) (N:=c.length) (by omega) (setT s0 (T:Int)) c [] _ R (fitS_width h5) (by simp) hok3.shift
 simp only [List.length_nil,Int.natCast_zero,List.nil_append,Int.cast_ofNat_Int] at hlp
 have w1:IntKind.wrap .i64 ((c.length-1:Nat):Int)=((c.length-1:Nat):Int):=wrap64 (by omega)
 have w2:IntKind.wrap .i64 (((c.length-1:Nat):Int)+1)=(c.length:Int):=by rw [wrap64 (by omega)];omega
 have w3:IntKind.wrap .i64 (T:Int)=(T:Int):=wrap64 (by omega)
 have w4:IntKind.wrap .i64 ((widthN c:Nat):Int)=((widthN c:Nat):Int):=wrap64 (by omega)
 have hs0:((s0.1,(s0.2.1,(s0.2.2.1,((T:Int),s0.2.2.2.2)))):Sub)=setC (setT s0 (T:Int)) []:=by
  unfold setC setT
  rw [←h0]
 unfold F_sub_getCoefs
 rw [g1]
 simp only [Option.bind_some]
 rw [g2]
 simp only [Option.bind_some]
 rw [g3]
 simp only [Option.bind_some,w1,w2,w3,w4]
 erw [hs0,hlp]
 simp only [Option.bind_some]
 rw [show (setC (setT s0 (T:Int)) c).2.2.2.2.2.1=c from rfl,sample_Width_eq (show short c by unfold short;omega)]
 simp
end Go.Ab
namespace Go.Ab
def stgB (st:List Stg):List Int:=st.flatMap fun g=>pb (g.1-1) 5++pb g.2.1 4
theorem stage_facts {g:Stg} (h:Ab.stageB g=true):1≤g.1∧g.1≤32∧0≤g.2.1∧g.2.1≤8:=by
 simp only [Ab.stageB,Bool.and_eq_true,decide_eq_true_eq] at h
 exact ⟨h.1,h.2.1,h.2.2.1,h.2.2.2⟩
theorem stagesL_app:∀ (st:List Stg) (L:List Int),st.all Ab.stageB=true→stagesL st L=L++stgB st
 | [],L,_=>by simp [stagesL,stgB]
 |g::st,L,h=>by
  simp only [List.all_cons,Bool.and_eq_true] at h
  obtain ⟨h1,h2,h3,h4⟩:=stage_facts h.1
  show stagesL st (stageL g L)=_
  rw [stagesL_app st _ h.2]
  obtain ⟨a,b,u⟩:=g
  simp only at h1 h2 h3 h4
  obtain ⟨B,rfl⟩:=Int.eq_ofNat_of_zero_le h3
  obtain ⟨A,hA⟩:=Int.eq_ofNat_of_zero_le (show 0≤a-1 by omega)
  unfold stageL
  simp only
  rw [hA,wrap_nat (q:=A) (by omega),wrapu_nat (q:=A) (by omega),wrapu_nat (q:=B) (by omega),putL_app (v:=A) (n:=5) (by omega) (by omega),putL_app (v:=B) (n:=4) (by omega) (by omega)]
  simp [stgB,hA]
def kindB (s:Sub):List Int:=
 if s.1=2 then pb s.2.2.1 3
 else if s.1=3 then coefsB s
 else if s.1=4 then pb (s.2.2.2.2.1-1) 10++(sB 8 s.2.2.2.2.2.2.1++coefsB s)
 else if s.1=5 then pb ((s.2.2.2.2.2.2.2.1.length:Nat):Int) 2++stgB s.2.2.2.2.2.2.2.1
 else []
theorem kindL_app {s:Sub} {n:Int} (h:fitP s.1 s n) (L:List Int):kindL s L=L++kindB s:=by
 unfold kindL kindB
 rcases h with k|k|⟨k,h1,h2,-⟩|⟨k,h1,-⟩|⟨k,h1,-,h3⟩|⟨k,h1,h2⟩
 ·simp [k]
 ·simp [k]
 ·rw [if_pos k,if_pos k]
  obtain ⟨A,hA⟩:=Int.eq_ofNat_of_zero_le h1
  rw [hA,wrapu_nat (by omega),putL_app (n:=3) (by omega) (by omega)]
 ·rw [if_neg (by omega),if_pos k,if_neg (by omega),if_pos k,coefsL_app h1]
 ·rw [if_neg (by omega),if_neg (by omega),if_pos k,if_neg (by omega),if_neg (by omega),if_pos k,coefsL_app h1,putsL_app (by omega)]
  simp only [longB,Bool.and_eq_true,decide_eq_true_eq] at h3
  obtain ⟨A,hA⟩:=Int.eq_ofNat_of_zero_le (show 0≤s.2.2.2.2.1-1 by omega)
  rw [hA,wrap_nat (by omega),wrapu_nat (by omega),putL_app (n:=10) (by omega) (by omega)]
  simp
 ·rw [if_neg (by omega),if_neg (by omega),if_neg (by omega),if_pos k,if_neg (by omega),if_neg (by omega),if_neg (by omega),if_pos k]
  simp only [learnB,Bool.and_eq_true,decide_eq_true_eq] at h2
  rw [stagesL_app _ _ h2.2,wrapu_nat (by omega),putL_app (n:=2) (by omega) (by omega)]
  simp
def headB (s:Sub):List Int:=pb s.1 3++(pb s.2.1 5++pb ((widthN s.2.2.2.2.2.2.2.2.1:Nat):Int) 5)
theorem headL_app {s:Sub} (hk:0≤s.1∧s.1≤5) (hw:0≤s.2.1∧s.2.1≤30) (ha:s.2.2.2.2.2.2.2.2.1.all wideB=true) (L:List Int):headL s L=L++headB s:=by
 obtain ⟨K,hK⟩:=Int.eq_ofNat_of_zero_le hk.1
 obtain ⟨w,hw'⟩:=Int.eq_ofNat_of_zero_le hw.1
 have:=widthN_wide ha
 unfold headL headB
 rw [hK,hw',wrapu_nat (q:=K) (by omega),wrapu_nat (q:=w) (by omega),putL_app (v:=widthN s.2.2.2.2.2.2.2.2.1) (n:=5) (by omega) (by omega),putL_app (v:=w) (n:=5) (by omega) (by omega),putL_app (v:=K) (n:=3) (by omega) (by omega)]
 simp
def bare (s:Sub):Sub:=(s.1,(s.2.1,(s.2.2.1,(s.2.2.2.1,(s.2.2.2.2.1,(s.2.2.2.2.2.1,(s.2.2.2.2.2.2.1,(s.2.2.2.2.2.2.2.1,([],((0,([],())),([],())))))))))))
theorem stages_from {wd N:Nat} {ok:Bool} (hN:N<1000) (k w:Int):∀ (st done:List Stg) (P R:List Int),st.all Ab.stageB=true→done.length+st.length=N→OkR P (stgB st++R)→
  iter F_sub_getHead_l1 ((wd:Int),(ok,((N:Int),((done.length:Int),(rdr P (stgB st++R),((k,(w,(0,(0,(0,([],([0,0,0],(done,([],((0,([],())),([],()))))))))))),())))))) =
   some ((wd:Int),(ok,((k,(w,(0,(0,(0,([],([0,0,0],(done++st,([],((0,([],())),([],()))))))))))),(rdr (P++stgB st) R,()))))
 | [],done,P,R,_,hl,_=>by
  have:done.length=N:=by simpa using hl
  subst this
  have d:decide ((done.length:Int)<(done.length:Int))=false:=by simp
  rw [iter_done (b:=((wd:Int),(ok,((k,(w,(0,(0,(0,([],([0,0,0],(done,([],((0,([],())),([],()))))))))))),(rdr P R,()))))) (by simp only [F_sub_getHead_l1,d,cond_false];simp [stgB])]
  simp [stgB]
 |g::st,done,P,R,h,hl,hok=>by
  simp only [List.all_cons,Bool.and_eq_true] at h
  rw [List.length_cons] at hl
  obtain ⟨h1,h2,h3,h4⟩:=stage_facts h.1
  obtain ⟨a,b,u⟩:=g
  simp only at h1 h2 h3 h4
  obtain ⟨B,rfl⟩:=Int.eq_ofNat_of_zero_le h3
  obtain ⟨A,hA⟩:=Int.eq_ofNat_of_zero_le (show 0≤a-1 by omega)
  obtain rfl:a=(A:Int)+1:=by omega
  have e:stgB (((A:Int)+1,((B:Int),u))::st)++R=pb (A:Int) 5++(pb (B:Int) 4++(stgB st++R)):=by simp [stgB]
  rw [e] at hok ⊢
  have d:decide ((done.length:Int)<(N:Int))=true:=by simp;omega
  have g1:F_bits_Reader_Get (rdr P (pb (A:Int) 5++(pb (B:Int) 4++(stgB st++R))),(5:Int))=_:=get_ok (v:=A) (n:=5) (by omega) (by omega) hok
  have hok2:=hok.shift
  have g2:F_bits_Reader_Get (rdr (P++pb (A:Int) 5) (pb (B:Int) 4++(stgB st++R)),(4:Int))=_:=get_ok (v:=B) (n:=4) (by omega) (by omega) hok2
  have hlm:lim (List.length done+1)=true:=lim_of (by omega)
  have w1:IntKind.wrap .i64 (A:Int)=(A:Int):=wrap64 (by omega)
  have w2:IntKind.wrap .i64 (B:Int)=(B:Int):=wrap64 (by omega)
  have w3:IntKind.wrap .i64 ((A:Int)+1)=(A:Int)+1:=wrap64 (by omega)
  have hw:IntKind.wrap .u64 ((done.length:Int)+1)=(((done++[((A:Int)+1,((B:Int),u))]).length:Nat):Int):=by rw [wrapu64 (by omega)];simp
  rw [iter_step (s':=((wd:Int),ok,(N:Int),(((done++[((A:Int)+1,((B:Int),u))]).length:Nat):Int),rdr (P++pb (A:Int) 5++pb (B:Int) 4) (stgB st++R),(k,w,0,0,0,[],[0,0,0],done++[((A:Int)+1,((B:Int),u))],[],(0,[],()),[],()),())) (by
    simp only [F_sub_getHead_l1,d,cond_true,g1,Option.bind_some,g2,hlm,w1,w2,w3,hw,List.append_eq])]
  rw [stages_from hN k w st (done++[((A:Int)+1,((B:Int),u))]) _ R h.2 (by simp;omega) hok2.shift]
  simp [stgB]
theorem tap_fit {x:Int} (h:tapB x=true):fitS 8 x:=by
 simp only [tapB,Bool.and_eq_true,decide_eq_true_eq] at h
 unfold fitS
 omega
theorem taps_read {wd:Nat} {k w g:Int} {a b c:Int} (ha:tapB a=true) (hb:tapB b=true) (hc:tapB c=true) {P R:List Int} (hok:OkR P (sB 8 [a,b,c]++R)):
  iter F_sub_getHead_l0 ((wd:Int),((0:Int),(rdr P (sB 8 [a,b,c]++R),((k,(w,(0,(0,(g,([],([0,0,0],([],([],((0,([],())),([],()))))))))))),())))) =
   some ((wd:Int),(rdr (P++sB 8 [a,b,c]) R,((k,(w,(0,(0,(g,([],([a,b,c],([],([],((0,([],())),([],()))))))))))),()))):=by
 have e:sB 8 [a,b,c]++R=pb (maskS a 8) 8++(pb (maskS b 8) 8++(pb (maskS c 8) 8++R)):=by simp [sB]
 rw [e] at hok ⊢
 have g1:F_bits_Reader_Signed (rdr P (pb (maskS a 8) 8++(pb (maskS b 8) 8++(pb (maskS c 8) 8++R))),(8:Int))=_:=signed_ok (n:=8) (by omega) (tap_fit ha) hok
 have hok2:=hok.shift
 have g2:F_bits_Reader_Signed (rdr (P++pb (maskS a 8) 8) (pb (maskS b 8) 8++(pb (maskS c 8) 8++R)),(8:Int))=_:=signed_ok (n:=8) (by omega) (tap_fit hb) hok2
 have hok3:=hok2.shift
 have g3:F_bits_Reader_Signed (rdr (P++pb (maskS a 8) 8++pb (maskS b 8) 8) (pb (maskS c 8) 8++R),(8:Int))=_:=signed_ok (n:=8) (by omega) (tap_fit hc) hok3
 have w0:IntKind.wrap .i64 ((0:Int)+1)=1:=by decide
 have w1:IntKind.wrap .i64 ((1:Int)+1)=2:=by decide
 have w2:IntKind.wrap .i64 ((2:Int)+1)=3:=by decide
 have d0:decide ((0:Int)<3)=true:=by decide
 have d0':decide ((0:Int)≤0)=true:=by decide
 have d1:decide ((1:Int)<3)=true:=by decide
 have d1':decide ((0:Int)≤1)=true:=by decide
 have d2:decide ((2:Int)<3)=true:=by decide
 have d2':decide ((0:Int)≤2)=true:=by decide
 have d3:decide ((3:Int)<3)=false:=by decide
 rw [iter_step (s':=((wd:Int),((1:Int),(rdr (P++pb (maskS a 8) 8) (pb (maskS b 8) 8++(pb (maskS c 8) 8++R)),((k,(w,(0,(0,(g,([],([a,0,0],([],([],((0,([],())),([],()))))))))))),()))))) (by
  simp only [F_sub_getHead_l0,d0,d0',Bool.and_self,cond_true,g1,Option.bind_some,w0];rfl)]
 rw [iter_step (s':=((wd:Int),((2:Int),(rdr (P++pb (maskS a 8) 8++pb (maskS b 8) 8) (pb (maskS c 8) 8++R),((k,(w,(0,(0,(g,([],([a,b,0],([],([],((0,([],())),([],()))))))))))),()))))) (by
  simp only [F_sub_getHead_l0,d1,d1',Bool.and_self,cond_true,g2,Option.bind_some,w1];rfl)]
 rw [iter_step (s':=((wd:Int),((3:Int),(rdr (P++pb (maskS a 8) 8++pb (maskS b 8) 8++pb (maskS c 8) 8) R,((k,(w,(0,(0,(g,([],([a,b,c],([],([],((0,([],())),([],()))))))))))),()))))) (by
  simp only [F_sub_getHead_l0,d2,d2',Bool.and_self,cond_true,g3,Option.bind_some,w2];rfl)]
 rw [iter_done (b:=((wd:Int),(rdr (P++pb (maskS a 8) 8++pb (maskS b 8) 8++pb (maskS c 8) 8) R,((k,(w,(0,(0,(g,([],([a,b,c],([],([],((0,([],())),([],()))))))))))),())))) (by
  simp only [F_sub_getHead_l0,d3,cond_false])]
 simp [sB]
end Go.Ab
namespace Go.Ab
theorem getHead_eq {s:Sub} {n:Int} (hs:statedP s n) (ht:s.2.2.2.2.2.2.1.length=3) {P R:List Int} (hok:OkR P (headB s++(kindB s++R))):
  F_sub_getHead (rdr P (headB s++(kindB s++R)))=some (bare s,(((widthN s.2.2.2.2.2.2.2.2.1:Nat):Int),(true,rdr (P++(headB s++kindB s)) R))):=by
 obtain ⟨-,-,hf,ha,hw0,hw30,-,-,hww,-⟩:=hs
 obtain ⟨k,w,o,sh,g,c,t,st,wm,pr,re,u⟩:=s
 have hk:=kind_range hf
 simp only at hk hw0 hw30 hww ht
 have hwd:=widthN_wide hww
 obtain ⟨K,rfl⟩:=Int.eq_ofNat_of_zero_le hk.1
 obtain ⟨W,rfl⟩:=Int.eq_ofNat_of_zero_le hw0
 unfold headB at hok ⊢
 simp only [List.append_assoc] at hok ⊢
 have g1:F_bits_Reader_Get (rdr P (pb (K:Int) 3++(pb (W:Int) 5++(pb ((widthN wm:Nat):Int) 5++(kindB ((K:Int),(W:Int),o,sh,g,c,t,st,wm,pr,re,u)++R)))),(3:Int))=_:=get_ok (v:=K) (n:=3) (by omega) (by omega) hok
 have hok2:=hok.shift
 have g2:F_bits_Reader_Get (rdr (P++pb (K:Int) 3) (pb (W:Int) 5++(pb ((widthN wm:Nat):Int) 5++(kindB ((K:Int),(W:Int),o,sh,g,c,t,st,wm,pr,re,u)++R))),(5:Int))=_:=get_ok (v:=W) (n:=5) (by omega) (by omega) hok2
 have hok3:=hok2.shift
 have g3:F_bits_Reader_Get (rdr (P++pb (K:Int) 3++pb (W:Int) 5) (pb ((widthN wm:Nat):Int) 5++(kindB ((K:Int),(W:Int),o,sh,g,c,t,st,wm,pr,re,u)++R)),(5:Int))=_:=get_ok (v:=widthN wm) (n:=5) (by omega) (by omega) hok3
 have hok4:=hok3.shift
 have wK:IntKind.wrap .i64 (K:Int)=(K:Int):=wrap64 (by omega)
 have wW:IntKind.wrap .i64 (W:Int)=(W:Int):=wrap64 (by omega)
 have wd:IntKind.wrap .i64 ((widthN wm:Nat):Int)=((widthN wm:Nat):Int):=wrap64 (by omega)
 unfold F_sub_getHead
 rw [g1]
 simp only [Option.bind_some]
 rw [g2]
 simp only [Option.bind_some]
 rw [g3]
 simp only [Option.bind_some,wK,wW,wd]
 generalize hX:P++pb (K:Int) 3++pb (W:Int) 5++pb ((widthN wm:Nat):Int) 5=X at hok4 ⊢
 have hX':∀ B:List Int,P++(pb (K:Int) 3++(pb (W:Int) 5++(pb ((widthN wm:Nat):Int) 5++B)))=X++B:=fun B=>by rw [←hX];simp
 rw [hX']
 obtain ⟨a1,a2,a3,a4,a5,a6⟩:=ha
 simp only at a1 a2 a3 a4 a5 a6
 clear g1 g2 g3 hok hok2 hok3 hX hX'
 rcases hf with h|h|⟨h,h1,h2,-⟩|⟨h,h1,-⟩|⟨h,h1,-,h3⟩|⟨h,h1,h2⟩
 ·
  simp only at h
  obtain rfl:=a1 (by omega);obtain rfl:=a2 (by omega);obtain rfl:=a3 (by omega);obtain rfl:=a4 (by omega);obtain rfl:=a5 (by omega);obtain rfl:=a6 (by omega)
  rw [h]
  have hb:kindB ((0:Int),(W:Int),0,0,0,[],[0,0,0],[],wm,pr,re,u)=[]:=rfl
  rw [hb,List.nil_append,List.append_nil]
  rfl
 ·simp only at h
  obtain rfl:=a1 (by omega);obtain rfl:=a2 (by omega);obtain rfl:=a3 (by omega);obtain rfl:=a4 (by omega);obtain rfl:=a5 (by omega);obtain rfl:=a6 (by omega)
  rw [h]
  have hb:kindB ((1:Int),(W:Int),0,0,0,[],[0,0,0],[],wm,pr,re,u)=[]:=rfl
  rw [hb,List.nil_append,List.append_nil]
  rfl
 ·simp only at h h1 h2
  obtain rfl:=a2 (by omega);obtain rfl:=a3 (by omega);obtain rfl:=a4 (by omega);obtain rfl:=a5 (by omega);obtain rfl:=a6 (by omega)
  rw [h] at hok4 ⊢
  obtain ⟨O,rfl⟩:=Int.eq_ofNat_of_zero_le h1
  have hb:kindB ((2:Int),(W:Int),(O:Int),0,0,[],[0,0,0],[],wm,pr,re,u)=pb (O:Int) 3:=rfl
  rw [hb] at hok4 ⊢
  have e:((2:Int)==2)=true:=rfl
  have g4:F_bits_Reader_Get (rdr X (pb (O:Int) 3++R),(3:Int))=_:=get_ok (v:=O) (n:=3) (by omega) (by omega) hok4
  have wO:IntKind.wrap .i64 (O:Int)=(O:Int):=wrap64 (by omega)
  simp only [e,cond_true,g4,Option.bind_some,wO]
  rfl
 ·simp only at h h1
  obtain rfl:=a1 (by omega);obtain rfl:=a3 (by omega);obtain rfl:=a4 (by omega);obtain rfl:=a6 (by omega)
  rw [h] at hok4 ⊢
  have hb:kindB ((3:Int),(W:Int),0,sh,0,c,[0,0,0],[],wm,pr,re,u)=coefsB ((3:Int),(W:Int),0,sh,0,c,[0,0,0],[],wm,pr,re,u):=rfl
  rw [hb] at hok4 ⊢
  have e2:((3:Int)==2)=false:=rfl
  have e4:((3:Int)==4)=false:=rfl
  have e3:((3:Int)==3)=true:=rfl
  have g4:=getCoefs_eq (s:=((3:Int),(W:Int),0,sh,0,c,[0,0,0],[],wm,pr,re,u)) (s0:=((3:Int),(W:Int),0,0,0,[],List.replicate 3 0,[],[],(0,[],()),[],())) h1 rfl hok4
  simp only [e2,e3,e4,cond_true,cond_false,Option.bind_some]
  erw [g4]
  rfl
 ·simp only at h h1 h3
  obtain rfl:=a1 (by omega);obtain rfl:=a6 (by omega)
  rw [h] at hok4 ⊢
  simp only [longB,Bool.and_eq_true,decide_eq_true_eq] at h3
  obtain ⟨h3,h5,h6⟩:=h3
  obtain ⟨A,hA⟩:=Int.eq_ofNat_of_zero_le (show 0≤g-1 by omega)
  obtain rfl:g=(A:Int)+1:=by omega
  obtain ⟨x,y,z,rfl⟩:∃ x y z,t=[x,y,z]:=by
   match t,ht with
   | [x,y,z],_=>exact ⟨x,y,z,rfl⟩
  simp only [List.all_cons,List.all_nil,Bool.and_true,Bool.and_eq_true] at h6
  have hb:kindB ((4:Int),(W:Int),0,sh,(A:Int)+1,c,[x,y,z],[],wm,pr,re,u)=pb (A:Int) 10++(sB 8 [x,y,z]++coefsB ((4:Int),(W:Int),0,sh,(A:Int)+1,c,[x,y,z],[],wm,pr,re,u)):=by
   show pb ((A:Int)+1-1) 10++_=_
   rw [hA]
  rw [hb] at hok4 ⊢
  simp only [List.append_assoc] at hok4 ⊢
  have e2:((4:Int)==2)=false:=rfl
  have e4:((4:Int)==4)=true:=rfl
  have g4:F_bits_Reader_Get (rdr X (pb (A:Int) 10++(sB 8 [x,y,z]++(coefsB ((4:Int),(W:Int),0,sh,(A:Int)+1,c,[x,y,z],[],wm,pr,re,u)++R))),(10:Int))=_:=get_ok (v:=A) (n:=10) (by omega) (by omega) hok4
  have hok5:=hok4.shift
  have wA:IntKind.wrap .i64 (A:Int)=(A:Int):=wrap64 (by omega)
  have wA1:IntKind.wrap .i64 ((A:Int)+1)=(A:Int)+1:=wrap64 (by omega)
  have g5:=taps_read (wd:=widthN wm) (k:=4) (w:=(W:Int)) (g:=(A:Int)+1) h6.1 h6.2.1 h6.2.2 hok5
  have g6:=getCoefs_eq (s:=((4:Int),(W:Int),0,sh,(A:Int)+1,c,[x,y,z],[],wm,pr,re,u)) (s0:=((4:Int),(W:Int),0,0,(A:Int)+1,[],[x,y,z],[],[],(0,[],()),[],())) h1 rfl hok5.shift
  simp only [e2,e4,cond_true,cond_false,g4,Option.bind_some,wA,wA1]
  erw [g5]
  simp only [Option.bind_some]
  erw [g6]
  simp only [Option.bind_some,bare,setC,setT,List.append_assoc]
 ·simp only at h h1 h2
  obtain rfl:=a1 (by omega);obtain rfl:=a2 (by omega);obtain rfl:=a3 (by omega);obtain rfl:=a4 (by omega);obtain rfl:=a5 (by omega)
  rw [h] at hok4 ⊢
  simp only [learnB,Bool.and_eq_true,decide_eq_true_eq] at h2
  have hb:kindB ((5:Int),(W:Int),0,0,0,[],[0,0,0],st,wm,pr,re,u)=pb ((st.length:Nat):Int) 2++stgB st:=rfl
  rw [hb] at hok4 ⊢
  simp only [List.append_assoc] at hok4 ⊢
  have e2:((5:Int)==2)=false:=rfl
  have e4:((5:Int)==4)=false:=rfl
  have e3:((5:Int)==3)=false:=rfl
  have e5:((5:Int)==5)=true:=rfl
  have g4:F_bits_Reader_Get (rdr X (pb ((st.length:Nat):Int) 2++(stgB st++R)),(2:Int))=_:=get_ok (v:=st.length) (n:=2) (by omega) (by omega) hok4
  have g5:=stages_from (wd:=widthN wm) (ok:=true) (N:=st.length) (by omega) (5:Int) (W:Int) st [] _ R h2.2 (by simp) hok4.shift
  simp only [List.length_nil,Int.natCast_zero,List.nil_append,Int.cast_ofNat_Int] at g5
  simp only [e2,e3,e4,e5,cond_true,cond_false,Option.bind_some]
  erw [g4]
  simp only [Option.bind_some]
  erw [g5]
  simp only [Option.bind_some,bare,List.append_assoc]
end Go.Ab
namespace Go.Ab
def subB (s:Sub) (zn:List Nat):List Int:=
 (headB s++kindB s)++(sB (widthN s.2.2.2.2.2.2.2.2.1) s.2.2.2.2.2.2.2.2.1++if s.1=0∨s.1=1 then [] else partsPutB s.2.2.2.2.2.2.2.2.2.1 zn s.2.2.2.2.2.2.2.2.2.2.1)
theorem putSubL_app {s:Sub} {n:Int} (hs:statedP s n) {zn:List Nat} (hz:s.1≠0∧s.1≠1→PartsOk s.2.2.2.2.2.2.2.2.2.1 n ((s.2.2.2.2.2.2.2.2.1.length:Nat):Int) s.2.2.2.2.2.2.2.2.2.2.1 zn) (L:List Int):
  putSubL s zn L=L++subB s zn:=by
 obtain ⟨-,-,hf,-,h5,h6,-,-,hw,-⟩:=hs
 have hwd:=widthN_wide hw
 have hh:=headL_app (kind_range hf) ⟨h5,h6⟩ hw L
 unfold putSubL subB
 by_cases hk:s.1=0∨s.1=1
 ·rw [if_pos hk,if_pos hk,putsL_app (by omega),kindL_app hf,hh]
  simp
 ·rw [if_neg hk,if_neg hk,partsPutL_app (hz (not_or.1 hk)),putsL_app (by omega),kindL_app hf,hh]
  simp
def setW (s:Sub) (l:List Int):Sub:=(s.1,(s.2.1,(s.2.2.1,(s.2.2.2.1,(s.2.2.2.2.1,(s.2.2.2.2.2.1,(s.2.2.2.2.2.2.1,(s.2.2.2.2.2.2.2.1,(l,s.2.2.2.2.2.2.2.2.2)))))))))
theorem warm_from {wd:Nat} (hn:wd≤62) {N:Nat} (hN:N<1000000) (n:Int) (ok:Bool) (z s:Sub):∀ (l done P R:List Int),(∀ x∈l,fitS wd x)→done.length+l.length=N→OkR P (sB wd l++R)→
  iter F_sub_Get_l0 (n,(wd:Int),ok,(N:Int),(done.length:Int),rdr P (sB wd l++R),z,setW s done,())=some (n,(wd:Int),ok,rdr (P++sB wd l) R,z,setW s (done++l),())
 | [],done,P,R,_,hl,_=>by
  have:done.length=N:=by simpa using hl
  subst this
  have d:decide ((done.length:Int)<(done.length:Int))=false:=by simp
  rw [iter_done (b:=(n,(wd:Int),ok,rdr P R,z,setW s done,())) (by simp only [F_sub_Get_l0,d,cond_false];simp [sB])]
  simp [sB]
 |x::l,done,P,R,h,hl,hok=>by
  rw [List.length_cons] at hl
  rw [sB_cons] at hok ⊢
  have d:decide ((done.length:Int)<(N:Int))=true:=by simp;omega
  have h1:=signed_ok hn (h x (by simp)) hok
  have hlm:lim (List.length done+1)=true:=lim_of (by omega)
  have hw:IntKind.wrap .i64 ((done.length:Int)+1)=(((done++[x]).length:Nat):Int):=by rw [wrap64 (by omega)];simp
  rw [iter_step (s':=(n,(wd:Int),ok,(N:Int),(((done++[x]).length:Nat):Int),rdr (P++pb (maskS x wd) wd) (sB wd l++R),z,setW s (done++[x]),())) (by
   simp only [F_sub_Get_l0,d,cond_true,h1,Option.bind_some,setW,hlm,hw,List.append_eq])]
  rw [warm_from hn hN n ok z s l (done++[x]) _ R (fun y hy=>h y (by simp [hy])) (by simp;omega) hok.shift]
  simp [sB]
theorem bare_small {s:Sub} (h:SmallS s):SmallS (bare s) where
 coefs:=h.coefs
 taps:=h.taps
 stages:=h.stages
 warm:=by show ([]:List Int).length≤5000;simp
 rest:=by show ([]:List Int).length≤5000;simp
 ks:=by show ([]:List Int).length≤_;simp
theorem Get_sub {s:Sub} (h:SmallS s) {n:Int} (ho:(subO s n).isSome=true) {zn:List Nat} (hz:s.1≠0∧s.1≠1→PartsOk s.2.2.2.2.2.2.2.2.2.1 n ((s.2.2.2.2.2.2.2.2.1.length:Nat):Int) s.2.2.2.2.2.2.2.2.2.2.1 zn)
  {P R:List Int} (hok:OkR P (subB s zn++R)):F_sub_Get (rdr P (subB s zn++R),n)=some (s,((0:Int),rdr (P++subB s zn) R)):=by
 have hs:=subO_stated ho
 have hhead:=@getHead_eq s n hs h.taps P
 have hs':=hs
 obtain ⟨h1,h2,hf,-,-,-,-,hwl,hww,-,hno,-⟩:=hs'
 have hwd:=widthN_wide hww
 have hwlen:=h.warm
 have d1:decide (n<1)=false:=by simp;omega
 have d2:decide (n > 4096)=false:=by simp;omega
 have hzr:∀ A B:List Int,(rdr A B).2.2.1=0:=fun _ _=>rfl
 have hfit:F_sub_fit ((bare s).1,(bare s,n))=some true:=by
  rw [fit_eq (bare_small h)]
  unfold fitB
  have:fitP (bare s).1 (bare s) n:=hf
  simp only [this,decide_true]
 have hwarm:F_sub_warmth (bare s,n)=some ((s.2.2.2.2.2.2.2.2.1.length:Nat):Int):=by
  rw [warmth_eq]
  have:warmI (bare s) n=warmI s n:=rfl
  rw [this,←hwl]
 have hmay:=sub_May_eq h n
 rw [ho] at hmay
 have hwidth:F_sample_Width s.2.2.2.2.2.2.2.2.1=some ((widthN s.2.2.2.2.2.2.2.2.1:Nat):Int):=sample_Width_eq (by unfold short;omega)
 unfold F_sub_Get F_bits_Reader_Err
 unfold subB at hok ⊢
 simp only [List.append_assoc] at hok ⊢
 have hok1:OkR (P++(headB s++kindB s)) (sB (widthN s.2.2.2.2.2.2.2.2.1) s.2.2.2.2.2.2.2.2.1++((if s.1=0∨s.1=1 then [] else partsPutB s.2.2.2.2.2.2.2.2.2.1 zn s.2.2.2.2.2.2.2.2.2.2.1)++R)):=OkR.shift (by rw [List.append_assoc];exact hok)
 have hW:=fun (ok:Bool) (z:Sub)=>warm_from (wd:=widthN s.2.2.2.2.2.2.2.2.1) (by omega) (N:=s.2.2.2.2.2.2.2.2.1.length) (by omega) n ok z (bare s) s.2.2.2.2.2.2.2.2.1 [] _ _ (fitS_width hww) (by simp) hok1
 simp only [List.length_nil,Int.natCast_zero,List.nil_append,Int.cast_ofNat_Int] at hW
 simp only [d1,d2,cond_false,hzr,bne_self_eq_false,Option.bind_some]
 rw [hhead hok]
 simp only [hzr,bne_self_eq_false,cond_false,Option.bind_some,hfit,Bool.not_true,hwarm]
 rw [show ((bare s:Sub))=setW (bare s) [] from rfl]
 erw [hW]
 simp only [Option.bind_some,hzr,bne_self_eq_false,cond_false]
 rw [show (setW (bare s) s.2.2.2.2.2.2.2.2.1).1=s.1 from rfl,rested_eq]
 simp only [Option.bind_some]
 by_cases hk:s.1=0∨s.1=1
 ·have hd:decide (s.1≠0∧s.1≠1)=false:=by simp only [decide_eq_false_iff_not];omega
  have hsub:setW (bare s) s.2.2.2.2.2.2.2.2.1=s:=by
   obtain ⟨e1,e2,e3⟩:=hno hk
   obtain ⟨k,w,o,sh,g,c,t,st,wm,⟨p1,p2,u1⟩,re,u⟩:=s
   simp only at e1 e2 e3
   subst e1 e2 e3
   rfl
  rw [hsub]
  simp only [hd,cond_false,Bool.not_true,hwidth,Option.bind_some,bne_self_eq_false,hmay,if_pos hk,List.nil_append,List.append_nil]
  simp
 ·have hd:decide (s.1≠0∧s.1≠1)=true:=by simp only [decide_eq_true_eq];omega
  have hp:=hz (not_or.1 hk)
  have hok2:=hok1.shift
  rw [if_neg hk] at hok2
  have hget:=parts_Get_eq hp hok2
  simp only [hd,cond_true,if_neg hk]
  rw [show (setW (bare s) s.2.2.2.2.2.2.2.2.1).2.2.2.2.2.2.2.2.1=s.2.2.2.2.2.2.2.2.1 from rfl]
  erw [hget]
  have hz0:((0:Int) != 0)=false:=rfl
  simp only [Option.bind_some,hz0,cond_false,Bool.not_true,hwidth,bne_self_eq_false]
  have hsub:((setW (bare s) s.2.2.2.2.2.2.2.2.1).1,(setW (bare s) s.2.2.2.2.2.2.2.2.1).2.1,(setW (bare s) s.2.2.2.2.2.2.2.2.1).2.2.1,(setW (bare s) s.2.2.2.2.2.2.2.2.1).2.2.2.1,(setW (bare s) s.2.2.2.2.2.2.2.2.1).2.2.2.2.1,(setW (bare s) s.2.2.2.2.2.2.2.2.1).2.2.2.2.2.1,(setW (bare s) s.2.2.2.2.2.2.2.2.1).2.2.2.2.2.2.1,(setW (bare s) s.2.2.2.2.2.2.2.2.1).2.2.2.2.2.2.2.1,s.2.2.2.2.2.2.2.2.1,s.2.2.2.2.2.2.2.2.2.1,s.2.2.2.2.2.2.2.2.2.2.1,(setW (bare s) s.2.2.2.2.2.2.2.2.1).2.2.2.2.2.2.2.2.2.2.2)=s:=rfl
  erw [hsub]
  simp only [hmay,Option.bind_some,Bool.not_true,cond_false]
  simp
end Go.Ab
namespace Go.Ab
theorem and1u (y:Int):bits .u64 .and y 1=y%2:=by
 have h:((BitVec.ofInt 64 y) &&& (BitVec.ofInt 64 1)).toNat=(y%18446744073709551616).toNat%2:=by
  rw [BitVec.toNat_and,BitVec.toNat_ofInt]
  have e:(BitVec.ofInt 64 1).toNat=2^1-1:=by decide
  rw [e,Nat.and_two_pow_sub_one_eq_mod]
  rfl
 show IntKind.wrap .u64 ((((BitVec.ofInt 64 y) &&& (BitVec.ofInt 64 1)).toNat:Nat):Int)=_
 rw [h,wrapu64 (by omega)]
 omega
theorem pb_bits (v:Int):∀ n,BitsOk (pb v n)
 |0=>fun b hb=>by cases hb
 |n+1=>fun b hb=>by
  rcases List.mem_cons.1 hb with rfl|hb
  ·unfold bitAt
   rw [and1u,wrapu8]
   omega
  ·exact pb_bits v n b hb
theorem un_bits (n:Nat):BitsOk (unB n):=fun b hb=>by
 rcases List.mem_append.1 hb with hb|hb
 ·exact .inl (List.mem_replicate.1 hb).2
 ·exact .inr (by simpa using hb)
theorem flat_bits {α:Type} {f:α→List Int} {l:List α} (h:∀ x,BitsOk (f x)):BitsOk (l.flatMap f):=fun b hb=>by
 obtain ⟨x,-,hx⟩:=List.mem_flatMap.1 hb
 exact h x b hx
theorem rice_bits (k:Nat) (x:Int):BitsOk (riceB k x):=by
 unfold riceB
 split
 ·exact (un_bits _).app (pb_bits _ _)
 ·exact (un_bits _).app (pb_bits _ _)
theorem sB_bits (n:Nat) (l:List Int):BitsOk (sB n l):=flat_bits fun _=>pb_bits _ _
theorem part_bits (k:Int) (l:List Int):BitsOk (partB k l):=by
 unfold partB
 split
 ·exact (pb_bits _ _).app ((pb_bits _ _).app (sB_bits _ _))
 ·exact (pb_bits _ _).app (flat_bits fun _=>rice_bits _ _)
theorem nil_bits:BitsOk []:=fun b hb=>by cases hb
theorem parts_bits:∀ (zs:List Nat) (ks l:List Int),BitsOk (partsBs zs ks l)
 |z::zs,k::ks,l=>by
  simp only [partsBs]
  exact (part_bits _ _).app (parts_bits zs ks _)
 | [],_,_=>by simp only [partsBs];exact nil_bits
 |_::_,[],_=>by simp only [partsBs];exact nil_bits
theorem coefs_bits (s:Sub):BitsOk (coefsB s):=(pb_bits _ _).app ((pb_bits _ _).app ((pb_bits _ _).app (sB_bits _ _)))
theorem kind_bits (s:Sub):BitsOk (kindB s):=by
 unfold kindB
 split
 ·exact pb_bits _ _
 split
 ·exact coefs_bits s
 split
 ·exact (pb_bits _ _).app ((sB_bits _ _).app (coefs_bits s))
 split
 ·exact (pb_bits _ _).app (flat_bits fun _=>(pb_bits _ _).app (pb_bits _ _))
 ·exact nil_bits
theorem sub_bits (s:Sub) (zn:List Nat):BitsOk (subB s zn):=by
 refine (((pb_bits _ _).app ((pb_bits _ _).app (pb_bits _ _))).app (kind_bits s)).app ((sB_bits _ _).app ?_)
 split
 ·exact nil_bits
 ·exact (pb_bits _ _).app (parts_bits _ _ _)
theorem Put_bits {s:Sub} (h:SmallS s) {n:Int} (ho:(subO s n).isSome=true) {L:List Int} (hL:L.length<1000000):
  ∃ zn,F_sub_Put (wL L,(s,n))=some (0,wL (L++subB s zn))∧F_sub_Cost (s,n)=some (((subB s zn).length:Nat):Int)∧(subB s zn).length≤700000∧
   (s.1≠0∧s.1≠1→PartsOk s.2.2.2.2.2.2.2.2.2.1 n ((s.2.2.2.2.2.2.2.2.1.length:Nat):Int) s.2.2.2.2.2.2.2.2.2.2.1 zn):=by
 obtain ⟨e,L',h1,-,h3,h4,-⟩:=sub_Put_ex h (n:=n) (L:=L) (by omega)
 obtain ⟨rfl,zn,rfl,hz⟩:=h4 ho
 have hs:=subO_stated ho
 rw [putSubL_app hs hz] at h1 h3
 refine ⟨zn,h1,?_,by simp at h3;omega,hz⟩
 rw [cost_eq h]
 unfold costI
 rw [if_pos ho,←zn_same hz,putSubL_app hs hz]
 simp
theorem New_eq {L:List Int} (hL:L.length<1000000000):F_bits_New (wL L).1=some (rdr [] L):=by
 obtain ⟨-,h⟩:=wL_facts L
 unfold F_bits_New
 rw [lim_of (by omega)]
 rfl
theorem Bytes_eq {L:List Int} (hL:L.length<1000000000):F_bits_Writer_Bytes (wL L)=some ((wL L).1,wL L):=by
 obtain ⟨-,h⟩:=wL_facts L
 unfold F_bits_Writer_Bytes
 rw [lim_of (by omega)]
 rfl
end Go.Ab
namespace Go.Ab
theorem make_err {k:Int} {l:List Int} {s:Sub} (h:(makeP k l s).2≠0):(makeP k l s).1=zeroO 0:=by
 unfold makeP at h ⊢
 split
 ·rfl
 ·rename_i a1
  rw [if_neg a1] at h
  split
  ·rfl
  ·rename_i a2
   rw [if_neg a2] at h
   split
   ·rename_i a3
    rw [if_pos a3] at h
    cases hb:l.all (fun x=>x==l.headD 0) with
    |false=>rfl
    |true=>rw [hb] at h;exact absurd rfl h
   ·rename_i a3
    rw [if_neg a3] at h
    split
    ·rename_i a4
     rw [if_pos a4] at h
     exact absurd rfl h
    ·rename_i a4
     rw [if_neg a4] at h
     cases hr:restK k s (downN l) with
     |none=>rfl
     |some q=>
      rw [hr] at h
      exact absurd rfl h
theorem law_SubKinds (x:Int×(List Int×Sub)) (ht:x.2.2.2.2.2.2.2.2.1.length=3):F_l15_SubKinds x=some true:=by
 obtain ⟨k,l,s⟩:=x
 unfold F_l15_SubKinds
 simp only [known_true,Option.bind_some,Bool.not_true,cond_false,Small_eq]
 cases hl:decide (((l.length:Nat):Int) > 150) with
 |true=>simp only [cond_true,Option.bind_some]
 |false=>
  have hl150:l.length≤150:=by simp only [decide_eq_false_iff_not] at hl;omega
  simp only [cond_false,Option.bind_some]
  by_cases hs:s.2.2.2.2.2.1.length≤40∧s.2.2.2.2.2.2.2.1.length≤6∧s.2.2.2.2.2.2.2.2.1.length≤200∧s.2.2.2.2.2.2.2.2.2.2.1.length≤200∧s.2.2.2.2.2.2.2.2.2.1.2.1.length≤300
  rotate_left
  ·simp only [hs,decide_false,Bool.not_false,cond_true]
  have hS:SmallS s:=⟨hs.1,ht,hs.2.1,by omega,by omega,hs.2.2.2.2⟩
  simp only [hs,and_self,decide_true,Bool.not_true,cond_false,Make_eq hS k (show l.length≤100000 by omega),Option.bind_some]
  by_cases h0:(makeP k l s).2=0
  rotate_left
  ·have hne:((makeP k l s).2 != 0)=true:=by simp only [bne_iff_ne];exact h0
   have hz:=SameSub_eq (a:=zeroO 0) (b:=zeroO 0) zero_small
   rw [make_err h0]
   simp only [hne,cond_true]
   refine (congrArg (fun r=>Option.bind r fun y5=>some y5) hz).trans ?_
   simp
  ·have hne:((makeP k l s).2 != 0)=false:=by rw [h0];rfl
   obtain ⟨hM,hk,hst,hrow⟩:=make_ok hS h0
   generalize (makeP k l s).1=m at hM hk hst hrow
   have ho:(subO m (l.length:Int)).isSome=true:=by rw [hrow];rfl
   obtain ⟨zn,h1,-,h3,hz⟩:=Put_bits hM ho (L:=[]) (by simp)
   rw [List.nil_append,show wL []=(([]:List Int),((0:Int),())) from rfl] at h1
   have hr:=sub_Row_eq hM (l.length:Int)
   rw [hrow] at hr
   have hok:OkR [] (subB m zn++[]):=⟨by rw [List.nil_append,List.append_nil];exact sub_bits m zn,by rw [List.nil_append,List.append_nil];omega⟩
   have hg:=Get_sub hM ho hz hok
   rw [List.append_nil] at hg
   have z1:((0:Int)==0)=true:=rfl
   simp only [hne,cond_false,hr,h1,Option.bind_some,Bytes_eq (show (subB m zn).length<1000000000 by omega),New_eq (show (subB m zn).length<1000000000 by omega),hg,hk,beq_self_eq_true,z1,cond_true,SameInts_eq (show short l by unfold short;omega),decide_true]
end Go.Ab
namespace Go.Proofs.YtoklkmdhpjocgaaGreatDoor
open Go.Ab Go.ChangeShapes Go.WideShapes Go.ChangeAt Go.RowKit
theorem collect_lits {α:Type} {f:Nat→Option (α×Owns×List Nat)}:∀ (L:List α) (i:Nat),(∀ (j:Nat) x,L[j]?=some x→f (i+j)=some (x,[],[]))→collect f L.length i=some (L,[],[])
 | [],_,_=>rfl
 |a::L,i,h=>by
  have h0:=h 0 a rfl
  have h1:=collect_lits L (i+1) (fun j x hx=>by have:=h (j+1) x (by simpa using hx);rw [←this];congr 1;omega)
  simp only [List.length_cons,collect]
  simp only [Nat.add_zero] at h0
  rw [h0,h1]
  rfl
section
variable {H:Type} {enc:TypeId×Value→H} {P:Program} {w:World} {base:Nat} {spare:Nat→Bool} {held:Bool}
theorem cells_of_lits {k:IntKind} {n:Nat} {t e:TypeId} {fuel:Nat} {cs:List Value} {L:List Int} {p:List MemPlace} (ht:P.underlying t=some (.array n e)) (he:P.underlying e=some (.int k)) (hc:P.cellsOf e=1)
  (h:DataW.trod enc P w base spare held fuel t cs=some (.agg (L.map fun i=>.lit (.int k i)),p)):L.length=n∧∀ (j:Nat) x,L[j]?=some x→cs[j]?=some (.int k x):=by
 obtain ⟨xs,m,rfl,hx,-,hn,hel⟩:=DataW.trod_array ht h
 simp only [Prod.mk.injEq,DataW.agg.injEq] at hx
 have hl:L.length=n:=by rw [←hn];simpa using congrArg List.length hx.1
 refine ⟨hl,fun j x hj=>?_⟩
 obtain ⟨hjl,-⟩:=List.getElem?_eq_some_iff.1 hj
 have h1:=hel j (by omega)
 rw [hc] at h1
 obtain ⟨y,hy⟩:∃ y,xs[j]?=some y:=⟨_,List.getElem?_eq_getElem (by omega)⟩
 rw [hy] at h1
 obtain ⟨i,e1,e2,-⟩:=DataW.trod_int he h1
 have h2:=congrArg (fun l=>l[j]?) hx.1
 simp only [List.getElem?_map,hj,hy,Option.map_some,e2] at h2
 simp only [sj,DataW.lit.injEq,Lit.int.injEq,true_and] at h2
 subst h2
 have h3:=congrArg (fun l=>l[0]?) e1
 simpa [List.getElem?_drop,List.getElem?_take] using h3
end
def tabName : String := (Rows.subTellsRow.laid.map Prod.fst).headD ""
theorem gTab:Tryz.prog.globalNamed tabName=some 0:=by kernel_rfl
def tTab:TypeId:=((Tryz.prog.globals[0]?).map (·.type)).getD 0
theorem tTab_eq:(Tryz.prog.globals[0]?).map (·.type)=some tTab:=by kernel_rfl
def eTab:TypeId:=match Tryz.prog.underlying tTab with
 |some (.array _ e)=>e
 |_=>0
theorem uTab:Tryz.prog.underlying tTab=some (.array 64 eTab):=by kernel_rfl
theorem uElem:Tryz.prog.underlying eTab=some (.int .u8):=by kernel_rfl
theorem cElem:Tryz.prog.cellsOf eTab=1:=by kernel_rfl
@[reducible] def laidTab:List (String×DataW Unit):=[(tabName,Rows.laid_math_bits_deBruijn64tab)]

theorem G0_one {g:Nat} {t:Ty} {x:t.den} (h:G0 g=some ⟨t,x⟩):g=0∧(⟨t,x⟩:(t:Ty)×t.den)=⟨.arr 64 (.int .u8),glob0⟩:=by
 unfold G0 find at h
 cases g with
 |zero=>exact ⟨rfl,(Option.some.inj h).symm⟩
 |succ n=>exact absurd h (by simp [find])
theorem glob_of_laid {W:World} (h:laidMetH Tryz.prog laidTab W):∀ g t x,G0 g=some ⟨t,x⟩→g<W.heap.size∧dec (memo W none) t ((Src.at g 0).rd (memo W none))=some (x,[],[]):=by
 rw [MakeChecks.laidMetH_plain _ _ _ (by kernel_rfl)] at h
 obtain ⟨ps,⟨g0,t0,cs0,f0,p0,q0,hg0,ht0,hv0,hd0,_⟩,_,_⟩:=h
 obtain rfl:=Option.some.inj (gTab.symm.trans hg0)
 obtain rfl:=Option.some.inj (tTab_eq.symm.trans ht0)
 have e0:(Rows.laid_math_bits_deBruijn64tab:DataW Unit)=.agg (glob0.map fun i=>.lit (.int .u8 i)):=rfl
 rw [e0] at hd0
 obtain ⟨hl,hc⟩:=cells_of_lits uTab uElem cElem hd0
 have hcell:∀ (j:Nat) x,glob0[j]?=some x→W.cell? ⟨0,j,none⟩=some (.int .u8 x):=fun j x hx=>by
  rw [World.var?_cell hg0 hv0 j]
  simpa using hc j x hx
 intro g t x hG
 obtain ⟨rfl,e⟩:=G0_one hG
 cases e
 refine ⟨cell_lt (hcell 0 0 rfl),?_⟩
 exact collect_lits (f:=fun i=>dec (memo W none) (.int .u8) fun j=>(Src.at 0 0).rd (memo W none) (i*1+j)) glob0 0 (fun j x hx=>by
  have:=hcell j x hx
  simp only [dec,Src.rd,memo,Nat.zero_add,Nat.mul_one,Nat.add_zero,this,if_true])
set_option maxRecDepth 100000 in
theorem door_met (os:Os) (args:Array Value):laidMetH Tryz.prog laidTab ((World.doorLaid Tryz.prog 400 os).forCall (fun _ _=>0) ⟨#[],args,[]⟩).memory:=
 laidMetH_of_parts3 (fuel:=8) (laidMet_of_run' 8 (by kernel_rfl) (by kernel_rfl)) (by kernel_rfl) (by kernel_rfl)
end Go.Proofs.YtoklkmdhpjocgaaGreatDoor
