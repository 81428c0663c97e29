/- Part of the proof: QD, QE, QF, QG, QH, QI, QJ, QK, QL, QM, QN, QO, QP, QQ. Conditions: as each statement tells. -/
import Derived.KernelRfl
import Derived.Test.YtoklkmdhpjocgaaGreatDoorMD
noncomputable section
namespace Go.Ab
def dotA (out:List Int):List Int→Nat→Int→Int
 | [],_,acc=>acc
 |c::r,i,acc=>bif decide (i<out.length) then dotA out r (i+1) (W (acc+W (c*atB out (i+1)))) else acc
def linG (c:List Int) (s:Int) (out:List Int):Int:=gshr .i64 (dotA out c 0 0) s
theorem at_get {out:List Int} {i:Nat} (h:i<out.length) (hs:short out):gidx out (IntKind.wrap .i64 (IntKind.wrap .i64 (((out.length:Nat):Int)-1)-(i:Int)))=some (atB out (i+1)):=by
 have hs:out.length<1000000:=hs
 have e1:IntKind.wrap .i64 (((out.length:Nat):Int)-1)=((out.length-1:Nat):Int):=by rw [wrap64 (by omega)];omega
 have e2:IntKind.wrap .i64 (((out.length-1:Nat):Int)-(i:Int))=((out.length-(i+1):Nat):Int):=by rw [wrap64 (by omega)];omega
 rw [e1,e2,gidx_get (show out.length-(i+1)<out.length by omega),atB,List.getD_eq_getElem?_getD,List.getElem?_eq_getElem (by omega)]
 rfl
theorem atB_wide {out:List Int} {i:Nat} (h:i<out.length) (hw:out.all wideB=true):wideB (atB out (i+1))=true:=by
 rw [atB,List.getD_eq_getElem?_getD,List.getElem?_eq_getElem (show out.length-(i+1)<out.length by omega)]
 exact List.all_eq_true.1 hw _ (List.getElem_mem _)
theorem predict_from {out c:List Int} {s:Int} (hs:short out) (hc:short c):∀ (k i:Nat) (acc:Int),i+k=c.length→
  iter F_linear_predict_l0 (out,(s,(acc,(c,((c.length:Int),((i:Int),()))))))=some (s,(dotA out (c.drop i) i acc,()))
 |0,i,acc,h=>by
  obtain rfl:i=c.length:=by omega
  rw [List.drop_length]
  exact iter_done (by simp [F_linear_predict_l0,dotA])
 |k+1,i,acc,h=>by
  have hlt:i<c.length:=by omega
  have hs':out.length<1000000:=hs
  have hc':c.length<1000000:=hc
  rw [List.drop_eq_getElem_cons hlt,dotA]
  have e1:IntKind.wrap .i64 (((out.length:Nat):Int)-1)=((out.length:Nat):Int)-1:=wrap64 (by omega)
  have e2:IntKind.wrap .i64 (((out.length:Nat):Int)-1-(i:Int))=((out.length:Nat):Int)-1-(i:Int):=wrap64 (by omega)
  by_cases hi:i<out.length
  ·have hd:decide (IntKind.wrap .i64 (IntKind.wrap .i64 (((out.length:Nat):Int)-1)-(i:Int))<0)=false:=by rw [e1,e2];simp;omega
   simp only [hi,decide_true,cond_true]
   rw [iter_step (s':=(out,(s,(W (acc+W (c[i]*atB out (i+1))),(c,((c.length:Int),(((i+1:Nat):Int),()))))))) (by
    simp only [F_linear_predict_l0,dlt hlt,cond_true,gidx_get hlt,Option.bind_some,hd,cond_false,at_get hi hs,wrap_succ (show i<1000000 by omega)])]
   exact predict_from hs hc k (i+1) _ (by omega)
  ·have hd:decide (IntKind.wrap .i64 (IntKind.wrap .i64 (((out.length:Nat):Int)-1)-(i:Int))<0)=true:=by rw [e1,e2];simp;omega
   simp only [hi,decide_false,cond_false]
   exact iter_done (by simp only [F_linear_predict_l0,dlt hlt,cond_true,gidx_get hlt,Option.bind_some,hd])
theorem predict_eq {out c:List Int} {s:Int} (hs:short out) (hc:short c) (h0:0≤s):F_linear_predict (out,(c,s))=some (linG c s out):=by
 have:=predict_from (s:=s) hs hc c.length 0 0 (by omega)
 simp only [Int.natCast_zero,List.drop_zero] at this
 unfold F_linear_predict
 simp only [this,Option.bind_some]
 have:¬ s<0:=by omega
 simp [this,linG]
theorem guess_from {out c:List Int} {s:Int} (hs:short out) (hc:short c) (hw:out.all wideB=true):∀ (k i:Nat) (acc:Int),i+k=c.length→
  iter F_r14_LinearGuess_l0 (out,(c,(s,(acc,((i:Int),())))))=some (Sum.inl (s,(dotA out (c.drop i) i acc,())))
 |0,i,acc,h=>by
  obtain rfl:i=c.length:=by omega
  rw [List.drop_length]
  exact iter_done (by simp [F_r14_LinearGuess_l0,dotA])
 |k+1,i,acc,h=>by
  have hlt:i<c.length:=by omega
  have hs':out.length<1000000:=hs
  have hc':c.length<1000000:=hc
  rw [List.drop_eq_getElem_cons hlt,dotA]
  by_cases hi:i<out.length
  ·simp only [hi,decide_true,cond_true]
   rw [iter_step (s':=(out,(c,(s,(W (acc+W (c[i]*atB out (i+1))),(((i+1:Nat):Int),())))))) (by
    simp only [F_r14_LinearGuess_l0,dlt hlt,dlt hi,cond_true,at_get hi hs,Option.bind_some,ref_Wide_eq,atB_wide hi hw,Bool.not_true,cond_false,gidx_get hlt,wrap_succ (show i<1000000 by omega)])]
   exact guess_from hs hc hw k (i+1) _ (by omega)
  ·have hd:decide ((i:Int)<((out.length:Nat):Int))=false:=by simp;omega
   simp only [hi,decide_false,cond_false]
   exact iter_done (by simp only [F_r14_LinearGuess_l0,dlt hlt,cond_true,hd,cond_false])
theorem wrapu_small {s:Int} (h:0≤s) (h':s≤64):IntKind.wrap .u64 s=s:=wrapu64 (by omega)
theorem ref_LinearGuess_eq {out c:List Int} {s:Int} (hs:short out) (hc:short c) (hw:out.all wideB=true) (hl:linB c s=true):F_r14_LinearGuess (out,(c,s))=some (linG c s out):=by
 have:=guess_from (s:=s) hs hc hw c.length 0 0 (by omega)
 simp only [Int.natCast_zero,List.drop_zero] at this
 unfold F_r14_LinearGuess
 simp only [ref_LinearMay_eq hc,hl,Option.bind_some,Bool.not_true,cond_false,this]
 simp only [linB,Bool.and_eq_true,decide_eq_true_eq] at hl
 have:¬ s<0:=by omega
 simp [wrapu_small (show 0≤s by omega) (by omega),this,linG]
def linO (warm rest c:List Int) (s:Int):Option (List Int):=bif warm.all wideB&&rest.all wideB then backO (linG c s) rest warm else none
theorem linear_Back_eq {warm rest c:List Int} {s:Int} (hl:linB c s=true) (hw:warm.length=c.length) (hr:rest.length<100000):
  F_linear_Back (warm,(rest,(c,s)))=some (resB (linO warm rest c s)):=by
 have hl':=hl
 simp only [linB,Bool.and_eq_true,decide_eq_true_eq] at hl'
 have hsc:short c:=by unfold short;omega
 have hsw:short warm:=by unfold short;omega
 have hsr:short rest:=by unfold short;omega
 unfold F_linear_Back
 have h3:(((warm.length:Nat):Int) != ((c.length:Nat):Int))=false:=by simp;omega
 simp only [linear_May_eq hsc,hl,Option.bind_some,Bool.not_true,cond_false,h3,linear_allWide_eq hsw,linear_allWide_eq hsr,linO]
 cases hw1:warm.all wideB with
 |false=>rfl
 |true=>
  simp only [Bool.not_true,cond_false,Option.bind_some,Bool.true_and]
  cases hw2:rest.all wideB with
  |false=>rfl
  |true=>
   have e1:IntKind.wrap .i64 (((warm.length:Nat):Int)+((rest.length:Nat):Int))=((warm.length+rest.length:Nat):Int):=by rw [wrap64 (by omega)];omega
   have h4:(0:Int)≤((warm.length+rest.length:Nat):Int):=by omega
   simp only [Bool.not_true,cond_false,cond_true,e1,h4,decide_true,Int.toNat_natCast,lim_short (show warm.length+rest.length<1000000 by omega),lim_short (show 0+warm.length<1000000 by omega),Bool.and_self,List.append_eq,List.nil_append]
   have:=iter_list (f:=F_linear_Back_l0) rest (fun i out=>(c,(s,(rest,((rest.length:Int),((i:Int),(out,()))))))) (stepB (linG c s) (Sum.inr ((6:Int),(([]:List Int),()))))
    (fun i out=>out.length≤warm.length+i) (fun out=>Sum.inl (out,()))
    (fun i h out hI=>by
     have hlt:i<1000000:=by omega
     have hso:short out:=by unfold short;omega
     have e:IntKind.wrap .i64 (linG c s out+rest[i])=W (rest[i]+linG c s out):=by rw [Int.add_comm]
     simp only [F_linear_Back_l0,dlt h,cond_true,gidx_get h,Option.bind_some,predict_eq hso hsc hl'.2.2.1,e,linear_wide_eq,stepB]
     cases hb:wideB (W (rest[i]+linG c s out)) with
     |true=>
      simp only [cond_true,Bool.not_true,cond_false,lim_short (show out.length+1<1000000 by omega),wrap_succ hlt]
      refine ⟨fun a' ha=>?_,fun b hb=>(by cases hb)⟩
      simp only [Sum.inl.injEq] at ha
      subst ha
      exact ⟨rfl,by simp;omega⟩
     |false=>
      refine ⟨fun a' ha=>(by cases ha),fun b hb=>?_⟩
      simp only [cond_false,Sum.inr.injEq] at hb
      subst hb
      rfl)
    (fun out _=>by simp [F_linear_Back_l0]) (a:=warm) (by omega)
   simp only [Int.natCast_zero,endE_stepB] at this
   rw [this]
   cases backO (linG c s) rest warm<;>rfl
theorem ref_LinearBack_eq {warm rest c:List Int} {s:Int} (hl:linB c s=true) (hw:warm.length=c.length) (hr:rest.length<100000):
  F_r14_LinearBack (warm,(rest,(c,s)))=some (resB (linO warm rest c s)):=by
 have hl':=hl
 simp only [linB,Bool.and_eq_true,decide_eq_true_eq] at hl'
 have hsc:short c:=by unfold short;omega
 have hsw:short warm:=by unfold short;omega
 have hsr:short rest:=by unfold short;omega
 unfold F_r14_LinearBack
 have h3:(((warm.length:Nat):Int) != ((c.length:Nat):Int))=false:=by simp;omega
 simp only [ref_LinearMay_eq hsc,hl,Option.bind_some,Bool.not_true,cond_false,h3,ref_AllWide_eq hsw,ref_AllWide_eq hsr,linO]
 cases hw1:warm.all wideB with
 |false=>rfl
 |true=>
  simp only [Bool.not_true,cond_false,Option.bind_some,Bool.true_and]
  cases hw2:rest.all wideB with
  |false=>rfl
  |true=>
   simp only [Bool.not_true,cond_false,cond_true,lim_short (show 0+warm.length<1000000 by omega),List.append_eq,List.nil_append]
   have:=iter_list (f:=F_r14_LinearBack_l0) rest (fun i out=>(rest,(c,(s,((i:Int),(out,())))))) (stepB (linG c s) (Sum.inr ((6:Int),(([]:List Int),()))))
    (fun i out=>out.length≤warm.length+i∧out.all wideB=true) (fun out=>Sum.inl (out,()))
    (fun i h out hI=>by
     have hlt:i<1000000:=by omega
     have hso:short out:=by unfold short;omega
     simp only [F_r14_LinearBack_l0,dlt h,cond_true,gidx_get h,Option.bind_some,ref_LinearGuess_eq hso hsc hI.2 hl,ref_Wide_eq,stepB]
     cases hb:wideB (W (rest[i]+linG c s out)) with
     |true=>
      simp only [cond_true,Bool.not_true,cond_false,lim_short (show out.length+1<1000000 by omega),wrap_succ hlt]
      refine ⟨fun a' ha=>?_,fun b hb=>(by cases hb)⟩
      simp only [Sum.inl.injEq] at ha
      subst ha
      exact ⟨rfl,by simp;omega,by simp [hI.2,hb]⟩
     |false=>
      refine ⟨fun a' ha=>(by cases ha),fun b hb=>?_⟩
      simp only [cond_false,Sum.inr.injEq] at hb
      subst hb
      rfl)
    (fun out _=>by simp [F_r14_LinearBack_l0]) (a:=warm) ⟨by omega,hw1⟩
   simp only [Int.natCast_zero,endE_stepB] at this
   rw [this]
   cases backO (linG c s) rest warm<;>rfl
end Go.Ab
namespace Go.Ab
def lsum (out:List Int) (lag:Int):List Int→Nat→Int→Int
 | [],_,acc=>acc
 |t::r,i,acc=>lsum out lag r (i+1) (bif decide (0≤(out.length:Int)-lag-1+i) then W (acc+W (t*out.getD ((out.length:Int)-lag-1+i).toNat 0)) else acc)
def longG (lag:Int) (t:List Int) (out:List Int):Int:=gshr .i64 (lsum out lag t 0 0) 6
theorem gidx_pos {out:List Int} {j:Int} (h0:0≤j) (h:j<out.length):gidx out j=some (out.getD j.toNat 0):=by
 obtain ⟨n,rfl⟩:=Int.eq_ofNat_of_zero_le h0
 have hn:n<out.length:=by omega
 rw [gidx_get hn,Int.toNat_natCast,List.getD_eq_getElem?_getD,List.getElem?_eq_getElem hn]
 rfl
theorem at_wrap {n i:Nat} {lag:Int} (h1:2≤lag) (h2:lag≤1024) (hn:n<1000000) (hi:i<3):
  IntKind.wrap .i64 (IntKind.wrap .i64 (IntKind.wrap .i64 ((n:Int)-lag)-1)+(i:Int))=(n:Int)-lag-1+i:=by
 rw [wrap64 (n:=(n:Int)-lag) (by omega),wrap64 (n:=(n:Int)-lag-1) (by omega),wrap64 (by omega)]
theorem long_predict_from {out t:List Int} {lag:Int} (hs:short out) (ht:t.length=3) (h1:2≤lag) (h2:lag≤1024):∀ (k i:Nat) (acc:Int),i+k=3→
  iter F_long_predict_l0 (out,((out.length:Int),(lag,(acc,(t,((i:Int),()))))))=some (lsum out lag (t.drop i) i acc,())
 |0,i,acc,h=>by
  obtain rfl:i=t.length:=by omega
  rw [List.drop_length]
  exact iter_done (by rw [ht];simp [F_long_predict_l0,lsum])
 |k+1,i,acc,h=>by
  have hlt:i<t.length:=by omega
  have hi3:decide ((i:Int)<3)=true:=by simp;omega
  have hs':out.length<1000000:=hs
  have e:=at_wrap (i:=i) h1 h2 hs' (by omega)
  rw [List.drop_eq_getElem_cons hlt,lsum]
  by_cases hp:0≤(out.length:Int)-lag-1+i
  ·have hd:decide ((out.length:Int)-lag-1+i≥0)=true:=by simp;omega
   simp only [hp,decide_true,cond_true]
   rw [iter_step (s':=(out,((out.length:Int),(lag,(W (acc+W (t[i]*out.getD ((out.length:Int)-lag-1+i).toNat 0)),(t,(((i+1:Nat):Int),()))))))) (by
    simp only [F_long_predict_l0,hi3,cond_true,gidx_get hlt,Option.bind_some,e,hd,gidx_pos hp (show (out.length:Int)-lag-1+(i:Int)<(out.length:Int) by omega),wrap_succ (show i<1000000 by omega)])]
   exact long_predict_from hs ht h1 h2 k (i+1) _ (by omega)
  ·have hd:decide ((out.length:Int)-lag-1+i≥0)=false:=by simp;omega
   simp only [hp,decide_false,cond_false]
   rw [iter_step (s':=(out,((out.length:Int),(lag,(acc,(t,(((i+1:Nat):Int),()))))))) (by
    simp only [F_long_predict_l0,hi3,cond_true,gidx_get hlt,Option.bind_some,e,hd,cond_false,wrap_succ (show i<1000000 by omega)])]
   exact long_predict_from hs ht h1 h2 k (i+1) _ (by omega)
theorem long_predict_eq {out t:List Int} {lag:Int} (hs:short out) (ht:t.length=3) (h1:2≤lag) (h2:lag≤1024):F_long_predict (out,((out.length:Int),(lag,t)))=some (longG lag t out):=by
 have:=long_predict_from (out:=out) (t:=t) hs ht h1 h2 3 0 0 (by omega)
 simp only [Int.natCast_zero,List.drop_zero] at this
 unfold F_long_predict
 simp only [this,Option.bind_some,longG]
theorem ref_longGuess_from {out t:List Int} {lag:Int} (hs:short out) (ht:t.length=3) (h1:2≤lag) (h2:lag≤1024):∀ (k i:Nat) (acc:Int),i+k=3→
  iter F_r14_longGuess_l0 (out,(lag,(acc,((i:Int),(t,())))))=some (lsum out lag (t.drop i) i acc,())
 |0,i,acc,h=>by
  obtain rfl:i=t.length:=by omega
  rw [List.drop_length]
  exact iter_done (by rw [ht];simp [F_r14_longGuess_l0,lsum])
 |k+1,i,acc,h=>by
  have hlt:i<t.length:=by omega
  have hi3:decide ((i:Int)<3)=true:=by simp;omega
  have hs':out.length<1000000:=hs
  have e:=at_wrap (i:=i) h1 h2 hs' (by omega)
  rw [List.drop_eq_getElem_cons hlt,lsum]
  by_cases hp:0≤(out.length:Int)-lag-1+i
  ·have hd:decide ((out.length:Int)-lag-1+i≥0)=true:=by simp;omega
   simp only [hp,decide_true,cond_true]
   rw [iter_step (s':=(out,(lag,(W (acc+W (t[i]*out.getD ((out.length:Int)-lag-1+i).toNat 0)),(((i+1:Nat):Int),(t,())))))) (by
    simp only [F_r14_longGuess_l0,hi3,cond_true,gidx_get hlt,Option.bind_some,e,hd,gidx_pos hp (show (out.length:Int)-lag-1+(i:Int)<(out.length:Int) by omega),wrap_succ (show i<1000000 by omega)])]
   exact ref_longGuess_from hs ht h1 h2 k (i+1) _ (by omega)
  ·have hd:decide ((out.length:Int)-lag-1+i≥0)=false:=by simp;omega
   simp only [hp,decide_false,cond_false]
   rw [iter_step (s':=(out,(lag,(acc,(((i+1:Nat):Int),(t,())))))) (by
    simp only [F_r14_longGuess_l0,hi3,cond_true,e,hd,cond_false,wrap_succ (show i<1000000 by omega)])]
   exact ref_longGuess_from hs ht h1 h2 k (i+1) _ (by omega)
theorem ref_longGuess_eq {out t:List Int} {lag:Int} (hs:short out) (ht:t.length=3) (h1:2≤lag) (h2:lag≤1024):F_r14_longGuess (out,(lag,t))=some (longG lag t out):=by
 have:=ref_longGuess_from (out:=out) (t:=t) hs ht h1 h2 3 0 0 (by omega)
 simp only [Int.natCast_zero,List.drop_zero] at this
 unfold F_r14_longGuess
 simp only [this,Option.bind_some,longG]
def longO (rest:List Int) (lag:Int) (t:List Int):Option (List Int):=bif rest.all wideB then backO (longG lag t) rest [] else none
theorem long_Back_eq {rest t:List Int} {lag:Int} (hl:longB lag t=true) (ht:t.length=3) (hr:rest.length<100000):F_long_Back (rest,(lag,t))=some (resB (longO rest lag t)):=by
 have hl':=hl
 simp only [longB,Bool.and_eq_true,decide_eq_true_eq] at hl'
 have hsr:short rest:=by unfold short;omega
 unfold F_long_Back
 simp only [long_May_eq ht,hl,Option.bind_some,Bool.not_true,cond_false,long_allWide_eq hsr,longO]
 cases hw2:rest.all wideB with
 |false=>rfl
 |true=>
  have h4:(0:Int)≤((rest.length:Nat):Int):=by omega
  simp only [Bool.not_true,cond_false,cond_true,h4,decide_true,Int.toNat_natCast,lim_short hsr,Bool.and_self]
  have:=iter_list (f:=F_long_Back_l0) rest (fun i out=>(lag,(rest,((rest.length:Int),((i:Int),(out,(t,()))))))) (stepB (longG lag t) (Sum.inr ((6:Int),(([]:List Int),()))))
   (fun i out=>out.length=i) (fun out=>Sum.inl (out,()))
   (fun i h out hI=>by
    have hlt:i<1000000:=by omega
    have hso:short out:=by unfold short;omega
    have hp:=long_predict_eq (out:=out) (t:=t) (lag:=lag) hso ht hl'.1 hl'.2.1
    rw [hI] at hp
    simp only [F_long_Back_l0,dlt h,cond_true,gidx_get h,Option.bind_some,hp,long_wide_eq,stepB]
    cases hb:wideB (W (rest[i]+longG lag t out)) with
    |true=>
     simp only [cond_true,Bool.not_true,cond_false,lim_short (show out.length+1<1000000 by omega),wrap_succ hlt]
     refine ⟨fun a' ha=>?_,fun b hb=>(by cases hb)⟩
     simp only [Sum.inl.injEq] at ha
     subst ha
     exact ⟨rfl,by simp;omega⟩
    |false=>
     refine ⟨fun a' ha=>(by cases ha),fun b hb=>?_⟩
     simp only [cond_false,Sum.inr.injEq] at hb
     subst hb
     rfl)
   (fun out _=>by simp [F_long_Back_l0]) (a:=[]) rfl
  simp only [Int.natCast_zero,endE_stepB] at this
  rw [this]
  cases backO (longG lag t) rest []<;>rfl
theorem ref_LongBack_eq {rest t:List Int} {lag:Int} (hl:longB lag t=true) (ht:t.length=3) (hr:rest.length<100000):F_r14_LongBack (rest,(lag,t))=some (resB (longO rest lag t)):=by
 have hl':=hl
 simp only [longB,Bool.and_eq_true,decide_eq_true_eq] at hl'
 have hsr:short rest:=by unfold short;omega
 unfold F_r14_LongBack
 simp only [ref_LongMay_eq ht,hl,Option.bind_some,Bool.not_true,cond_false,ref_AllWide_eq hsr,longO]
 cases hw2:rest.all wideB with
 |false=>rfl
 |true=>
  simp only [Bool.not_true,cond_false,cond_true]
  have:=iter_list (f:=F_r14_LongBack_l0) rest (fun i out=>(rest,(lag,((i:Int),(out,(t,())))))) (stepB (longG lag t) (Sum.inr ((6:Int),(([]:List Int),()))))
   (fun i out=>out.length=i) (fun out=>Sum.inl (out,()))
   (fun i h out hI=>by
    have hlt:i<1000000:=by omega
    have hso:short out:=by unfold short;omega
    simp only [F_r14_LongBack_l0,dlt h,cond_true,gidx_get h,Option.bind_some,ref_longGuess_eq hso ht hl'.1 hl'.2.1,ref_Wide_eq,stepB]
    cases hb:wideB (W (rest[i]+longG lag t out)) with
    |true=>
     simp only [cond_true,Bool.not_true,cond_false,lim_short (show out.length+1<1000000 by omega),wrap_succ hlt]
     refine ⟨fun a' ha=>?_,fun b hb=>(by cases hb)⟩
     simp only [Sum.inl.injEq] at ha
     subst ha
     exact ⟨rfl,by simp;omega⟩
    |false=>
     refine ⟨fun a' ha=>(by cases ha),fun b hb=>?_⟩
     simp only [cond_false,Sum.inr.injEq] at hb
     subst hb
     rfl)
   (fun out _=>by simp [F_r14_LongBack_l0]) (a:=[]) rfl
  simp only [Int.natCast_zero,endE_stepB] at this
  rw [this]
  cases backO (longG lag t) rest []<;>rfl
def upStep {β:Type} (n:Int) (bad:β) (out:List Int) (x:Int):List Int ⊕ β:=bif wideB x&&wideB (gshl .i64 x n) then .inl (out++[gshl .i64 x n]) else .inr bad
def upO (n:Int) (l:List Int):Option (List Int):=bif l.all (fun x=>wideB x&&wideB (gshl .i64 x n)) then some (l.map fun x=>gshl .i64 x n) else none
theorem endE_upStep {β:Type} (n:Int) (bad:β) (fin:List Int→β):∀ (l out:List Int),endE fin (foldE (upStep n bad) l out)=match upO n l with|some r=>fin (out++r)|none=>bad
 | [],out=>by simp [foldE,endE,upO]
 |x::l,out=>by
  simp only [foldE,upStep,upO,List.all_cons]
  cases hx:(wideB x&&wideB (gshl .i64 x n)) with
  |true=>
   simp only [cond_true,Bool.true_and]
   rw [endE_upStep n bad fin l _]
   simp only [upO]
   cases l.all (fun x=>wideB x&&wideB (gshl .i64 x n)) with
   |true=>simp
   |false=>rfl
  |false=>rfl
theorem sample_Up_eq {l:List Int} {n:Int} (h0:0≤n) (h1:n≤30) (hr:l.length<100000):F_sample_Up (l,n)=some (resB (upO n l)):=by
 have hsr:short l:=by unfold short;omega
 have g1:¬ n<0:=by omega
 have g2:¬ n > 30:=by omega
 unfold F_sample_Up
 simp only [g1,g2,decide_false,cond_false,Option.bind_some]
 have:=iter_list (f:=F_sample_Up_l0) l (fun i out=>(n,(l,((l.length:Int),((i:Int),(out,())))))) (upStep n (Sum.inr ((6:Int),(([]:List Int),()))))
  (fun i out=>out.length=i) (fun out=>Sum.inl (out,()))
  (fun i h out hI=>by
   have hlt:i<1000000:=by omega
   simp only [F_sample_Up_l0,dlt h,cond_true,gidx_get h,Option.bind_some,sample_wide_eq,upStep,g1,decide_false,cond_false]
   cases hb:wideB l[i] with
   |true=>
    cases hb2:wideB (gshl .i64 l[i] n) with
    |true=>
     simp only [cond_true,Bool.not_true,cond_false,Option.bind_some,g1,decide_false,lim_short (show out.length+1<1000000 by omega),wrap_succ hlt,Bool.and_self]
     refine ⟨fun a' ha=>?_,fun b hb=>(by cases hb)⟩
     simp only [Sum.inl.injEq] at ha
     subst ha
     exact ⟨rfl,by simp;omega⟩
    |false=>
     refine ⟨fun a' ha=>(by cases ha),fun b hb=>?_⟩
     simp only [Bool.true_and,cond_false,Sum.inr.injEq] at hb
     subst hb
     rfl
   |false=>
    refine ⟨fun a' ha=>(by cases ha),fun b hb=>?_⟩
    simp only [Bool.false_and,cond_false,Sum.inr.injEq] at hb
    subst hb
    rfl)
  (fun out _=>by simp [F_sample_Up_l0]) (a:=[]) rfl
 simp only [Int.natCast_zero,endE_upStep,List.nil_append] at this
 rw [this]
 cases upO n l<;>rfl
theorem ref_Up_eq {l:List Int} {n:Int} (h0:0≤n) (h1:n≤30) (hr:l.length<100000):F_r2_Up (l,n)=some (resB (upO n l)):=by
 have hsr:short l:=by unfold short;omega
 have g1:¬ n<0:=by omega
 have g2:¬ n > 30:=by omega
 have hw:=wrapu_small h0 (by omega)
 unfold F_r2_Up
 simp only [g1,g2,decide_false,cond_false,Option.bind_some]
 have:=iter_list (f:=F_r2_Up_l0) l (fun i out=>(l,(n,((i:Int),(out,()))))) (upStep n (Sum.inr ((6:Int),(([]:List Int),()))))
  (fun i out=>out.length=i) (fun out=>Sum.inl (out,()))
  (fun i h out hI=>by
   have hlt:i<1000000:=by omega
   simp only [F_r2_Up_l0,dlt h,cond_true,gidx_get h,Option.bind_some,ref_Wide_eq,upStep,hw,g1,decide_false,cond_false]
   cases hb:wideB l[i] with
   |true=>
    cases hb2:wideB (gshl .i64 l[i] n) with
    |true=>
     simp only [cond_true,Bool.not_true,cond_false,Option.bind_some,hw,g1,decide_false,gidx_get h,lim_short (show out.length+1<1000000 by omega),wrap_succ hlt,Bool.and_self]
     refine ⟨fun a' ha=>?_,fun b hb=>(by cases hb)⟩
     simp only [Sum.inl.injEq] at ha
     subst ha
     exact ⟨rfl,by simp;omega⟩
    |false=>
     refine ⟨fun a' ha=>(by cases ha),fun b hb=>?_⟩
     simp only [Bool.true_and,cond_false,Sum.inr.injEq] at hb
     subst hb
     rfl
   |false=>
    refine ⟨fun a' ha=>(by cases ha),fun b hb=>?_⟩
    simp only [Bool.false_and,cond_false,Sum.inr.injEq] at hb
    subst hb
    rfl)
  (fun out _=>by simp [F_r2_Up_l0]) (a:=[]) rfl
 simp only [Int.natCast_zero,endE_upStep,List.nil_append] at this
 rw [this]
 cases upO n l<;>rfl
end Go.Ab
namespace Go.Ab
@[reducible] def Fil:Type:=Int×((List Int)×((List Int)×Unit))
def clampN (x:Int):Int:=imin (imax x (-1073741824)) 1073741823
def clampW (x:Int):Int:=imin (imax x (-1048576)) 1048576
theorem clampN_range (x:Int):-1073741824≤clampN x∧clampN x≤1073741823:=by
 simp only [clampN,imin_eq,imax_eq];omega
theorem clampW_range (x:Int):-1048576≤clampW x∧clampW x≤1048576:=by
 simp only [clampW,imin_eq,imax_eq];omega
def dotF:List Int→List Int→Int→Int
 |a::w,b::h,acc=>dotF w h (W (acc+W (a*b)))
 |_,_,acc=>acc
def guessF (f:Fil):Int:=clampN (gshr .i64 (dotF f.2.1 f.2.2.1 0) 16)
structure FilOk (f:Fil):Prop where
 len:f.2.1.length=f.2.2.1.length
 pos:1≤f.2.1.length
 most:f.2.1.length≤32
 rate:0≤f.1∧f.1≤8
 small:∀ x∈f.2.1,-1048576≤x∧x≤1048576
theorem getD_get {l:List Int} {i:Nat} (h:i<l.length):List.getD l i 0=l[i]:=by
 rw [List.getD_eq_getElem?_getD,List.getElem?_eq_getElem h];rfl
theorem learn_guess_from {f:Fil} (hf:FilOk f):∀ (k i:Nat) (acc:Int),i+k=f.2.1.length→
  iter F_learn_Filter_Guess_l0 (acc,((f.2.1.length:Int),((i:Int),(f,()))))=some (dotF (f.2.1.drop i) (f.2.2.1.drop i) acc,(f,()))
 |0,i,acc,h=>by
  obtain rfl:i=f.2.1.length:=by omega
  rw [List.drop_length,iter_done (b:=(acc,(f,()))) (by simp [F_learn_Filter_Guess_l0])]
  rfl
 |k+1,i,acc,h=>by
  have h1:i<f.2.1.length:=by omega
  have h2:i<f.2.2.1.length:=by rw [←hf.len];exact h1
  have hm:=hf.most
  rw [List.drop_eq_getElem_cons h1,List.drop_eq_getElem_cons h2,dotF]
  have h0:decide ((0:Int)≤(i:Int))=true:=by simp
  rw [iter_step (s':=(W (acc+W (f.2.1[i]*f.2.2.1[i])),((f.2.1.length:Int),(((i+1:Nat):Int),(f,()))))) (by
   simp only [F_learn_Filter_Guess_l0,dlt h1,dlt h2,h0,cond_true,Bool.and_self,Int.toNat_natCast,getD_get h1,getD_get h2,wrap_succ (show i<1000000 by omega)])]
  exact learn_guess_from hf k (i+1) _ (by omega)
theorem learn_Guess_eq {f:Fil} (hf:FilOk f):F_learn_Filter_Guess f=some (guessF f,f):=by
 have:=learn_guess_from hf f.2.1.length 0 0 (by omega)
 simp only [Int.natCast_zero,List.drop_zero] at this
 unfold F_learn_Filter_Guess
 simp only [this,Option.bind_some,F_learn_nearest]
 rfl
theorem ref_guess_from {f:Fil} (hf:FilOk f):∀ (k i:Nat) (acc:Int),i+k=f.2.1.length→
  iter F_r14_Filter_Guess_l0 (acc,((i:Int),(f,())))=some (dotF (f.2.1.drop i) (f.2.2.1.drop i) acc,(f,()))
 |0,i,acc,h=>by
  obtain rfl:i=f.2.1.length:=by omega
  rw [List.drop_length,iter_done (b:=(acc,(f,()))) (by simp [F_r14_Filter_Guess_l0])]
  rfl
 |k+1,i,acc,h=>by
  have h1:i<f.2.1.length:=by omega
  have h2:i<f.2.2.1.length:=by rw [←hf.len];exact h1
  have hm:=hf.most
  rw [List.drop_eq_getElem_cons h1,List.drop_eq_getElem_cons h2,dotF]
  have h0:decide ((0:Int)≤(i:Int))=true:=by simp
  rw [iter_step (s':=(W (acc+W (f.2.1[i]*f.2.2.1[i])),(((i+1:Nat):Int),(f,())))) (by
   simp only [F_r14_Filter_Guess_l0,dlt h1,dlt h2,h0,cond_true,Bool.and_self,Int.toNat_natCast,getD_get h1,getD_get h2,wrap_succ (show i<1000000 by omega)])]
  exact ref_guess_from hf k (i+1) _ (by omega)
theorem ref_Guess_eq {f:Fil} (hf:FilOk f):F_r14_Filter_Guess f=some (guessF f,f):=by
 have:=ref_guess_from hf f.2.1.length 0 0 (by omega)
 simp only [Int.natCast_zero,List.drop_zero] at this
 unfold F_r14_Filter_Guess
 simp only [this,Option.bind_some,F_r14_wide]
 rfl
def signI (x:Int):Int:=if 0<x then 1 else if x<0 then -1 else 0
def stepF (r:Int) (x g:Int):Int:=signI (x-g)*2^r.toNat
def updW (st:Int) (w h:Int):Int:=clampW (W (w+signI h*st))
def tellF (f:Fil) (x:Int):Fil:=
 (f.1,(List.zipWith (updW (stepF f.1 (clampN x) (guessF f))) f.2.1 f.2.2.1,(clampN x::f.2.2.1.take (f.2.2.1.length-1),f.2.2.2)))
theorem tellF_ok {f:Fil} (hf:FilOk f) (x:Int):FilOk (tellF f x):=by
 obtain ⟨h1,h2,h3,h4,h5⟩:=hf
 have e:(List.zipWith (updW (stepF f.1 (clampN x) (guessF f))) f.2.1 f.2.2.1).length=f.2.1.length:=by simp;omega
 refine ⟨?_,?_,?_,h4,?_⟩
 ·show (List.zipWith _ _ _).length=(clampN x::f.2.2.1.take (f.2.2.1.length-1)).length
  rw [e];simp;omega
 ·show 1≤(List.zipWith _ _ _).length
  rw [e];exact h2
 ·show (List.zipWith _ _ _).length≤32
  rw [e];exact h3
 ·intro y hy
  have hy:y∈List.zipWith (updW (stepF f.1 (clampN x) (guessF f))) f.2.1 f.2.2.1:=hy
  obtain ⟨i,hi,rfl⟩:=List.mem_iff_getElem.1 hy
  simp only [List.getElem_zipWith]
  exact clampW_range _
theorem signI_cases (x:Int):(0<x∧signI x=1)∨(x<0∧signI x=-1)∨(x=0∧signI x=0):=by
 unfold signI
 by_cases h:0<x
 ·exact .inl ⟨h,by rw [if_pos h]⟩
 ·by_cases h':x<0
  ·exact .inr (.inl ⟨h',by rw [if_neg h,if_pos h']⟩)
  ·exact .inr (.inr ⟨by omega,by rw [if_neg h,if_neg h']⟩)
theorem pow_rate {r:Int} (h:0≤r∧r≤8):(2:Int)^r.toNat≤256∧1≤(2:Int)^r.toNat:=by
 have:r.toNat=0∨r.toNat=1∨r.toNat=2∨r.toNat=3∨r.toNat=4∨r.toNat=5∨r.toNat=6∨r.toNat=7∨r.toNat=8:=by omega
 rcases this with e|e|e|e|e|e|e|e|e<;>rw [e]<;>decide
theorem gshl_rate {r:Int} (h:0≤r∧r≤8) {x:Int} (hx:-1≤x∧x≤1):gshl .i64 x r=x*2^r.toNat:=by
 have hp:=pow_rate h
 have hb:min r.toNat 64=r.toNat:=by omega
 unfold gshl
 show IntKind.wrap .i64 (x*2^(min r.toNat 64))=_
 rw [hb]
 have:x=-1∨x=0∨x=1:=by omega
 rcases this with rfl|rfl|rfl
 ·exact wrap64 (by omega)
 ·exact wrap64 (by omega)
 ·exact wrap64 (by omega)
theorem learn_step_eq {f:Fil} (hf:FilOk f) (x:Int):
  (bif decide (clampN x > guessF f) then bif decide (f.1<0) then (none:Option (Int×(Int×(Fil×Unit)))) else some (clampN x,(gshl .i64 (1:Int) f.1,(f,())))
   else bif decide (clampN x<guessF f) then bif decide (f.1<0) then none else some (clampN x,(IntKind.wrap .i64 (0-(gshl .i64 (1:Int) f.1)),(f,())))
   else some (clampN x,((0:Int),(f,()))))=some (clampN x,(stepF f.1 (clampN x) (guessF f),(f,()))):=by
 have hr:¬ f.1<0:=by have:=hf.rate;omega
 have hp:=pow_rate hf.rate
 have hg:=gshl_rate hf.rate (x:=1) (by omega)
 rw [Int.one_mul] at hg
 rcases signI_cases (clampN x-guessF f) with ⟨h1,h2⟩|⟨h1,h2⟩|⟨h1,h2⟩
 ·have h3:clampN x > guessF f:=by omega
  simp only [h3,hr,decide_true,decide_false,cond_true,cond_false,stepF,h2,Int.one_mul,hg]
 ·have h3:¬ clampN x > guessF f:=by omega
  have h4:clampN x<guessF f:=by omega
  simp only [h3,h4,hr,decide_true,decide_false,cond_true,cond_false,stepF,h2,hg]
  rw [wrap64 (by omega)]
  congr 3
  omega
 ·have h3:¬ clampN x > guessF f:=by omega
  have h4:¬ clampN x<guessF f:=by omega
  simp only [h3,h4,decide_false,cond_false,stepF,h2,Int.zero_mul]
theorem set_take {l z:List Int} {i:Nat} (hi:i<l.length) (hz:z.length=l.length):(z.take i++l.drop i).set i (z[i]'(by omega))=z.take (i+1)++l.drop (i+1):=by
 have h1:(z.take i).length=i:=by rw [List.length_take];omega
 have h2:z.take (i+1)=z.take i++[z[i]'(by omega)]:=by rw [List.take_add_one,List.getElem?_eq_getElem (show i<z.length by omega)];rfl
 rw [List.set_append_right _ _ (by omega),h1,Nat.sub_self,List.drop_eq_getElem_cons hi,List.set_cons_zero,h2,List.append_assoc]
 rfl
theorem getD_mid {l z:List Int} {i:Nat} (hi:i<l.length) (hz:z.length=l.length):List.getD (z.take i++l.drop i) i 0=l[i]:=by
 have h1:(z.take i).length=i:=by rw [List.length_take];omega
 rw [List.getD_eq_getElem?_getD,List.getElem?_append_right (by omega),h1,Nat.sub_self,List.getElem?_drop,Nat.add_zero,List.getElem?_eq_getElem hi]
 rfl
theorem small_get {f:Fil} (hf:FilOk f) {i:Nat} (h:i<f.2.1.length):-1048576≤f.2.1[i]∧f.2.1[i]≤1048576:=hf.small _ (List.getElem_mem h)
theorem learn_tell_loop {f:Fil} (hf:FilOk f) {x1 st:Int} (hst:-256≤st∧st≤256):
  iter F_learn_Filter_Tell_l0 (x1,(st,((f.2.2.1.length:Int),((0:Int),(f,())))))=some (x1,((f.1,(List.zipWith (updW st) f.2.1 f.2.2.1,f.2.2)),())):=by
 obtain ⟨z,hz⟩:∃ z,List.zipWith (updW st) f.2.1 f.2.2.1=z:=⟨_,rfl⟩
 have hlen:=hf.len
 have hzl:z.length=f.2.1.length:=by rw [←hz];simp;omega
 have hm:=hf.most
 have:=iter_count (f:=F_learn_Filter_Tell_l0) (fun i=>(x1,(st,((f.2.2.1.length:Int),((i:Int),((f.1,(z.take i++f.2.1.drop i,f.2.2)),()))))))
  f.2.2.1.length (b:=(x1,((f.1,(z,f.2.2)),()))) (fun i hi=>by
   have hi1:i<f.2.1.length:=by omega
   have h0:decide ((0:Int)≤(i:Int))=true:=by simp
   have hl1:(z.take i++f.2.1.drop i).length=f.2.1.length:=by simp;omega
   have hl2:decide ((i:Int)<((z.take i++f.2.1.drop i).length:Int))=true:=by rw [hl1];simp;omega
   have hzi:z[i]'(by omega)=updW st f.2.1[i] f.2.2.1[i]:=by simp only [←hz,List.getElem_zipWith]
   have hsm:=small_get hf hi1
   have hset:=set_take hi1 hzl
   rw [hzi] at hset
   simp only [F_learn_Filter_Tell_l0,dlt hi,h0,hl2,cond_true,Bool.and_self,Int.toNat_natCast,getD_get hi,getD_mid hi1 hzl]
   rcases signI_cases f.2.2.1[i] with ⟨h1,h2⟩|⟨h1,h2⟩|⟨h1,h2⟩
   ·have h3:f.2.2.1[i] > 0:=h1
    simp only [updW,h2,Int.one_mul] at hset
    simp only [h3,decide_true,cond_true,Option.bind_some,h0,hl2,Bool.and_self,Int.toNat_natCast,wrap_succ (show i<1000000 by omega)]
    exact congrArg (fun l=>some (Sum.inl (x1,(st,((f.2.2.1.length:Int),(((i+1:Nat):Int),((f.1,(l,f.2.2)),()))))))) hset
   ·have h3:¬ f.2.2.1[i] > 0:=by omega
    have e:f.2.1[i]+-1*st=f.2.1[i]-st:=by omega
    simp only [updW,h2,e] at hset
    simp only [h3,h1,decide_true,decide_false,cond_true,cond_false,Option.bind_some,h0,hl2,Bool.and_self,Int.toNat_natCast,wrap_succ (show i<1000000 by omega)]
    exact congrArg (fun l=>some (Sum.inl (x1,(st,((f.2.2.1.length:Int),(((i+1:Nat):Int),((f.1,(l,f.2.2)),()))))))) hset
   ·have h3:¬ f.2.2.1[i] > 0:=by omega
    have h4:¬ f.2.2.1[i]<0:=by omega
    have e:W (f.2.1[i]+0*st)=f.2.1[i]:=by rw [Int.zero_mul,Int.add_zero];exact wrap64 (by omega)
    simp only [updW,h2,e] at hset
    simp only [h3,h4,decide_false,cond_false,Option.bind_some,h0,hl2,cond_true,Bool.and_self,Int.toNat_natCast,wrap_succ (show i<1000000 by omega)]
    exact congrArg (fun l=>some (Sum.inl (x1,(st,((f.2.2.1.length:Int),(((i+1:Nat):Int),((f.1,(l,f.2.2)),()))))))) hset)
  (by
   have e1:z.take f.2.2.1.length=z:=List.take_of_length_le (by omega)
   have e2:f.2.1.drop f.2.2.1.length=[]:=List.drop_eq_nil_of_le (by omega)
   simp [F_learn_Filter_Tell_l0,e1,e2])
 simp only [Int.natCast_zero,List.take_zero,List.drop_zero,List.nil_append] at this
 rw [hz]
 exact this
theorem stepF_range {f:Fil} (hf:FilOk f) (x g:Int):-256≤stepF f.1 x g∧stepF f.1 x g≤256:=by
 have hp:=pow_rate hf.rate
 unfold stepF
 rcases signI_cases (x-g) with ⟨-,h2⟩|⟨-,h2⟩|⟨-,h2⟩<;>rw [h2]<;>omega
theorem learn_Tell_eq {f:Fil} (hf:FilOk f) (x:Int):F_learn_Filter_Tell (f,x)=some (tellF f x):=by
 unfold F_learn_Filter_Tell
 have hs:=learn_step_eq hf x
 simp only [F_learn_nearest,Option.bind_some,learn_Guess_eq hf]
 have hs':(bif decide (imin (imax x (-1073741824)) 1073741823 > guessF f) then bif decide (f.1<0) then (none:Option (Int×(Int×(Fil×Unit)))) else some (imin (imax x (-1073741824)) 1073741823,(gshl .i64 (1:Int) f.1,(f,())))
   else bif decide (imin (imax x (-1073741824)) 1073741823<guessF f) then bif decide (f.1<0) then none else some (imin (imax x (-1073741824)) 1073741823,(IntKind.wrap .i64 (0-(gshl .i64 (1:Int) f.1)),(f,())))
   else some (imin (imax x (-1073741824)) 1073741823,((0:Int),(f,()))))=_:=hs
 rw [hs']
 simp only [Option.bind_some,learn_tell_loop hf (stepF_range hf _ _)]
 have h1:f.2.2.1.length≥1:=by have:=hf.pos;have:=hf.len;omega
 have h2:decide ((1:Int)≤((f.2.2.1.length:Nat):Int))=true:=by simp;omega
 have e:gcopy f.2.2.1 1 (f.2.2.1.length-1) f.2.2.1=f.2.2.1.take 1++f.2.2.1.take (f.2.2.1.length-1):=by
  unfold gcopy
  rw [Nat.min_eq_left (by omega),List.drop_eq_nil_of_le (by omega),List.append_nil]
 have hl:(f.2.2.1.take 1++f.2.2.1.take (f.2.2.1.length-1)).length=f.2.2.1.length:=by simp;omega
 have h3:decide ((0:Int)<(((f.2.2.1.take 1++f.2.2.1.take (f.2.2.1.length-1)).length:Nat):Int))=true:=by rw [hl];simp;omega
 simp only [h2,cond_true,e,h3]
 congr 1
 have e2:(f.2.2.1.take 1++f.2.2.1.take (f.2.2.1.length-1)).set 0 (clampN x)=clampN x::f.2.2.1.take (f.2.2.1.length-1):=by
  cases hc:f.2.2.1 with
  |nil=>rw [hc] at h1;simp at h1
  |cons a l=>simp
 rw [e2]
 rfl
theorem ref_sign_eq (x:Int):F_r14_sign x=some (signI x):=by
 unfold F_r14_sign
 rcases signI_cases x with ⟨h1,h2⟩|⟨h1,h2⟩|⟨h1,h2⟩
 ·have:x > 0:=h1
  simp [this,h2]
 ·have:¬ x > 0:=by omega
  simp [this,h1,h2]
 ·subst h1;simp [h2]
theorem ref_tell_loop {f:Fil} (hf:FilOk f) {x1 s:Int} (hs:-1≤s∧s≤1):
  iter F_r14_Filter_Tell_l0 (x1,(s,((0:Int),(([]:List Int),(([]:List Int),(f,()))))))=some (x1,(List.zipWith (updW (s*2^f.1.toNat)) f.2.1 f.2.2.1,(([]:List Int),(f,())))):=by
 obtain ⟨z,hz⟩:∃ z,List.zipWith (updW (s*2^f.1.toNat)) f.2.1 f.2.2.1=z:=⟨_,rfl⟩
 have hlen:=hf.len
 have hzl:z.length=f.2.1.length:=by rw [←hz];simp;omega
 have hm:=hf.most
 have hr:=hf.rate
 have hu:IntKind.wrap .u64 f.1=f.1:=wrapu64 (by omega)
 have hr0:¬ f.1<0:=by omega
 have:=iter_count (f:=F_r14_Filter_Tell_l0) (fun i=>(x1,(s,((i:Int),(z.take i,(([]:List Int),(f,())))))))
  f.2.1.length (b:=(x1,(z,(([]:List Int),(f,()))))) (fun i hi=>by
   have hi2:i<f.2.2.1.length:=by omega
   have h0:decide ((0:Int)≤(i:Int))=true:=by simp
   have hzi:z[i]'(by omega)=updW (s*2^f.1.toNat) f.2.1[i] f.2.2.1[i]:=by simp only [←hz,List.getElem_zipWith]
   have hss:-1≤s*signI f.2.2.1[i]∧s*signI f.2.2.1[i]≤1:=by
    rcases signI_cases f.2.2.1[i] with ⟨-,h2⟩|⟨-,h2⟩|⟨-,h2⟩<;>rw [h2]<;>omega
   have e1:IntKind.wrap .i64 (s*signI f.2.2.1[i])=s*signI f.2.2.1[i]:=wrap64 (by omega)
   have e2:=gshl_rate hr hss
   have e3:imin (imax (IntKind.wrap .i64 (f.2.1[i]+s*signI f.2.2.1[i]*2^f.1.toNat)) (-1048576)) 1048576=z[i]'(by omega):=by
    rw [hzi,show s*signI f.2.2.1[i]*2^f.1.toNat=signI f.2.2.1[i]*(s*2^f.1.toNat) by rw [Int.mul_comm s,Int.mul_assoc]]
    rfl
   have e4:z.take i++[z[i]'(by omega)]=z.take (i+1):=by rw [List.take_add_one,List.getElem?_eq_getElem (by omega)];rfl
   have hl:(z.take i).length+1<1000000:=by rw [List.length_take];omega
   simp only [F_r14_Filter_Tell_l0,dlt hi,dlt hi2,h0,cond_true,Bool.and_self,Int.toNat_natCast,getD_get hi,getD_get hi2,ref_sign_eq,Option.bind_some,hu,hr0,decide_false,cond_false,lim_short hl,e1,e2,e3,List.append_eq,e4,wrap_succ (show i<1000000 by omega)])
  (by
   have e1:z.take f.2.1.length=z:=List.take_of_length_le (by omega)
   simp [F_r14_Filter_Tell_l0,e1])
 simp only [Int.natCast_zero,List.take_zero] at this
 rw [hz]
 exact this
theorem guessF_range (f:Fil):-1073741824≤guessF f∧guessF f≤1073741823:=clampN_range _
theorem ref_Tell_eq {f:Fil} (hf:FilOk f) (x:Int):F_r14_Filter_Tell (f,x)=some (tellF f x):=by
 unfold F_r14_Filter_Tell
 have hc:=clampN_range x
 have hg:=guessF_range f
 have e1:IntKind.wrap .i64 (clampN x-guessF f)=clampN x-guessF f:=wrap64 (by omega)
 have hs:-1≤signI (clampN x-guessF f)∧signI (clampN x-guessF f)≤1:=by
  rcases signI_cases (clampN x-guessF f) with ⟨-,h2⟩|⟨-,h2⟩|⟨-,h2⟩<;>rw [h2]<;>omega
 have h0:F_r14_wide x=some (clampN x):=rfl
 have hm:=hf.most
 have hlen:=hf.len
 have hpos:=hf.pos
 have e2:IntKind.wrap .i64 (((f.2.2.1.length:Nat):Int)-1)=((f.2.2.1.length-1:Nat):Int):=by rw [wrap64 (by omega)];omega
 have h3:decide ((0:Int)≤((f.2.2.1.length-1:Nat):Int))=true:=by simp
 have h4:decide (((f.2.2.1.length-1:Nat):Int)≤((f.2.2.1.length:Nat):Int))=true:=by simp
 have hl:([clampN x]:List Int).length+(f.2.2.1.take (f.2.2.1.length-1)).length<1000000:=by simp;omega
 simp only [h0,Option.bind_some,ref_Guess_eq hf,e1,ref_sign_eq,ref_tell_loop hf hs,List.length_nil,lim_short (show 0+1<1000000 by omega),cond_true,e2,h3,h4,Bool.and_self,Int.toNat_natCast,List.drop_zero,List.append_eq,List.nil_append,lim_short hl]
 rfl
end Go.Ab
namespace Go.Ab
@[reducible] def Stg:Type:=Int×(Int×Unit)
theorem clone_eq {l:List Int} (h:short l):F_slices_Clone___int_int_ l=some l:=by
 unfold F_slices_Clone___int_int_
 have h1:lim (0+l.length)=true:=lim_short (by unfold short at h;omega)
 cases l with
 |nil=>simp only [List.isEmpty_nil,cond_true,h1,List.append_eq,List.nil_append,agree_self]
 |cons a l=>simp only [List.isEmpty_cons,cond_false,h1,cond_true,List.append_eq,List.nil_append]
def newF (s:Stg):Fil:=(s.2.1,(List.replicate s.1.toNat 0,(List.replicate s.1.toNat 0,())))
theorem newF_ok {s:Stg} (h:stageB s=true):FilOk (newF s):=by
 simp only [stageB,Bool.and_eq_true,decide_eq_true_eq] at h
 refine ⟨by simp [newF],by simp [newF];omega,by simp [newF];omega,⟨h.2.2.1,h.2.2.2⟩,fun x hx=>?_⟩
 simp only [newF,List.mem_replicate] at hx
 omega
theorem learn_New_eq {s:Stg} (h:stageB s=true):F_learn_New s=some (newF s,0):=by
 have h':=h
 simp only [stageB,Bool.and_eq_true,decide_eq_true_eq] at h'
 unfold F_learn_New
 have h1:decide ((0:Int)≤s.1)=true:=by simp;omega
 have h2:decide (s.1≤s.1)=true:=by simp
 have h3:lim s.1.toNat=true:=lim_short (by omega)
 simp only [learn_valid_eq,h,Option.bind_some,Bool.not_true,cond_false,h1,h2,h3,Bool.and_self,cond_true]
 rfl
theorem ref_NewFilter_eq {s:Stg} (h:stageB s=true):F_r14_NewFilter s=some (newF s,0):=by
 have h':=h
 simp only [stageB,Bool.and_eq_true,decide_eq_true_eq] at h'
 unfold F_r14_NewFilter
 have h1:decide ((0:Int)≤s.1)=true:=by simp;omega
 have h2:decide (s.1≤s.1)=true:=by simp
 have h3:lim s.1.toNat=true:=lim_short (by omega)
 simp only [ref_StageMay_eq,h,Option.bind_some,Bool.not_true,cond_false,h1,h2,h3,Bool.and_self,cond_true]
 rfl
def stO:List Int→List Int→Fil→Option (List Int)
 | [],done,_=>some done
 |r::rs,done,f=>bif wideB (W (guessF f+r)) then stO rs (done++[W (guessF f+r)]) (tellF f (W (guessF f+r))) else none
theorem stO_length:∀ (l done:List Int) (f:Fil) {r},stO l done f=some r→r.length=done.length+l.length
 | [],done,f,r,h=>by simp only [stO,sj] at h;rw [←h];simp
 |x::l,done,f,r,h=>by
  simp only [stO] at h
  cases hw:wideB (W (guessF f+x)) with
  |true=>rw [hw] at h;rw [stO_length l _ _ h];simp;omega
  |false=>rw [hw] at h;cases h
theorem getD_done {done row:List Int} {i:Nat} (hd:done.length=i) (h:i<row.length):List.getD (done++row.drop i) i 0=row[i]:=by
 rw [List.getD_eq_getElem?_getD,List.getElem?_append_right (by omega),hd,Nat.sub_self,List.getElem?_drop,Nat.add_zero,List.getElem?_eq_getElem h]
 rfl
theorem set_done {done row:List Int} {i:Nat} (hd:done.length=i) (h:i<row.length) (y:Int):(done++row.drop i).set i y=(done++[y])++row.drop (i+1):=by
 rw [List.set_append_right _ _ (by omega),hd,Nat.sub_self,List.drop_eq_getElem_cons h,List.set_cons_zero,List.append_assoc]
 rfl
theorem learn_back_from {row b4:List Int} {b5:Int} (hs:short row):∀ (k i:Nat) (done:List Int) (f:Fil),i+k=row.length→done.length=i→FilOk f→
  ∃ z,iter F_learn_Back_l1 ((row.length:Int),((i:Int),(b4,(b5,(done++row.drop i,(f,()))))))=some z∧
   match stO (row.drop i) done f with
   |some r=>z=.inl (b4,(b5,(r,())))
   |none=>∃ q,z=.inr (([]:List Int),((6:Int),(q,())))
 |0,i,done,f,h,hd,hf=>by
  obtain rfl:i=row.length:=by omega
  rw [List.drop_length,List.append_nil]
  exact ⟨_,iter_done (b:=Sum.inl (b4,(b5,(done,())))) (by simp [F_learn_Back_l1]),rfl⟩
 |k+1,i,done,f,h,hd,hf=>by
  have hi:i<row.length:=by omega
  have hs':row.length<1000000:=hs
  have h0:decide ((0:Int)≤(i:Int))=true:=by simp
  have hl:(done++row.drop i).length=row.length:=by simp;omega
  have h1:decide ((i:Int)<(((done++row.drop i).length:Nat):Int))=true:=by rw [hl];simp;omega
  have hst:stO (row.drop i) done f=bif wideB (W (guessF f+row[i])) then stO (row.drop (i+1)) (done++[W (guessF f+row[i])]) (tellF f (W (guessF f+row[i]))) else none:=by
   rw [List.drop_eq_getElem_cons hi];rfl
  rw [hst]
  cases hw:wideB (W (guessF f+row[i])) with
  |true=>
   rw [iter_step (s':=((row.length:Int),(((i+1:Nat):Int),(b4,(b5,((done++[W (guessF f+row[i])])++row.drop (i+1),(tellF f (W (guessF f+row[i])),()))))))) (by
    simp only [F_learn_Back_l1,dlt hi,h0,h1,cond_true,Bool.and_self,learn_Guess_eq hf,Option.bind_some,Int.toNat_natCast,getD_done hd hi,learn_wide_eq,hw,Bool.not_true,cond_false,learn_Tell_eq hf,set_done hd hi,wrap_succ (show i<1000000 by omega)])]
   exact learn_back_from hs k (i+1) _ _ (by omega) (by simp;omega) (tellF_ok hf _)
  |false=>
   exact ⟨_,iter_done (b:=Sum.inr (([]:List Int),((6:Int),(done++row.drop i,())))) (by
    simp only [F_learn_Back_l1,dlt hi,h0,h1,cond_true,Bool.and_self,learn_Guess_eq hf,Option.bind_some,Int.toNat_natCast,getD_done hd hi,learn_wide_eq,hw,Bool.not_false]),_,rfl⟩
theorem ref_back_from {row:List Int} {st:List Stg} {n:Int} (hs:short row):∀ (k i:Nat) (done:List Int) (f:Fil),i+k=row.length→done.length=i→FilOk f→
  iter F_r14_LearnBack_l0 (st,(n,((i:Int),(done++row.drop i,(f,())))))=some (match stO (row.drop i) done f with
   |some r=>.inl (st,(n,(r,())))
   |none=>.inr ((6:Int),(([]:List Int),())))
 |0,i,done,f,h,hd,hf=>by
  obtain rfl:i=row.length:=by omega
  rw [List.drop_length,List.append_nil]
  have hl:done.length=row.length:=hd
  exact iter_done (b:=Sum.inl (st,(n,(done,())))) (by rw [←hl];simp [F_r14_LearnBack_l0])
 |k+1,i,done,f,h,hd,hf=>by
  have hi:i<row.length:=by omega
  have hs':row.length<1000000:=hs
  have h0:decide ((0:Int)≤(i:Int))=true:=by simp
  have hl:(done++row.drop i).length=row.length:=by simp;omega
  have h1:decide ((i:Int)<(((done++row.drop i).length:Nat):Int))=true:=by rw [hl];simp;omega
  have hst:stO (row.drop i) done f=bif wideB (W (guessF f+row[i])) then stO (row.drop (i+1)) (done++[W (guessF f+row[i])]) (tellF f (W (guessF f+row[i]))) else none:=by
   rw [List.drop_eq_getElem_cons hi];rfl
  have hc:IntKind.wrap .i64 (row[i]+guessF f)=W (guessF f+row[i]):=by rw [Int.add_comm]
  rw [hst]
  cases hw:wideB (W (guessF f+row[i])) with
  |true=>
   rw [iter_step (s':=(st,(n,(((i+1:Nat):Int),((done++[W (guessF f+row[i])])++row.drop (i+1),(tellF f (W (guessF f+row[i])),())))))) (by
    simp only [F_r14_LearnBack_l0,h0,h1,cond_true,Bool.and_self,ref_Guess_eq hf,Option.bind_some,Int.toNat_natCast,getD_done hd hi,hc,ref_Wide_eq,hw,Bool.not_true,cond_false,ref_Tell_eq hf,set_done hd hi,wrap_succ (show i<1000000 by omega)])]
   exact ref_back_from hs k (i+1) _ _ (by omega) (by simp;omega) (tellF_ok hf _)
  |false=>
   exact iter_done (by
    simp only [F_r14_LearnBack_l0,h0,h1,cond_true,Bool.and_self,ref_Guess_eq hf,Option.bind_some,Int.toNat_natCast,getD_done hd hi,hc,ref_Wide_eq,hw,Bool.not_false]
    rfl)
def lO:List Stg→List Int→Option (List Int)
 | [],row=>some row
 |s::r,row=>match stO row [] (newF s) with
  |some row'=>lO r row'
  |none=>none
theorem learn_l0_eq {st:List Stg} {s:Stg} {k:Int} {b4:List Int} {row:List Int} (h:stageB s=true) (hs:short row):
  ∃ z,F_learn_Back_l0 k s (st,(b4,((0:Int),(row,()))))=some z∧match stO row [] (newF s) with
   |some r=>z=.inl (st,(b4,((0:Int),(r,()))))
   |none=>∃ q,z=.inr (.ret,(st,(([]:List Int),((6:Int),(q,()))))):=by
 obtain ⟨z,h1,h2⟩:=learn_back_from (b4:=b4) (b5:=0) hs row.length 0 [] (newF s) (by omega) rfl (newF_ok h)
 simp only [Int.natCast_zero,List.drop_zero,List.nil_append] at h1 h2
 unfold F_learn_Back_l0
 have hne:((0:Int) != 0)=false:=rfl
 simp only [learn_New_eq h,Option.bind_some,hne,cond_false,h1]
 cases hst:stO row [] (newF s) with
 |some r=>
  rw [hst] at h2
  simp only [] at h2
  subst h2
  exact ⟨_,rfl,rfl⟩
 |none=>
  rw [hst] at h2
  obtain ⟨q,rfl⟩:=h2
  exact ⟨_,rfl,q,rfl⟩
theorem learn_backN {st l:List Stg} {b4:List Int} (hl:∀ s∈l,stageB s=true):∀ (n:Nat) (row:List Int),n≤l.length→short row→
  ∃ z,backN F_learn_Back_l0 l n (st,(b4,((0:Int),(row,()))))=some z∧match lO (l.take n).reverse row with
   |some r=>z=.inl (st,(b4,((0:Int),(r,()))))
   |none=>∃ q,z=.inr (.ret,(st,(([]:List Int),((6:Int),(q,())))))
 |0,row,_,_=>⟨_,rfl,rfl⟩
 |n+1,row,hn,hs=>by
  have hlt:n<l.length:=by omega
  obtain ⟨z,h1,h2⟩:=learn_l0_eq (st:=st) (k:=(n:Int)) (b4:=b4) (hl _ (List.getElem_mem hlt)) hs
  have ht:(l.take (n+1)).reverse=l[n]::(l.take n).reverse:=by rw [List.take_add_one,List.getElem?_eq_getElem hlt];simp
  simp only [backN,List.getElem?_eq_getElem hlt,h1,ht,lO]
  cases hst:stO row [] (newF l[n]) with
  |some r=>
   rw [hst] at h2
   simp only [] at h2
   subst h2
   exact learn_backN hl n r (by omega) (by have:=stO_length _ _ _ hst;unfold short at hs ⊢;simp at this;omega)
  |none=>
   rw [hst] at h2
   obtain ⟨q,rfl⟩:=h2
   exact ⟨_,rfl,q,rfl⟩
def learnO (rest:List Int) (st:List Stg):Option (List Int):=bif rest.all wideB then lO st.reverse rest else none
theorem learn_Back_eq {rest:List Int} {st:List Stg} (hl:learnB st=true) (hr:rest.length<100000):F_learn_Back (rest,st)=some (resB (learnO rest st)):=by
 have hl':=hl
 simp only [learnB,Bool.and_eq_true,decide_eq_true_eq] at hl'
 have hss:short st:=by unfold short;omega
 have hsr:short rest:=by unfold short;omega
 unfold F_learn_Back
 simp only [learn_May_eq hss,hl,Option.bind_some,Bool.not_true,cond_false,learn_allWide_eq hsr,learnO]
 cases hw:rest.all wideB with
 |false=>rfl
 |true=>
  obtain ⟨z,h1,h2⟩:=learn_backN (st:=st) (b4:=[]) (List.all_eq_true.1 hl'.2) st.length rest (Nat.le_refl _) hsr
  rw [List.take_length] at h2
  simp only [Bool.not_true,cond_false,cond_true,clone_eq hsr,Option.bind_some,lim_short hss,h1]
  cases hst:lO st.reverse rest with
  |some r=>
   rw [hst] at h2
   simp only [] at h2
   subst h2
   rfl
  |none=>
   rw [hst] at h2
   obtain ⟨q,rfl⟩:=h2
   rfl
theorem ref_stages {l:List Stg} (hl:∀ s∈l,stageB s=true) (hlen:l.length≤3):∀ (n:Nat) (row:List Int),n≤l.length→short row→
  iter F_r14_LearnBack_l1 (l,((n:Int)-1,(row,())))=some (match lO (l.take n).reverse row with
   |some r=>.inl (r,())
   |none=>.inr ((6:Int),(([]:List Int),())))
 |0,row,_,_=>iter_done (by simp [F_r14_LearnBack_l1,lO])
 |n+1,row,hn,hs=>by
  have hlt:n<l.length:=by omega
  have hstage:=hl _ (List.getElem_mem hlt)
  have h1:=ref_back_from (st:=l) (n:=(n:Int)) hs row.length 0 [] (newF l[n]) (by omega) rfl (newF_ok hstage)
  simp only [Int.natCast_zero,List.drop_zero,List.nil_append] at h1
  have ht:(l.take (n+1)).reverse=l[n]::(l.take n).reverse:=by rw [List.take_add_one,List.getElem?_eq_getElem hlt];simp
  have e0:((n+1:Nat):Int)-1=(n:Int):=by omega
  have hd:decide ((n:Int)≥0)=true:=by simp
  have e1:IntKind.wrap .i64 ((n:Int)-1)=(n:Int)-1:=wrap64 (by omega)
  rw [ht,e0]
  simp only [lO]
  cases hst:stO row [] (newF l[n]) with
  |some r=>
   rw [hst] at h1
   rw [iter_step (s':=(l,((n:Int)-1,(r,())))) (by simp only [F_r14_LearnBack_l1,hd,cond_true,gidx_get hlt,Option.bind_some,ref_NewFilter_eq hstage,h1,e1])]
   exact ref_stages hl hlen n r (by omega) (by have:=stO_length _ _ _ hst;unfold short at hs ⊢;simp at this;omega)
  |none=>
   rw [hst] at h1
   exact iter_done (by simp only [F_r14_LearnBack_l1,hd,cond_true,gidx_get hlt,Option.bind_some,ref_NewFilter_eq hstage,h1])
theorem ref_LearnBack_eq {rest:List Int} {st:List Stg} (hl:learnB st=true) (hr:rest.length<100000):F_r14_LearnBack (rest,st)=some (resB (learnO rest st)):=by
 have hl':=hl
 simp only [learnB,Bool.and_eq_true,decide_eq_true_eq] at hl'
 have hss:short st:=by unfold short;omega
 have hsr:short rest:=by unfold short;omega
 unfold F_r14_LearnBack
 simp only [ref_LearnMay_eq hss,hl,Option.bind_some,Bool.not_true,cond_false,ref_AllWide_eq hsr,learnO]
 cases hw:rest.all wideB with
 |false=>rfl
 |true=>
  have h1:=ref_stages (List.all_eq_true.1 hl'.2) hl'.1 st.length rest (Nat.le_refl _) hsr
  rw [List.take_length] at h1
  have e1:IntKind.wrap .i64 (((st.length:Nat):Int)-1)=((st.length:Nat):Int)-1:=wrap64 (by omega)
  simp only [Bool.not_true,cond_false,cond_true,lim_short (show 0+rest.length<1000000 by omega),e1,List.append_eq,List.nil_append,h1,Option.bind_some]
  cases lO st.reverse rest<;>rfl
end Go.Ab
namespace Go.Ab
def rowB (n warm:Int):Bool:=decide (1≤n)&&(decide (n≤4096)&&(decide (0≤warm)&&decide (warm≤n)))
theorem parts_row_eq (n warm:Int):F_parts_row (n,warm)=some (rowB n warm):=by
 unfold F_parts_row rowB
 by_cases h1:1≤n<;>by_cases h2:n≤4096<;>by_cases h3:0≤warm<;>simp [h1,h2,h3]
theorem ref_row_eq (n warm:Int):F_r8_row (n,warm)=some (rowB n warm):=by
 unfold F_r8_row rowB
 by_cases h1:1≤n<;>by_cases h2:n≤4096<;>by_cases h3:0≤warm<;>simp [h1,h2,h3]
theorem pow8 {o:Nat} (h:o≤8):1≤2^o∧2^o≤256:=by
 have:o=0∨o=1∨o=2∨o=3∨o=4∨o=5∨o=6∨o=7∨o=8:=by omega
 rcases this with e|e|e|e|e|e|e|e|e<;>rw [e]<;>decide
theorem gshr_nat {N o:Nat} (h:o≤64):gshr .i64 (N:Int) (o:Int)=((N / 2^o:Nat):Int):=by
 unfold gshr
 show Int.fdiv (N:Int) (2^(min (o:Int).toNat 64))=_
 rw [Int.toNat_natCast,Nat.min_eq_left h,Int.fdiv_eq_ediv_of_nonneg _ (Int.le_of_lt (Int.pow_pos (by decide))),Int.natCast_ediv,Int.natCast_pow]
 rfl
theorem gshl_nat {N o:Nat} (h:o≤64) (hs:N*2^o<9223372036854775808):gshl .i64 (N:Int) (o:Int)=((N*2^o:Nat):Int):=by
 unfold gshl
 show IntKind.wrap .i64 ((N:Int)*2^(min (o:Int).toNat 64))=_
 rw [Int.toNat_natCast,Nat.min_eq_left h]
 have e:(N:Int)*2^o=((N*2^o:Nat):Int):=by rw [Int.natCast_mul,Int.natCast_pow];rfl
 rw [e]
 exact wrap64 (by omega)
def sizesN (o N:Nat) (warm:Int):List Int:=
 if N%2^o=0∧warm≤((N / 2^o:Nat):Int) then (((N / 2^o:Nat):Int)-warm)::List.replicate (2^o-1) ((N / 2^o:Nat):Int) else []
def sizesI (order n warm:Int):List Int:=bif rowB n warm&&(decide (0≤order)&&decide (order≤8)) then sizesN order.toNat n.toNat warm else []
theorem parts_Sizes_eq (order n warm:Int):F_parts_Sizes (order,(n,warm))=some (sizesI order n warm):=by
 unfold F_parts_Sizes sizesI
 simp only [parts_row_eq,Option.bind_some]
 cases hr:rowB n warm with
 |false=>rfl
 |true=>
  simp only [rowB,Bool.and_eq_true,decide_eq_true_eq] at hr
  simp only [Bool.not_true,cond_false,Bool.true_and]
  by_cases h1:order<0
  ·have:¬ 0≤order:=by omega
   simp [h1,this]
  by_cases h2:order > 8
  ·have:¬ order≤8:=by omega
   simp [h1,h2,this]
  obtain ⟨o,rfl⟩:=Int.eq_ofNat_of_zero_le (show 0≤order by omega)
  obtain ⟨N,rfl⟩:=Int.eq_ofNat_of_zero_le (show 0≤n by omega)
  have ho:o≤8:=by omega
  have hN:N≤4096:=by omega
  have hp:=pow8 ho
  have hle:N / 2^o*2^o≤N:=Nat.div_mul_le_self N _
  have g0:(0:Int)≤(o:Int):=by omega
  have g8:(o:Int)≤8:=by omega
  simp only [h1,h2,g0,g8,decide_true,decide_false,cond_false,cond_true,Bool.and_self,Option.bind_some,gshr_nat (N:=N) (show o≤64 by omega),gshl_nat (N:=N / 2^o) (show o≤64 by omega) (by omega),Int.toNat_natCast]
  have hmod:=Nat.div_add_mod N (2^o)
  rw [Nat.mul_comm] at hmod
  by_cases hm:N%2^o=0
  ·have e1:(((N / 2^o*2^o:Nat):Int) != (N:Int))=false:=by rw [show N / 2^o*2^o=N by omega];simp
   by_cases hw:warm≤((N / 2^o:Nat):Int)
   ·have e2:decide (((N / 2^o:Nat):Int)<warm)=false:=decide_eq_false (Int.not_lt.2 hw)
    have e3:IntKind.wrap .i64 (((N / 2^o:Nat):Int)-warm)=((N / 2^o:Nat):Int)-warm:=wrap64 (by have:=Nat.div_le_self N (2^o);omega)
    simp only [e1,e2,e3,cond_false,Option.bind_some,sizesN,hm,hw,and_self,if_true]
    have hg:gshl .i64 (1:Int) (o:Int)=((2^o:Nat):Int):=by have:=gshl_nat (N:=1) (show o≤64 by omega) (by omega);simpa using this
    have:=iter_count (f:=F_parts_Sizes_l0) (fun i=>((o:Int),(((N / 2^o:Nat):Int),((((N / 2^o:Nat):Int)-warm)::List.replicate i ((N / 2^o:Nat):Int),())))) (2^o-1)
     (b:=((((N / 2^o:Nat):Int)-warm)::List.replicate (2^o-1) ((N / 2^o:Nat):Int),())) (fun i hi=>by
      have hd:decide ((((((N / 2^o:Nat):Int)-warm)::List.replicate i ((N / 2^o:Nat):Int)).length:Int)<((2^o:Nat):Int))=true:=by
       rw [List.length_cons,List.length_replicate];simp only [decide_eq_true_eq];omega
      have hlim:lim (((((N / 2^o:Nat):Int)-warm)::List.replicate i ((N / 2^o:Nat):Int)).length+1)=true:=lim_short (by rw [List.length_cons,List.length_replicate];omega)
      have ea:List.replicate i ((N / 2^o:Nat):Int)++[((N / 2^o:Nat):Int)]=List.replicate (i+1) ((N / 2^o:Nat):Int):=by rw [←List.replicate_succ']
      simp only [F_parts_Sizes_l0,h1,decide_false,cond_false,hg,hd,cond_true,hlim,List.append_eq,List.cons_append,ea])
     (by
      have hd:decide ((((((N / 2^o:Nat):Int)-warm)::List.replicate (2^o-1) ((N / 2^o:Nat):Int)).length:Int)<((2^o:Nat):Int))=false:=by
       rw [List.length_cons,List.length_replicate];simp only [decide_eq_false_iff_not];omega
      simp only [F_parts_Sizes_l0,h1,decide_false,cond_false,hg,hd])
    simp only [List.replicate_zero] at this
    simp only [this,Option.bind_some]
   ·have e2:decide (((N / 2^o:Nat):Int)<warm)=true:=decide_eq_true (Int.not_le.1 hw)
    simp only [e1,e2,cond_false,cond_true,Option.bind_some,sizesN,hw,and_false,if_false]
  ·have e1:(((N / 2^o*2^o:Nat):Int) != (N:Int))=true:=by simp only [bne_iff_ne,ne_eq];intro hc;have:=Int.ofNat.inj hc;omega
   simp only [e1,cond_true,Option.bind_some,sizesN,hm,false_and,if_false]
theorem ref_PartsSizes_eq (order n warm:Int):F_r8_PartsSizes (order,(n,warm))=some (sizesI order n warm):=by
 unfold F_r8_PartsSizes sizesI
 simp only [ref_row_eq,Option.bind_some]
 cases hr:rowB n warm with
 |false=>rfl
 |true=>
  simp only [rowB,Bool.and_eq_true,decide_eq_true_eq] at hr
  simp only [Bool.not_true,cond_false,Bool.true_and]
  by_cases h1:order<0
  ·have:¬ 0≤order:=by omega
   simp [h1,this]
  by_cases h2:order > 8
  ·have:¬ order≤8:=by omega
   simp [h1,h2,this]
  obtain ⟨o,rfl⟩:=Int.eq_ofNat_of_zero_le (show 0≤order by omega)
  obtain ⟨N,rfl⟩:=Int.eq_ofNat_of_zero_le (show 0≤n by omega)
  have ho:o≤8:=by omega
  have hN:N≤4096:=by omega
  have hp:=pow8 ho
  have g0:(0:Int)≤(o:Int):=by omega
  have g8:(o:Int)≤8:=by omega
  have hu:IntKind.wrap .u64 (o:Int)=(o:Int):=wrapu64 (by omega)
  have hg:gshl .i64 (1:Int) (o:Int)=((2^o:Nat):Int):=by have:=gshl_nat (N:=1) (show o≤64 by omega) (by omega);simpa using this
  have hz:(((2^o:Nat):Int)==0)=false:=by simp only [beq_eq_false_iff_ne,ne_eq];omega
  have ht:Int.tmod (N:Int) ((2^o:Nat):Int)=((N%2^o:Nat):Int):=by rw [Int.tmod_eq_emod_of_nonneg (by omega),Int.natCast_emod]
  simp only [h1,h2,g0,g8,decide_true,decide_false,cond_false,cond_true,Bool.and_self,hu,hg,hz,ht,gshr_nat (N:=N) (show o≤64 by omega),Int.toNat_natCast]
  by_cases hm:N%2^o=0
  ·have e1:(((0:Nat):Int) != 0)=false:=rfl
   by_cases hw:warm≤((N / 2^o:Nat):Int)
   ·have e2:decide (((N / 2^o:Nat):Int)<warm)=false:=decide_eq_false (Int.not_lt.2 hw)
    have e3:IntKind.wrap .i64 (((N / 2^o:Nat):Int)-warm)=((N / 2^o:Nat):Int)-warm:=wrap64 (by have:=Nat.div_le_self N (2^o);omega)
    simp only [e1,e2,cond_false,Option.bind_some,sizesN,hm,hw,and_self,if_true]
    have:=iter_count (f:=F_r8_PartsSizes_l0) (fun i=>((o:Int),((N:Int),(warm,((i:Int),(List.replicate i ((N / 2^o:Nat):Int),())))))) (2^o)
     (b:=(warm,(List.replicate (2^o) ((N / 2^o:Nat):Int),()))) (fun i hi=>by
      have hd:decide ((i:Int)<((2^o:Nat):Int))=true:=by simp only [decide_eq_true_eq];omega
      have hlim:lim ((List.replicate i ((N / 2^o:Nat):Int)).length+1)=true:=lim_short (by rw [List.length_replicate];omega)
      have ea:List.replicate i ((N / 2^o:Nat):Int)++[((N / 2^o:Nat):Int)]=List.replicate (i+1) ((N / 2^o:Nat):Int):=by rw [←List.replicate_succ']
      simp only [F_r8_PartsSizes_l0,hu,h1,decide_false,cond_false,hg,hd,cond_true,hlim,gshr_nat (N:=N) (show o≤64 by omega),List.append_eq,ea,wrap_succ (show i<1000000 by omega)])
     (by
      have hd:decide (((2^o:Nat):Int)<((2^o:Nat):Int))=false:=by simp
      simp only [F_r8_PartsSizes_l0,hu,h1,decide_false,cond_false,hg,hd])
    simp only [Int.natCast_zero,List.replicate_zero] at this
    have hl:decide ((0:Int)<(((List.replicate (2^o) ((N / 2^o:Nat):Int)).length:Nat):Int))=true:=by rw [List.length_replicate];simp only [decide_eq_true_eq];omega
    obtain ⟨q,hq⟩:∃ q,2^o=q+1:=⟨2^o-1,by omega⟩
    simp only [this,Option.bind_some,hl,cond_true]
    rw [hq] at e3 ⊢
    simp only [List.replicate_succ,List.getD_cons_zero,List.set_cons_zero,Nat.add_sub_cancel]
    rw [e3]
   ·have e2:decide (((N / 2^o:Nat):Int)<warm)=true:=decide_eq_true (Int.not_le.1 hw)
    simp only [hm,e1,e2,cond_false,cond_true,Option.bind_some,sizesN,hw,and_false,if_false]
  ·have e1:(((N%2^o:Nat):Int) != 0)=true:=by simp only [bne_iff_ne,ne_eq];omega
   simp only [e1,cond_true,Option.bind_some,sizesN,hm,false_and,if_false]
@[reducible] def Prt:Type:=Int×((List Int)×Unit)
def kB (k:Int):Bool:=(decide (0≤k)&&decide (k≤25)) || (k==31)
def partsB (p:Prt) (n warm:Int):Bool:=!((sizesI p.1 n warm).length==0)&&((sizesI p.1 n warm).length==p.2.1.length&&p.2.1.all kB)
theorem parts_May_eq {p:Prt} {n warm:Int} (hk:short p.2.1):F_parts_May (p,(n,warm))=some (partsB p n warm):=by
 have:=iter_all (f:=F_parts_May_l0) p.2.1 (fun i=>(p.2.1,((p.2.1.length:Int),((i:Int),())))) kB (bt:=Sum.inl ()) (bf:=Sum.inr (false,()))
  (fun i h hp=>by
   simp only [kB,Bool.or_eq_true,Bool.and_eq_true,decide_eq_true_eq,beq_iff_eq] at hp
   by_cases h1:p.2.1[i]<0
   ·omega
   ·by_cases h2:p.2.1[i] > 25
    ·have h3:p.2.1[i]=31:=by omega
     have h4:(p.2.1[i] != 31)=false:=by rw [h3];rfl
     simp [F_parts_May_l0,gidx_get h,h,h1,h2,h4,wrap_succ (Nat.lt_trans h hk)]
    ·simp [F_parts_May_l0,gidx_get h,h,h1,h2,wrap_succ (Nat.lt_trans h hk)])
  (fun i h hp=>by
   have hp:¬ (kB p.2.1[i]=true):=by rw [hp];simp
   simp only [kB,Bool.or_eq_true,Bool.and_eq_true,decide_eq_true_eq,beq_iff_eq] at hp
   have h3:p.2.1[i]≠31:=fun e=>hp (.inr e)
   have h4:(p.2.1[i] != 31)=true:=by simp [h3]
   by_cases h1:p.2.1[i]<0
   ·simp [F_parts_May_l0,gidx_get h,h,h1,h4]
   ·have h2:p.2.1[i] > 25:=by omega
    simp [F_parts_May_l0,gidx_get h,h,h1,h2,h4])
  (by simp [F_parts_May_l0])
 simp only [Int.natCast_zero] at this
 unfold F_parts_May partsB
 simp only [parts_Sizes_eq,Option.bind_some]
 by_cases h0:(sizesI p.1 n warm).length=0
 ·have e:((((sizesI p.1 n warm).length:Nat):Int)==0)=true:=by simp [h0]
  simp [e,h0]
 ·have e:((((sizesI p.1 n warm).length:Nat):Int)==0)=false:=by simp only [beq_eq_false_iff_ne,ne_eq];omega
  have e':((sizesI p.1 n warm).length==0)=false:=by simp only [beq_eq_false_iff_ne,ne_eq];omega
  simp only [e,e',cond_false,Option.bind_some,Bool.not_false,Bool.true_and]
  by_cases h1:(sizesI p.1 n warm).length=p.2.1.length
  ·have e1:(((p.2.1.length:Nat):Int) != (((sizesI p.1 n warm).length:Nat):Int))=false:=by simp [h1]
   have e2:((sizesI p.1 n warm).length==p.2.1.length)=true:=by simp [h1]
   simp only [e1,e2,cond_false,this,Option.bind_some,Bool.true_and]
   cases p.2.1.all kB<;>rfl
  ·have e1:(((p.2.1.length:Nat):Int) != (((sizesI p.1 n warm).length:Nat):Int))=true:=by simp only [bne_iff_ne,ne_eq];omega
   have e2:((sizesI p.1 n warm).length==p.2.1.length)=false:=by simp only [beq_eq_false_iff_ne,ne_eq];exact h1
   simp only [e1,e2,cond_true,Bool.false_and]
theorem ref_PartsMay_eq {p:Prt} {n warm:Int} (hk:short p.2.1):F_r8_PartsMay (p,(n,warm))=some (partsB p n warm):=by
 have hpar:∀ k:Int,F_r8_parameter k=some (decide (0≤k)&&decide (k≤25)):=fun k=>by
  unfold F_r8_parameter
  by_cases h:0≤k<;>simp [h]
 have:=iter_all (f:=F_r8_PartsMay_l0) p.2.1 (fun i=>((i:Int),(p,()))) kB (bt:=Sum.inl ()) (bf:=Sum.inr (false,()))
  (fun i h hp=>by
   simp only [kB,Bool.or_eq_true] at hp
   cases hc:(decide (0≤p.2.1[i])&&decide (p.2.1[i]≤25)) with
   |true=>simp [F_r8_PartsMay_l0,gidx_get h,h,hpar,hc,wrap_succ (Nat.lt_trans h hk)]
   |false=>
    have h3:p.2.1[i]=31:=by rw [hc] at hp;simpa using hp
    have h4:(p.2.1[i] != 31)=false:=by rw [h3];rfl
    simp [F_r8_PartsMay_l0,gidx_get h,h,hpar,hc,h4,wrap_succ (Nat.lt_trans h hk)])
  (fun i h hp=>by
   simp only [kB,Bool.or_eq_false_iff] at hp
   have h3:p.2.1[i]≠31:=by simpa using hp.2
   have h4:(p.2.1[i] != 31)=true:=by simp [h3]
   simp [F_r8_PartsMay_l0,gidx_get h,h,hpar,hp.1,h4])
  (by simp [F_r8_PartsMay_l0])
 simp only [Int.natCast_zero] at this
 unfold F_r8_PartsMay partsB
 simp only [ref_PartsSizes_eq,Option.bind_some]
 by_cases h0:(sizesI p.1 n warm).length=0
 ·have e:((((sizesI p.1 n warm).length:Nat):Int)==0)=true:=by simp [h0]
  simp [e,h0]
 ·have e:((((sizesI p.1 n warm).length:Nat):Int)==0)=false:=by simp only [beq_eq_false_iff_ne,ne_eq];omega
  have e':((sizesI p.1 n warm).length==0)=false:=by simp only [beq_eq_false_iff_ne,ne_eq];omega
  simp only [e,e',cond_false,Option.bind_some,Bool.not_false,Bool.true_and]
  by_cases h1:(sizesI p.1 n warm).length=p.2.1.length
  ·have e1:((((sizesI p.1 n warm).length:Nat):Int) != ((p.2.1.length:Nat):Int))=false:=by simp [h1]
   have e2:((sizesI p.1 n warm).length==p.2.1.length)=true:=by simp [h1]
   simp only [e1,e2,cond_false,this,Option.bind_some,Bool.true_and]
   cases p.2.1.all kB<;>rfl
  ·have e1:((((sizesI p.1 n warm).length:Nat):Int) != ((p.2.1.length:Nat):Int))=true:=by simp only [bne_iff_ne,ne_eq];omega
   have e2:((sizesI p.1 n warm).length==p.2.1.length)=false:=by simp only [beq_eq_false_iff_ne,ne_eq];exact h1
   simp only [e1,e2,cond_true,Bool.false_and]
end Go.Ab
namespace Go.Ab
@[reducible] def Sub:Type:=Int×(Int×(Int×(Int×(Int×((List Int)×((List Int)×((List Stg)×((List Int)×(Prt×((List Int)×Unit))))))))))
structure SmallS (s:Sub):Prop where
 coefs:s.2.2.2.2.2.1.length≤40
 taps:s.2.2.2.2.2.2.1.length=3
 stages:s.2.2.2.2.2.2.2.1.length≤6
 warm:s.2.2.2.2.2.2.2.2.1.length≤200
 rest:s.2.2.2.2.2.2.2.2.2.2.1.length≤200
 ks:s.2.2.2.2.2.2.2.2.2.1.2.1.length≤300
theorem eqT_ints (x y:List Int):eqT (.arr 3 (.int .i64)) x y=decide (x=y):=by
 show ((List.zipWith (fun (a b:Int)=>a==b) x y).all id&&x.length==y.length)=_
 induction x generalizing y with
 |nil=>cases y<;>simp
 |cons a x ih=>
  cases y with
  |nil=>simp
  |cons b y=>
   have:=ih y
   simp only [List.zipWith_cons_cons,List.all_cons,List.length_cons,id]
   rw [Bool.and_assoc,show ((x.length+1==y.length+1):Bool)=(x.length==y.length) from by simp,this]
   by_cases h1:a=b<;>by_cases h2:x=y<;>simp [h1,h2]
theorem clone_v_eq {l:List Int} (h:short l):F_slices_Clone___int_int_v l=some l:=clone_eq h
theorem cloneS_v_eq {l:List Stg} (h:short l):F_slices_Clone___api_Stage_api_Stage_v l=some l:=by
 unfold F_slices_Clone___api_Stage_api_Stage_v
 have h1:lim (0+l.length)=true:=lim_short (by unfold short at h;omega)
 cases l with
 |nil=>simp only [List.isEmpty_nil,cond_true,h1,List.append_eq,List.nil_append,agree_self]
 |cons a l=>simp only [List.isEmpty_cons,cond_false,h1,cond_true,List.append_eq,List.nil_append]
def fitP (k:Int) (s:Sub) (n:Int):Prop:=
 k=0∨k=1∨(k=2∧0≤s.2.2.1∧s.2.2.1≤4∧s.2.2.1≤n)∨(k=3∧linB s.2.2.2.2.2.1 s.2.2.2.1=true∧(s.2.2.2.2.2.1.length:Int)≤n)∨
  (k=4∧linB s.2.2.2.2.2.1 s.2.2.2.1=true∧(s.2.2.2.2.2.1.length:Int)≤n∧longB s.2.2.2.2.1 s.2.2.2.2.2.2.1=true)∨
  (k=5∧0<s.2.2.2.2.2.2.2.1.length∧learnB s.2.2.2.2.2.2.2.1=true)
open Classical in
def fitB (k:Int) (s:Sub) (n:Int):Bool:=decide (fitP k s n)
theorem fit_eq {s:Sub} (h:SmallS s) (k n:Int):F_sub_fit (k,(s,n))=some (fitB k s n):=by
 have hc:short s.2.2.2.2.2.1:=by have:=h.coefs;unfold short;omega
 have hst:short s.2.2.2.2.2.2.2.1:=by have:=h.stages;unfold short;omega
 unfold F_sub_fit fitB fitP
 by_cases k0:k=0
 ·subst k0;simp
 by_cases k1:k=1
 ·subst k1;simp
 have e0:(k==0)=false:=by simp [k0]
 have e1:(k==1)=false:=by simp [k1]
 simp only [e0,e1,cond_false,Option.bind_some]
 by_cases k2:k=2
 ·subst k2
  by_cases h1:0≤s.2.2.1<;>by_cases h2:s.2.2.1≤4<;>simp [h1,h2]
 by_cases k3:k=3
 ·subst k3
  cases hl:linB s.2.2.2.2.2.1 s.2.2.2.1<;>simp [linear_May_eq hc,hl]
 by_cases k4:k=4
 ·subst k4
  cases hl:linB s.2.2.2.2.2.1 s.2.2.2.1<;>by_cases h2:(s.2.2.2.2.2.1.length:Int)≤n<;>simp [linear_May_eq hc,long_May_eq h.taps,hl,h2]
 by_cases k5:k=5
 ·subst k5
  by_cases h1:0<s.2.2.2.2.2.2.2.1.length
  ·simp [learn_May_eq hst,h1]
  ·simp [h1]
 have e2:(k==2)=false:=by simp [k2]
 have e3:(k==3)=false:=by simp [k3]
 have e4:(k==4)=false:=by simp [k4]
 have e5:(k==5)=false:=by simp [k5]
 simp only [e2,e3,e4,e5,cond_false]
 simp [k0,k1,k2,k3,k4,k5]
def warmI (s:Sub) (n:Int):Int:=if s.1=0 then 1 else if s.1=1 then n else if s.1=2 then s.2.2.1 else if s.1=3∨s.1=4 then (s.2.2.2.2.2.1.length:Int) else 0
theorem warmth_eq (s:Sub) (n:Int):F_sub_warmth (s,n)=some (warmI s n):=by
 obtain ⟨k,s⟩:=s
 unfold F_sub_warmth warmI
 by_cases k0:k=0
 ·subst k0;simp
 by_cases k1:k=1
 ·subst k1;simp
 by_cases k2:k=2
 ·subst k2;simp
 by_cases k3:k=3
 ·subst k3;simp
 by_cases k4:k=4
 ·subst k4;simp
 have e0:(k==0)=false:=by simp [k0]
 have e1:(k==1)=false:=by simp [k1]
 have e2:(k==2)=false:=by simp [k2]
 have e3:(k==3)=false:=by simp [k3]
 have e4:(k==4)=false:=by simp [k4]
 simp [k0,k1,k2,k3,k4,e0,e1,e2,e3,e4]
def aloneP (s:Sub):Prop:=
 (s.1≠2→s.2.2.1=0)∧(s.1≠3∧s.1≠4→s.2.2.2.1=0)∧(s.1≠4→s.2.2.2.2.1=0)∧(s.1≠4→s.2.2.2.2.2.2.1=[0,0,0])∧(s.1≠3∧s.1≠4→s.2.2.2.2.2.1=[])∧(s.1≠5→s.2.2.2.2.2.2.2.1=[])
open Classical in
def aloneB (s:Sub):Bool:=decide (aloneP s)
theorem and_some {c x:Bool}:(bif c then some x else some false)=some (c&&x):=by cases c<;>rfl
theorem len0 {α:Type} (l:List α):(((l.length:Nat):Int)==0)=decide (l=[]):=by
 cases l with
 |nil=>rfl
 |cons a l=>simp;omega
theorem beq0 (x:Int):(x==0)=decide (x=0):=rfl
theorem alone_eq {s:Sub} (h:SmallS s):F_sub_alone s=some (aloneB s):=by
 have hc:short s.2.2.2.2.2.1:=by have:=h.coefs;unfold short;omega
 have hst:short s.2.2.2.2.2.2.2.1:=by have:=h.stages;unfold short;omega
 obtain ⟨k,w,o,sh,lag,c,t,st,wm,p,r,u⟩:=s
 simp only at hc hst
 unfold F_sub_alone F_sub_chosen aloneB aloneP
 have ht:(List.replicate 3 (0:Int))=[0,0,0]:=rfl
 by_cases k2:k=2
 ·subst k2
  simp [eqT_ints,ht,and_some,len0,beq0]
 by_cases k4:k=4
 ·subst k4
  simp [eqT_ints,ht,and_some,len0,beq0,clone_v_eq hc]
 by_cases k3:k=3
 ·subst k3
  simp [eqT_ints,ht,and_some,len0,beq0,clone_v_eq hc]
 by_cases k5:k=5
 ·subst k5
  simp [eqT_ints,ht,and_some,len0,beq0,cloneS_v_eq hst]
 have e2:(k==2)=false:=by simp [k2]
 have e3:(k==3)=false:=by simp [k3]
 have e4:(k==4)=false:=by simp [k4]
 have e5:(k==5)=false:=by simp [k5]
 simp [e2,e3,e4,e5,k2,k3,k4,k5,eqT_ints,ht,and_some,len0,beq0]
theorem rested_eq (k:Int):F_sub_rested k=some (decide (k≠0∧k≠1)):=by
 unfold F_sub_rested
 by_cases h0:k=0
 ·subst h0;rfl
 ·by_cases h1:k=1
  ·subst h1;rfl
  ·have e:(k != 0)=true:=by simp [h0]
   simp [e,h0,h1]
def statedP (s:Sub) (n:Int):Prop:=
 1≤n∧n≤4096∧fitP s.1 s n∧aloneP s∧0≤s.2.1∧s.2.1≤30∧(s.1=0→s.2.1=0)∧(s.2.2.2.2.2.2.2.2.1.length:Int)=warmI s n∧s.2.2.2.2.2.2.2.2.1.all wideB=true∧s.2.2.2.2.2.2.2.2.2.2.1.all wideB=true∧
  (s.1=0∨s.1=1→s.2.2.2.2.2.2.2.2.2.2.1=[]∧s.2.2.2.2.2.2.2.2.2.1.1=0∧s.2.2.2.2.2.2.2.2.2.1.2.1=[])∧
  (s.1≠0∧s.1≠1→(s.2.2.2.2.2.2.2.2.2.2.1.length:Int)=n-warmI s n∧partsB s.2.2.2.2.2.2.2.2.2.1 n (warmI s n)=true)
theorem warmI_range {s:Sub} (h:SmallS s) {n:Int} (h1:1≤n) (h2:n≤4096) (hf:fitP s.1 s n):0≤warmI s n∧warmI s n≤4096:=by
 have hc:=h.coefs
 unfold warmI
 rcases hf with k|k|⟨k,h3⟩|⟨k,h3⟩|⟨k,h3⟩|⟨k,h3⟩<;>simp [k]<;>omega
open Classical in
theorem stated_eq {s:Sub} (h:SmallS s) (n:Int):F_sub_stated (s,n)=some (decide (statedP s n)):=by
 have hw:short s.2.2.2.2.2.2.2.2.1:=by have:=h.warm;unfold short;omega
 have hr:short s.2.2.2.2.2.2.2.2.2.2.1:=by have:=h.rest;unfold short;omega
 have hk:short s.2.2.2.2.2.2.2.2.2.1.2.1:=by have:=h.ks;unfold short;omega
 unfold F_sub_stated
 by_cases h1:1≤n
 rotate_left
 ·have e1:decide (n<1)=true:=by simp;omega
  have:¬ statedP s n:=fun hp=>h1 hp.1
  simp only [e1,cond_true,Option.bind_some,this,decide_false]
 have e1:decide (n<1)=false:=by simp;omega
 by_cases h2:n≤4096
 rotate_left
 ·have e2:decide (n > 4096)=true:=by simp;omega
  have:¬ statedP s n:=fun hp=>h2 hp.2.1
  simp only [e1,e2,cond_true,cond_false,Option.bind_some,this,decide_false]
 have e2:decide (n > 4096)=false:=by simp;omega
 by_cases h3:fitP s.1 s n
 rotate_left
 ·have e3:fitB s.1 s n=false:=by simp [fitB,h3]
  have:¬ statedP s n:=fun hp=>h3 hp.2.2.1
  simp only [e1,e2,fit_eq h,e3,cond_true,cond_false,Bool.not_false,Option.bind_some,this,decide_false]
 have e3:fitB s.1 s n=true:=by simp [fitB,h3]
 by_cases h4:aloneP s
 rotate_left
 ·have e4:aloneB s=false:=by simp [aloneB,h4]
  have:¬ statedP s n:=fun hp=>h4 hp.2.2.2.1
  simp only [e1,e2,fit_eq h,e3,alone_eq h,e4,cond_true,cond_false,Bool.not_false,Bool.not_true,Option.bind_some,this,decide_false]
 have e4:aloneB s=true:=by simp [aloneB,h4]
 simp only [e1,e2,fit_eq h,e3,alone_eq h,e4,cond_false,Bool.not_true,Option.bind_some]
 by_cases h5:0≤s.2.1
 rotate_left
 ·have e5:decide (s.2.1<0)=true:=by simp;omega
  have:¬ statedP s n:=fun hp=>h5 hp.2.2.2.2.1
  simp only [e5,cond_true,Option.bind_some,this,decide_false]
 have e5:decide (s.2.1<0)=false:=by simp;omega
 by_cases h6:s.2.1≤30
 rotate_left
 ·have e6:decide (s.2.1 > 30)=true:=by simp;omega
  have:¬ statedP s n:=fun hp=>h6 hp.2.2.2.2.2.1
  simp only [e5,e6,cond_true,cond_false,Option.bind_some,this,decide_false]
 have e6:decide (s.2.1 > 30)=false:=by simp;omega
 simp only [e5,e6,cond_false]
 by_cases h7:s.1=0→s.2.1=0
 rotate_left
 ·have h7a:s.1=0:=Classical.byContradiction fun hc=>h7 fun e=>absurd e hc
  have h7b:(s.2.1 != 0)=true:=by
   simp only [bne_iff_ne,ne_eq];intro e;exact h7 fun _=>e
  have e7:(s.1==0)=true:=by simp [h7a]
  have:¬ statedP s n:=fun hp=>h7 hp.2.2.2.2.2.2.1
  simp only [e7,h7b,cond_true,Option.bind_some,this,decide_false]
 have e7:(bif s.1==0 then some (n,(s.2.1 != 0,(s,()))) else some (n,(false,(s,()))))=some (n,(false,(s,()))):=by
  by_cases k0:s.1=0
  ·simp [k0,h7 k0]
  ·have:(s.1==0)=false:=by simp [k0]
   rw [this];rfl
 simp only [e7,Option.bind_some,cond_false,warmth_eq]
 by_cases h8:(s.2.2.2.2.2.2.2.2.1.length:Int)=warmI s n
 rotate_left
 ·have e8:(((s.2.2.2.2.2.2.2.2.1.length:Nat):Int) != warmI s n)=true:=by simp only [bne_iff_ne,ne_eq];exact h8
  have:¬ statedP s n:=fun hp=>h8 hp.2.2.2.2.2.2.2.1
  simp only [e8,cond_true,Option.bind_some,this,decide_false]
 have e8:(((s.2.2.2.2.2.2.2.2.1.length:Nat):Int) != warmI s n)=false:=by rw [h8];simp
 simp only [e8,cond_false,sub_allWide_eq hw,sub_allWide_eq hr,Option.bind_some]
 cases h9:s.2.2.2.2.2.2.2.2.1.all wideB with
 |false=>
  have:¬ statedP s n:=fun hp=>by rw [hp.2.2.2.2.2.2.2.2.1] at h9;cases h9
  simp only [Bool.not_false,cond_true,Option.bind_some,this,decide_false]
 |true=>
  cases h10:s.2.2.2.2.2.2.2.2.2.2.1.all wideB with
  |false=>
   have:¬ statedP s n:=fun hp=>by rw [hp.2.2.2.2.2.2.2.2.2.1] at h10;cases h10
   simp only [Bool.not_false,Bool.not_true,cond_true,cond_false,Option.bind_some,this,decide_false]
  |true=>
   simp only [Bool.not_true,cond_false,Option.bind_some,rested_eq]
   have hwr:=warmI_range h h1 h2 h3
   by_cases k01:s.1≠0∧s.1≠1
   ·have e11:IntKind.wrap .i64 (n-warmI s n)=n-warmI s n:=wrap64 (by omega)
    simp only [k01,ne_eq,not_false_eq_true,and_self,decide_true,Bool.not_true,cond_false,e11,parts_May_eq hk,Option.bind_some]
    by_cases h11:(s.2.2.2.2.2.2.2.2.2.2.1.length:Int)=n-warmI s n
    ·have e12:(((s.2.2.2.2.2.2.2.2.2.2.1.length:Nat):Int)==n-warmI s n)=true:=by simp [h11]
     simp only [e12,cond_true]
     congr 1
     rw [Bool.eq_iff_iff,decide_eq_true_eq]
     constructor
     ·intro hp
      exact ⟨h1,h2,h3,h4,h5,h6,h7,h8,h9,h10,fun hc=>absurd hc (by omega),fun _=>⟨h11,hp⟩⟩
     ·intro hp;exact (hp.2.2.2.2.2.2.2.2.2.2.2 k01).2
    ·have e12:(((s.2.2.2.2.2.2.2.2.2.2.1.length:Nat):Int)==n-warmI s n)=false:=by simp only [beq_eq_false_iff_ne,ne_eq];exact h11
     have:¬ statedP s n:=fun hp=>h11 (hp.2.2.2.2.2.2.2.2.2.2.2 k01).1
     simp only [e12,cond_false,this,decide_false]
   ·have k01':s.1=0∨s.1=1:=by omega
    simp only [k01,decide_false,Bool.not_false,cond_true,len0]
    simp only [beq0,and_some]
    congr 1
    rw [Bool.eq_iff_iff,decide_eq_true_eq]
    simp only [Bool.and_eq_true,decide_eq_true_eq]
    constructor
    ·rintro ⟨g1,g2,g3⟩
     exact ⟨h1,h2,h3,h4,h5,h6,h7,h8,h9,h10,fun _=>⟨g1,g2,g3⟩,fun hc=>absurd hc k01⟩
    ·intro hp;exact hp.2.2.2.2.2.2.2.2.2.2.1 k01'
end Go.Ab
namespace Go.Ab
theorem zip_all_eq {α:Type} [DecidableEq α] (q:α→α→Bool) (hq:∀ a b,q a b=decide (a=b)):∀ (x y:List α),x.length=y.length→((x.zip y).all fun p=>q p.1 p.2)=decide (x=y)
 | [],[],_=>by simp
 |a::x,b::y,h=>by
  have ih:=zip_all_eq q hq x y (by simpa using h)
  simp only [List.zip_cons_cons,List.all_cons]
  rw [ih,hq]
  by_cases h1:a=b<;>by_cases h2:x=y<;>simp [h1,h2]
theorem SameInts_eq {x y:List Int} (h:short x):F_r2_SameInts (x,y)=some (decide (x=y)):=by
 unfold F_r2_SameInts
 by_cases hl:x.length=y.length
 ·have e:(((x.length:Nat):Int) != ((y.length:Nat):Int))=false:=by rw [hl];simp
  have hz:(x.zip y).length=x.length:=by rw [List.length_zip];omega
  have:=iter_all (f:=F_r2_SameInts_l0) (x.zip y) (fun i=>(x,(y,((i:Int),())))) (fun p=>p.1==p.2) (bt:=Sum.inl ()) (bf:=Sum.inr (false,()))
   (fun i hi hp=>by
    have h1:i<x.length:=by omega
    have h2:i<y.length:=by omega
    rw [List.getElem_zip] at hp
    have hp:x[i]=y[i]:=by simpa using hp
    have hne:(x[i] != y[i])=false:=by rw [hp];simp
    simp only [F_r2_SameInts_l0,dlt h1,cond_true,gidx_get h1,gidx_get h2,Option.bind_some,hne,cond_false,wrap_succ (Nat.lt_trans h1 h)])
   (fun i hi hp=>by
    have h1:i<x.length:=by omega
    have h2:i<y.length:=by omega
    rw [List.getElem_zip] at hp
    have hne:(x[i] != y[i])=true:=by simpa using hp
    simp only [F_r2_SameInts_l0,dlt h1,cond_true,gidx_get h1,gidx_get h2,Option.bind_some,hne])
   (by rw [hz];simp [F_r2_SameInts_l0])
  simp only [Int.natCast_zero] at this
  simp only [e,cond_false,this,zip_all_eq (fun (a b:Int)=>a==b) (fun _ _=>rfl) x y hl]
  cases decide (x=y)<;>rfl
 ·have e:(((x.length:Nat):Int) != ((y.length:Nat):Int))=true:=by simp only [bne_iff_ne,ne_eq];omega
  have:¬ x=y:=fun hc=>hl (by rw [hc])
  simp only [e,cond_true,this,decide_false]
theorem SameStages_eq {x y:List Stg} (h:short x):F_r14_SameStages (x,y)=some (decide (x=y)):=by
 have heq:∀ a b:Stg,eqT (.pair (.int .i64) (.pair (.int .i64) .unit)) a b=decide (a=b):=by
  rintro ⟨a1,a2,⟨⟩⟩ ⟨b1,b2,⟨⟩⟩
  show ((a1==b1)&&((a2==b2)&&true))=_
  by_cases h1:a1=b1<;>by_cases h2:a2=b2<;>simp [h1,h2]
 unfold F_r14_SameStages
 by_cases hl:x.length=y.length
 ·have e:(((x.length:Nat):Int) != ((y.length:Nat):Int))=false:=by rw [hl];simp
  have hz:(x.zip y).length=x.length:=by rw [List.length_zip];omega
  have:=iter_all (f:=F_r14_SameStages_l0) (x.zip y) (fun i=>(x,(y,((i:Int),())))) (fun p=>decide (p.1=p.2)) (bt:=Sum.inl ()) (bf:=Sum.inr (false,()))
   (fun i hi hp=>by
    have h1:i<x.length:=by omega
    have h2:i<y.length:=by omega
    rw [List.getElem_zip] at hp
    simp only [F_r14_SameStages_l0,dlt h1,cond_true,gidx_get h1,gidx_get h2,Option.bind_some,heq,hp,Bool.not_true,cond_false,wrap_succ (Nat.lt_trans h1 h)])
   (fun i hi hp=>by
    have h1:i<x.length:=by omega
    have h2:i<y.length:=by omega
    rw [List.getElem_zip] at hp
    simp only [F_r14_SameStages_l0,dlt h1,cond_true,gidx_get h1,gidx_get h2,Option.bind_some,heq,hp,Bool.not_false])
   (by rw [hz];simp [F_r14_SameStages_l0])
  simp only [Int.natCast_zero] at this
  simp only [e,cond_false,this,zip_all_eq (fun (a b:Stg)=>decide (a=b)) (fun _ _=>rfl) x y hl]
  cases decide (x=y)<;>rfl
 ·have e:(((x.length:Nat):Int) != ((y.length:Nat):Int))=true:=by simp only [bne_iff_ne,ne_eq];omega
  have:¬ x=y:=fun hc=>hl (by rw [hc])
  simp only [e,cond_true,this,decide_false]
open Classical in
theorem SameSub_eq {a b:Sub} (h:SmallS a):F_r19_SameSub (a,b)=some (decide (a=b)):=by
 have hc:short a.2.2.2.2.2.1:=by have:=h.coefs;unfold short;omega
 have hst:short a.2.2.2.2.2.2.2.1:=by have:=h.stages;unfold short;omega
 have hw:short a.2.2.2.2.2.2.2.2.1:=by have:=h.warm;unfold short;omega
 have hr:short a.2.2.2.2.2.2.2.2.2.2.1:=by have:=h.rest;unfold short;omega
 have hk:short a.2.2.2.2.2.2.2.2.2.1.2.1:=by have:=h.ks;unfold short;omega
 unfold F_r19_SameSub F_r8_SameParts
 simp only [SameInts_eq hc,SameInts_eq hw,SameInts_eq hr,SameInts_eq hk,SameStages_eq hst,eqT_ints,Option.bind_some,and_some]
 congr 1
 obtain ⟨k,w,o,sh,lag,c,t,st,wm,⟨po,ks,⟨⟩⟩,r,⟨⟩⟩:=a
 obtain ⟨k',w',o',sh',lag',c',t',st',wm',⟨po',ks',⟨⟩⟩,r',⟨⟩⟩:=b
 rw [Bool.eq_iff_iff]
 simp only [Bool.and_eq_true,decide_eq_true_eq,beq_iff_eq,Prod.mk.injEq,and_true,and_assoc]
def namedS (s:Sub):Sub:=
 let z:List Int:=List.replicate 3 0
 if s.1=0 then (0,(0,(0,(0,(0,([],(z,([],(s.2.2.2.2.2.2.2.2.1,((0,([],())),([],())))))))))))
 else if s.1=1 then (1,(s.2.1,(0,(0,(0,([],(z,([],(s.2.2.2.2.2.2.2.2.1,((0,([],())),([],())))))))))))
 else if s.1=2 then (2,(s.2.1,(s.2.2.1,(0,(0,([],(z,([],(s.2.2.2.2.2.2.2.2.1,(s.2.2.2.2.2.2.2.2.2.1,(s.2.2.2.2.2.2.2.2.2.2.1,())))))))))))
 else if s.1=3 then (3,(s.2.1,(0,(s.2.2.2.1,(0,(s.2.2.2.2.2.1,(z,([],(s.2.2.2.2.2.2.2.2.1,(s.2.2.2.2.2.2.2.2.2.1,(s.2.2.2.2.2.2.2.2.2.2.1,())))))))))))
 else if s.1=4 then (4,(s.2.1,(0,(s.2.2.2.1,(s.2.2.2.2.1,(s.2.2.2.2.2.1,(s.2.2.2.2.2.2.1,([],(s.2.2.2.2.2.2.2.2.1,(s.2.2.2.2.2.2.2.2.2.1,(s.2.2.2.2.2.2.2.2.2.2.1,())))))))))))
 else if s.1=5 then (5,(s.2.1,(0,(0,(0,([],(z,(s.2.2.2.2.2.2.2.1,([],(s.2.2.2.2.2.2.2.2.2.1,(s.2.2.2.2.2.2.2.2.2.2.1,())))))))))))
 else (s.1,(s.2.1,(0,(0,(0,([],(z,([],(s.2.2.2.2.2.2.2.2.1,(s.2.2.2.2.2.2.2.2.2.1,(s.2.2.2.2.2.2.2.2.2.2.1,())))))))))))
theorem named_eq (s:Sub):F_r19_named s=some (namedS s):=by
 obtain ⟨k,w,o,sh,lag,c,t,st,wm,p,r,u⟩:=s
 unfold F_r19_named namedS
 by_cases k0:k=0
 ·subst k0;rfl
 by_cases k1:k=1
 ·subst k1;rfl
 by_cases k2:k=2
 ·subst k2;rfl
 by_cases k3:k=3
 ·subst k3;rfl
 by_cases k4:k=4
 ·subst k4;rfl
 by_cases k5:k=5
 ·subst k5;rfl
 have e0:(k==0)=false:=by simp [k0]
 have e1:(k==1)=false:=by simp [k1]
 have e2:(k==2)=false:=by simp [k2]
 have e3:(k==3)=false:=by simp [k3]
 have e4:(k==4)=false:=by simp [k4]
 have e5:(k==5)=false:=by simp [k5]
 simp only [e0,e1,e2,e3,e4,e5,cond_false,Option.bind_some,k0,k1,k2,k3,k4,k5,if_false]
open Classical in
def warmsI (s:Sub) (n:Int):Int:=if fitP s.1 s n then warmI s n else -1
theorem warms_eq {s:Sub} (h:SmallS s) (n:Int):F_r19_warms (s,n)=some (warmsI s n):=by
 have hc:short s.2.2.2.2.2.1:=by have:=h.coefs;unfold short;omega
 have hst:short s.2.2.2.2.2.2.2.1:=by have:=h.stages;unfold short;omega
 have ht:=h.taps
 obtain ⟨k,w,o,sh,lag,c,t,st,wm,p,r,u⟩:=s
 simp only at hc hst ht
 unfold F_r19_warms warmsI warmI fitP
 by_cases k0:k=0
 ·subst k0;simp
 by_cases k1:k=1
 ·subst k1;simp
 by_cases k2:k=2
 ·subst k2
  by_cases h1:0≤o<;>by_cases h2:o≤4<;>by_cases h3:o≤n<;>simp [h1,h2,h3]
 by_cases k3:k=3
 ·subst k3
  cases hl:linB c sh<;>by_cases h2:(c.length:Int)≤n<;>simp [ref_LinearMay_eq hc,hl,h2]
 by_cases k4:k=4
 ·subst k4
  cases hl:linB c sh<;>by_cases h2:(c.length:Int)≤n<;>cases h3:longB lag t<;>simp [ref_LinearMay_eq hc,ref_LongMay_eq ht,hl,h2,h3]
 by_cases k5:k=5
 ·subst k5
  by_cases h1:0<st.length<;>cases h2:learnB st<;>simp [ref_LearnMay_eq hst,h1,h2]
 have e0:(k==0)=false:=by simp [k0]
 have e1:(k==1)=false:=by simp [k1]
 have e2:(k==2)=false:=by simp [k2]
 have e3:(k==3)=false:=by simp [k3]
 have e4:(k==4)=false:=by simp [k4]
 have e5:(k==5)=false:=by simp [k5]
 simp [k0,k1,k2,k3,k4,k5,e0,e1,e2,e3,e4,e5]
theorem guessed_eq (k:Int):F_r19_guessed k=some (decide (2≤k∧k≤5)):=by
 unfold F_r19_guessed
 by_cases h1:2≤k<;>by_cases h2:k≤5<;>simp [h1,h2]
def refP (s:Sub) (n:Int):Prop:=
 1≤n∧n≤4096∧0≤s.1∧s.1≤5∧s=namedS s∧0≤s.2.1∧s.2.1≤30∧fitP s.1 s n∧(s.2.2.2.2.2.2.2.2.1.length:Int)=warmI s n∧s.2.2.2.2.2.2.2.2.1.all wideB=true∧s.2.2.2.2.2.2.2.2.2.2.1.all wideB=true∧
  (2≤s.1∧s.1≤5→(s.2.2.2.2.2.2.2.2.2.2.1.length:Int)=n-warmI s n∧partsB s.2.2.2.2.2.2.2.2.2.1 n (warmI s n)=true)
theorem fitP_kind {k:Int} {s:Sub} {n:Int} (h:fitP k s n):k=0∨k=1∨k=2∨k=3∨k=4∨k=5:=by
 unfold fitP at h;omega
theorem statedP_iff (s:Sub) (n:Int):statedP s n↔refP s n:=by
 have key:fitP s.1 s n→((aloneP s∧(s.1=0→s.2.1=0)∧(s.2.2.2.2.2.2.2.2.1.length:Int)=warmI s n∧(s.1=0∨s.1=1→s.2.2.2.2.2.2.2.2.2.2.1=[]∧s.2.2.2.2.2.2.2.2.2.1.1=0∧s.2.2.2.2.2.2.2.2.2.1.2.1=[]))↔
   (s=namedS s∧(s.2.2.2.2.2.2.2.2.1.length:Int)=warmI s n)):=by
  intro hf
  have ht:(List.replicate 3 (0:Int))=[0,0,0]:=rfl
  obtain ⟨k,w,o,sh,lag,c,t,st,wm,⟨po,ks,⟨⟩⟩,r,⟨⟩⟩:=s
  rcases fitP_kind hf with k0|k0|k0|k0|k0|k0<;>simp only at k0<;>subst k0<;>simp [aloneP,namedS,warmI,ht]<;>(try constructor)<;>(try intros)<;>(try simp_all)<;>(try exact and_left_comm)<;>(try exact and_comm)
 unfold statedP refP
 constructor
 ·rintro ⟨h1,h2,h3,h4,h5,h6,h7,h8,h9,h10,h11,h12⟩
  obtain ⟨g1,g2⟩:=(key h3).1 ⟨h4,h7,h8,h11⟩
  have hk:=fitP_kind h3
  exact ⟨h1,h2,by omega,by omega,g1,h5,h6,h3,h8,h9,h10,fun hc=>h12 (by omega)⟩
 ·rintro ⟨h1,h2,h3,h4,h5,h6,h7,h8,h9,h10,h11,h12⟩
  obtain ⟨g1,g2,g3,g4⟩:=(key h8).2 ⟨h5,h9⟩
  have hk:=fitP_kind h8
  exact ⟨h1,h2,h8,g1,h6,h7,g2,h9,h10,h11,g4,fun hc=>h12 (by omega)⟩
end Go.Ab
namespace Go.Ab
def fixO (warm rest:List Int) (o:Int):Option (List Int):=bif warm.all wideB&&rest.all wideB then backO (fixG o.toNat) rest warm else none
def backP (s:Sub):Option (List Int):=
 if s.1=1 then some s.2.2.2.2.2.2.2.2.1
 else if s.1=2 then fixO s.2.2.2.2.2.2.2.2.1 s.2.2.2.2.2.2.2.2.2.2.1 s.2.2.1
 else if s.1=3 then linO s.2.2.2.2.2.2.2.2.1 s.2.2.2.2.2.2.2.2.2.2.1 s.2.2.2.2.2.1 s.2.2.2.1
 else if s.1=4 then (linO s.2.2.2.2.2.2.2.2.1 s.2.2.2.2.2.2.2.2.2.2.1 s.2.2.2.2.2.1 s.2.2.2.1).bind fun l=>longO l s.2.2.2.2.1 s.2.2.2.2.2.2.1
 else learnO s.2.2.2.2.2.2.2.2.2.2.1 s.2.2.2.2.2.2.2.1
def rowO (s:Sub) (n:Int):Option (List Int):=
 if s.1=0 then some (List.replicate n.toNat (s.2.2.2.2.2.2.2.2.1.getD 0 0)) else (backP s).bind (upO s.2.1)
theorem linO_length {w r c:List Int} {s:Int} {l} (h:linO w r c s=some l):l.length=w.length+r.length:=by
 unfold linO at h
 cases hc:(w.all wideB&&r.all wideB) with
 |false=>rw [hc] at h;cases h
 |true=>
  rw [hc] at h
  exact (backO_wide _ r w l (Bool.and_eq_true_iff.1 hc).1 h).2
theorem fixO_length {w r:List Int} {o:Int} {l} (h:fixO w r o=some l):l.length=w.length+r.length:=by
 unfold fixO at h
 cases hc:(w.all wideB&&r.all wideB) with
 |false=>rw [hc] at h;cases h
 |true=>
  rw [hc] at h
  exact (backO_wide _ r w l (Bool.and_eq_true_iff.1 hc).1 h).2
theorem longO_length {r t:List Int} {lag:Int} {l} (h:longO r lag t=some l):l.length=r.length:=by
 unfold longO at h
 cases hc:r.all wideB with
 |false=>rw [hc] at h;cases h
 |true=>
  rw [hc] at h
  have:=(backO_wide _ r [] l rfl h).2
  simpa using this
theorem lO_length:∀ (st:List Stg) (r:List Int) {l},lO st r=some l→l.length=r.length
 | [],r,l,h=>by simp only [lO,sj] at h;rw [h]
 |s::st,r,l,h=>by
  simp only [lO] at h
  split at h
  ·rename_i r' hr
   rw [lO_length st r' h,stO_length _ _ _ hr];simp
  ·cases h
theorem learnO_length {r:List Int} {st:List Stg} {l} (h:learnO r st=some l):l.length=r.length:=by
 unfold learnO at h
 cases hc:r.all wideB with
 |false=>rw [hc] at h;cases h
 |true=>rw [hc] at h;exact lO_length _ _ h
theorem backP_length {s:Sub} (h:SmallS s) {l} (hl:backP s=some l):l.length<100000:=by
 have hw:=h.warm
 have hr:=h.rest
 unfold backP at hl
 split at hl
 ·simp only [sj] at hl;rw [←hl];omega
 ·split at hl
  ·rw [fixO_length hl];omega
  ·split at hl
   ·rw [linO_length hl];omega
   ·split at hl
    ·obtain ⟨l1,h1,h2⟩:=Option.bind_eq_some_iff.1 hl
     rw [longO_length h2,linO_length h1];omega
    ·rw [learnO_length hl];omega
theorem flat_loop {s:Sub} {n:Int} (h1:1≤n) (h2:n≤4096) (hw:s.2.2.2.2.2.2.2.2.1.length=1):
  iter F_sub_back_l0 (n,((0:Int),(([]:List Int),(s,()))))=some (List.replicate n.toNat (s.2.2.2.2.2.2.2.2.1.getD 0 0),()):=by
 obtain ⟨N,rfl⟩:=Int.eq_ofNat_of_zero_le (show 0≤n by omega)
 have hg:gidx s.2.2.2.2.2.2.2.2.1 (0:Int)=some (s.2.2.2.2.2.2.2.2.1.getD 0 0):=gidx_pos (by omega) (by omega)
 have:=iter_count (f:=F_sub_back_l0) (fun i=>((N:Int),((i:Int),(List.replicate i (s.2.2.2.2.2.2.2.2.1.getD 0 0),(s,()))))) N
  (b:=(List.replicate N (s.2.2.2.2.2.2.2.2.1.getD 0 0),())) (fun i hi=>by
   have hlim:lim ((List.replicate i (s.2.2.2.2.2.2.2.2.1.getD 0 0)).length+1)=true:=lim_short (by rw [List.length_replicate];omega)
   have ea:List.replicate i (s.2.2.2.2.2.2.2.2.1.getD 0 0)++[s.2.2.2.2.2.2.2.2.1.getD 0 0]=List.replicate (i+1) (s.2.2.2.2.2.2.2.2.1.getD 0 0):=by rw [←List.replicate_succ']
   simp only [F_sub_back_l0,dlt hi,cond_true,hg,Option.bind_some,hlim,List.append_eq,ea,wrap_succ (show i<1000000 by omega)])
  (by simp [F_sub_back_l0])
 simpa using this
theorem ref_flat_loop {s:Sub} {n:Int} (h1:1≤n) (h2:n≤4096) (hw:s.2.2.2.2.2.2.2.2.1.length=1):
  iter F_r19_SubRow_l0 (n,((0:Int),(List.replicate n.toNat (0:Int),(s,()))))=some (List.replicate n.toNat (s.2.2.2.2.2.2.2.2.1.getD 0 0),()):=by
 obtain ⟨N,rfl⟩:=Int.eq_ofNat_of_zero_le (show 0≤n by omega)
 have hg:gidx s.2.2.2.2.2.2.2.2.1 (0:Int)=some (s.2.2.2.2.2.2.2.2.1.getD 0 0):=gidx_pos (by omega) (by omega)
 obtain ⟨z,hz⟩:∃ z,List.replicate N (s.2.2.2.2.2.2.2.2.1.getD 0 0)=z:=⟨_,rfl⟩
 have hzl:z.length=(List.replicate N (0:Int)).length:=by rw [←hz];simp
 have hNl:(List.replicate N (0:Int)).length=N:=by simp
 have:=iter_count (f:=F_r19_SubRow_l0) (fun i=>((N:Int),((i:Int),(z.take i++(List.replicate N (0:Int)).drop i,(s,()))))) N
  (b:=(z,())) (fun i hi=>by
   have hi':i<(List.replicate N (0:Int)).length:=by omega
   have hl:(z.take i++(List.replicate N (0:Int)).drop i).length=N:=by rw [List.length_append,List.length_take,List.length_drop];omega
   have hd:decide ((i:Int)<(((z.take i++(List.replicate N (0:Int)).drop i).length:Nat):Int))=true:=by rw [hl];simp;omega
   have h0:decide ((0:Int)≤(i:Int))=true:=by simp
   have hs:=set_take hi' hzl
   have hzi:z[i]'(by omega)=s.2.2.2.2.2.2.2.2.1.getD 0 0:=by simp only [←hz,List.getElem_replicate]
   rw [hzi] at hs
   simp only [F_r19_SubRow_l0,dlt hi,cond_true,hg,Option.bind_some,h0,hd,Bool.and_self,Int.toNat_natCast,hs,wrap_succ (show i<1000000 by omega)])
  (by
   have e1:z.take N=z:=List.take_of_length_le (by omega)
   have e2:(List.replicate N (0:Int)).drop N=[]:=List.drop_eq_nil_of_le (by omega)
   simp [F_r19_SubRow_l0,e1])
 simp only [Int.natCast_zero,List.take_zero,List.drop_zero,List.nil_append] at this
 rw [Int.toNat_natCast,hz]
 exact this
theorem resB_fst (o:Option (List Int)):((resB o).1,(resB o).2)=resB o:=by cases o<;>rfl
theorem ref_back_eq {s:Sub} (h:SmallS s) {n:Int} (hp:statedP s n) (h0:s.1≠0):F_r19_back s=some (resB (backP s)):=by
 obtain ⟨h1,h2,hf,-,-,-,-,hlen,hw,hr,-⟩:=hp
 have hsr:=h.rest
 have hsw:=h.warm
 have ht:=h.taps
 obtain ⟨k,w,o,sh,lag,c,t,st,wm,p,r,u⟩:=s
 simp only at *
 unfold F_r19_back backP
 rcases hf with k0|k0|⟨k0,g1,g2,g3⟩|⟨k0,g1,g2⟩|⟨k0,g1,g2,g3⟩|⟨k0,g1,g2⟩
 ·exact absurd k0 h0
 ·subst k0;simp [resB]
 ·subst k0
  obtain ⟨O,rfl⟩:=Int.eq_ofNat_of_zero_le g1
  have g2:(O:Int)≤4:=g2
  simp only [warmI] at hlen
  have hO:wm.length=O:=by simp at hlen;omega
  have:=ref_FixedBack_eq (warm:=wm) (rest:=r) (o:=O) (by omega) hO (by omega)
  simp [this,fixO,resB_fst]
 ·subst k0
  simp only [warmI] at hlen
  have hO:wm.length=c.length:=by simp at hlen;omega
  have:=ref_LinearBack_eq (rest:=r) g1 hO (by omega)
  simp [this,resB_fst]
 ·subst k0
  simp only [warmI] at hlen
  have hO:wm.length=c.length:=by simp at hlen;omega
  have h5:=ref_LinearBack_eq (rest:=r) g1 hO (by omega)
  simp only [show ((4:Int)==2)=false from rfl,show ((4:Int)==3)=false from rfl,show ((4:Int)==4)=true from rfl,cond_true,cond_false,h5,Option.bind_some]
  cases hl:linO wm r c sh with
  |none=>simp [resB]
  |some l=>
   have hll:=linO_length hl
   have h6:=ref_LongBack_eq (rest:=l) g3 ht (by omega)
   simp [resB,h6]
 ·subst k0
  have:=ref_LearnBack_eq (rest:=r) g2 (by omega)
  simp [this,resB_fst]
theorem sub_back_eq {s:Sub} (h:SmallS s) {n:Int} (hp:statedP s n):F_sub_back (s,n)=some (resB (rowO s n)):=by
 have hbl:=fun l (hl:backP s=some l)=>backP_length h hl
 obtain ⟨h1,h2,hf,-,hw0,hw30,-,hlen,hw,hr,-⟩:=hp
 have hsr:=h.rest
 have hsw:=h.warm
 have ht:=h.taps
 have hfl:=flat_loop (s:=s) h1 h2
 obtain ⟨k,w,o,sh,lag,c,t,st,wm,p,r,u⟩:=s
 simp only at *
 have up:∀ l,l.length<100000→F_sample_Up (l,w)=some (resB (upO w l)):=fun l hl=>sample_Up_eq hw0 hw30 hl
 unfold F_sub_back rowO
 rcases hf with k0|k0|⟨k0,g1,g2,g3⟩|⟨k0,g1,g2⟩|⟨k0,g1,g2,g3⟩|⟨k0,g1,g2⟩
 ·subst k0
  simp only [warmI] at hlen
  have:=hfl (by simp at hlen;omega)
  simp [this,resB]
 ·subst k0
  simp only [backP] at hbl ⊢
  have:=up wm (by omega)
  simp [this,resB_fst]
 ·subst k0
  obtain ⟨O,rfl⟩:=Int.eq_ofNat_of_zero_le g1
  have g2:(O:Int)≤4:=g2
  simp only [warmI] at hlen
  have hO:wm.length=O:=by simp at hlen;omega
  have h5:=fixed_Back_eq (warm:=wm) (rest:=r) (o:=O) (by omega) hO (by omega)
  simp only [backP] at hbl ⊢
  simp [h5]
  have e:(bif wm.all wideB&&r.all wideB then backO (fixG O) r wm else none)=fixO wm r (O:Int):=rfl
  rw [e]
  cases hl:fixO wm r (O:Int) with
  |none=>simp [resB]
  |some l=>simp [resB,up l (by rw [fixO_length hl];omega)]
 ·subst k0
  simp only [warmI] at hlen
  have hO:wm.length=c.length:=by simp at hlen;omega
  have h5:=linear_Back_eq (rest:=r) g1 hO (by omega)
  simp only [backP] at hbl ⊢
  simp [h5]
  cases hl:linO wm r c sh with
  |none=>simp [resB]
  |some l=>simp [resB,up l (by rw [linO_length hl];omega)]
 ·subst k0
  simp only [warmI] at hlen
  have hO:wm.length=c.length:=by simp at hlen;omega
  have h5:=linear_Back_eq (rest:=r) g1 hO (by omega)
  simp only [backP] at hbl ⊢
  simp [h5]
  cases hl:linO wm r c sh with
  |none=>simp [resB]
  |some l=>
   have hll:=linO_length hl
   have h6:=long_Back_eq (rest:=l) g3 ht (by omega)
   simp [resB,h6]
   cases hl2:longO l lag t with
   |none=>simp
   |some l2=>simp [up l2 (by rw [longO_length hl2];omega)];cases upO w l2<;>simp [resB]
 ·subst k0
  have h5:=learn_Back_eq (rest:=r) g2 (by omega)
  simp only [backP] at hbl ⊢
  simp [h5]
  cases hl:learnO r st with
  |none=>simp [resB]
  |some l=>simp [resB,up l (by rw [learnO_length hl];omega)]
open Classical in
def subO (s:Sub) (n:Int):Option (List Int):=if statedP s n then rowO s n else none
theorem sub_Row_eq {s:Sub} (h:SmallS s) (n:Int):F_sub_Row (s,n)=some (match subO s n with|some r=>(r,0)|none=>([],1)):=by
 unfold F_sub_Row subO
 simp only [stated_eq h,Option.bind_some]
 by_cases hp:statedP s n
 ·simp only [hp,decide_true,Bool.not_true,cond_false,sub_back_eq h hp,Option.bind_some,if_true]
  cases rowO s n<;>simp [resB]
 ·simp only [hp,decide_false,Bool.not_false,cond_true,if_false]
theorem sub_May_eq {s:Sub} (h:SmallS s) (n:Int):F_sub_May (s,n)=some (subO s n).isSome:=by
 unfold F_sub_May
 simp only [sub_Row_eq h,Option.bind_some]
 cases subO s n<;>rfl
open Classical in
theorem ref_SubRow_eq {s:Sub} (h:SmallS s) (n:Int):F_r19_SubRow (s,n)=some (match subO s n with|some r=>(r,true)|none=>([],false)):=by
 have hw:short s.2.2.2.2.2.2.2.2.1:=by have:=h.warm;unfold short;omega
 have hr:short s.2.2.2.2.2.2.2.2.2.2.1:=by have:=h.rest;unfold short;omega
 have hk:short s.2.2.2.2.2.2.2.2.2.1.2.1:=by have:=h.ks;unfold short;omega
 have hiff:=statedP_iff s n
 unfold F_r19_SubRow
 have no:¬ refP s n→subO s n=none:=fun hc=>by
  unfold subO
  rw [if_neg fun hp=>hc (hiff.1 hp)]
 by_cases h1:1≤n
 rotate_left
 ·have e1:decide (n<1)=true:=by simp;omega
  rw [no fun hp=>h1 hp.1]
  simp only [e1,cond_true,Option.bind_some]
 have e1:decide (n<1)=false:=by simp;omega
 by_cases h2:n≤4096
 rotate_left
 ·have e2:decide (n > 4096)=true:=by simp;omega
  rw [no fun hp=>h2 hp.2.1]
  simp only [e1,e2,cond_true,cond_false,Option.bind_some]
 have e2:decide (n > 4096)=false:=by simp;omega
 by_cases h3:0≤s.1
 rotate_left
 ·have e3:decide (s.1<0)=true:=by simp;omega
  rw [no fun hp=>h3 hp.2.2.1]
  simp only [e1,e2,e3,cond_true,cond_false,Option.bind_some]
 have e3:decide (s.1<0)=false:=by simp;omega
 by_cases h4:s.1≤5
 rotate_left
 ·have e4:decide (s.1 > 5)=true:=by simp;omega
  rw [no fun hp=>h4 hp.2.2.2.1]
  simp only [e1,e2,e3,e4,cond_true,cond_false,Option.bind_some]
 have e4:decide (s.1 > 5)=false:=by simp;omega
 simp only [e1,e2,e3,e4,cond_false,named_eq,SameSub_eq h,Option.bind_some]
 by_cases h5:s=namedS s
 rotate_left
 ·rw [no fun hp=>h5 hp.2.2.2.2.1]
  simp only [h5,decide_false,Bool.not_false,cond_true,Option.bind_some]
 have e5:decide (s=namedS s)=true:=decide_eq_true h5
 simp only [e5,Bool.not_true,cond_false]
 by_cases h6:0≤s.2.1
 rotate_left
 ·have e6:decide (s.2.1<0)=true:=by simp;omega
  rw [no fun hp=>h6 hp.2.2.2.2.2.1]
  simp only [e6,cond_true,Option.bind_some]
 have e6:decide (s.2.1<0)=false:=by simp;omega
 by_cases h7:s.2.1≤30
 rotate_left
 ·have e7:decide (s.2.1 > 30)=true:=by simp;omega
  rw [no fun hp=>h7 hp.2.2.2.2.2.2.1]
  simp only [e6,e7,cond_true,cond_false,Option.bind_some]
 have e7:decide (s.2.1 > 30)=false:=by simp;omega
 simp only [e6,e7,cond_false,Option.bind_some,warms_eq h]
 by_cases h8:fitP s.1 s n
 rotate_left
 ·have e8:decide (warmsI s n<0)=true:=by simp [warmsI,h8]
  rw [no fun hp=>h8 hp.2.2.2.2.2.2.2.1]
  simp only [e8,cond_true,Option.bind_some]
 have hwr:=warmI_range h h1 h2 h8
 have e8':warmsI s n=warmI s n:=by simp [warmsI,h8]
 have e8:decide (warmI s n<0)=false:=by simp;omega
 simp only [e8',e8,cond_false]
 by_cases h9:(s.2.2.2.2.2.2.2.2.1.length:Int)=warmI s n
 rotate_left
 ·have e9:(((s.2.2.2.2.2.2.2.2.1.length:Nat):Int) != warmI s n)=true:=by simp only [bne_iff_ne,ne_eq];exact h9
  rw [no fun hp=>h9 hp.2.2.2.2.2.2.2.2.1]
  simp only [e9,cond_true,Option.bind_some]
 have e9:(((s.2.2.2.2.2.2.2.2.1.length:Nat):Int) != warmI s n)=false:=by rw [h9];simp
 simp only [e9,cond_false,ref_AllWide_eq hw,ref_AllWide_eq hr,Option.bind_some]
 cases h10:s.2.2.2.2.2.2.2.2.1.all wideB with
 |false=>
  rw [no fun hp=>by rw [hp.2.2.2.2.2.2.2.2.2.1] at h10;cases h10]
  simp only [Bool.not_false,cond_true,Option.bind_some]
 |true=>
  cases h11:s.2.2.2.2.2.2.2.2.2.2.1.all wideB with
  |false=>
   rw [no fun hp=>by rw [hp.2.2.2.2.2.2.2.2.2.2.1] at h11;cases h11]
   simp only [Bool.not_false,Bool.not_true,cond_true,cond_false,Option.bind_some]
  |true=>
   simp only [Bool.not_true,cond_false,Option.bind_some,guessed_eq]
   have e11:IntKind.wrap .i64 (n-warmI s n)=n-warmI s n:=wrap64 (by omega)
   by_cases h12:2≤s.1∧s.1≤5→(s.2.2.2.2.2.2.2.2.2.2.1.length:Int)=n-warmI s n∧partsB s.2.2.2.2.2.2.2.2.2.1 n (warmI s n)=true
   rotate_left
   ·have hg:2≤s.1∧s.1≤5:=Classical.byContradiction fun hc=>h12 fun e=>absurd e hc
    have hn:¬ ((s.2.2.2.2.2.2.2.2.2.2.1.length:Int)=n-warmI s n∧partsB s.2.2.2.2.2.2.2.2.2.1 n (warmI s n)=true):=fun hc=>h12 fun _=>hc
    rw [no fun hp=>h12 hp.2.2.2.2.2.2.2.2.2.2.2]
    simp only [hg,and_self,decide_true,cond_true,e11,parts_May_eq hk,ref_PartsMay_eq hk,Option.bind_some]
    by_cases h13:(s.2.2.2.2.2.2.2.2.2.2.1.length:Int)=n-warmI s n
    ·have e13:(((s.2.2.2.2.2.2.2.2.2.2.1.length:Nat):Int) != n-warmI s n)=false:=by simp [h13]
     have e14:partsB s.2.2.2.2.2.2.2.2.2.1 n (warmI s n)=false:=by
      cases hb:partsB s.2.2.2.2.2.2.2.2.2.1 n (warmI s n) with
      |false=>rfl
      |true=>exact absurd ⟨h13,hb⟩ hn
     simp only [e13,e14,cond_false,Bool.not_false,Option.bind_some,cond_true]
    ·have e13:(((s.2.2.2.2.2.2.2.2.2.2.1.length:Nat):Int) != n-warmI s n)=true:=by simp only [bne_iff_ne,ne_eq];exact h13
     simp only [e13,cond_true,Option.bind_some]
   have hrp:refP s n:=⟨h1,h2,h3,h4,h5,h6,h7,h8,h9,h10,h11,h12⟩
   have hsp:=hiff.2 hrp
   have e12:(bif decide (2≤s.1∧s.1≤5) then bif (((s.2.2.2.2.2.2.2.2.2.2.1.length:Nat):Int) != IntKind.wrap .i64 (n-warmI s n)) then some (n,(true,(s,()))) else (F_r8_PartsMay (s.2.2.2.2.2.2.2.2.2.1,(n,warmI s n))).bind fun y9=>some (n,(!y9,(s,())))
     else some (n,(false,(s,()))))=some (n,(false,(s,()))):=by
    by_cases hg:2≤s.1∧s.1≤5
    ·obtain ⟨g1,g2⟩:=h12 hg
     have e13:(((s.2.2.2.2.2.2.2.2.2.2.1.length:Nat):Int) != n-warmI s n)=false:=by simp [g1]
     simp only [hg,and_self,decide_true,cond_true,e11,e13,cond_false,ref_PartsMay_eq hk,g2,Option.bind_some,Bool.not_true]
    ·simp only [hg,decide_false,cond_false]
   simp only [e12,Option.bind_some,cond_false]
   have hsub:subO s n=rowO s n:=by unfold subO;rw [if_pos hsp]
   rw [hsub]
   unfold rowO
   by_cases k0:s.1=0
   ·have ek:(s.1==0)=true:=by simp [k0]
    have hl1:s.2.2.2.2.2.2.2.2.1.length=1:=by
     have:=h9;unfold warmI at this;rw [if_pos k0] at this;omega
    have g1:decide ((0:Int)≤n)=true:=by simp;omega
    have g2:decide (n≤n)=true:=by simp
    have g3:lim n.toNat=true:=lim_short (by omega)
    simp only [ek,cond_true,g1,g2,g3,Bool.and_self,ref_flat_loop h1 h2 hl1,Option.bind_some,k0,if_true]
    rfl
   ·have ek:(s.1==0)=false:=by simp [k0]
    simp only [ek,cond_false,ref_back_eq h hsp k0,Option.bind_some,k0,if_false]
    cases hb:backP s with
    |none=>simp [resB]
    |some l=>
     have hll:=backP_length h hb
     simp only [resB,ref_Up_eq h6 h7 hll,Option.bind_some]
     cases upO s.2.1 l<;>simp [resB]
theorem ref_SubMay_eq {s:Sub} (h:SmallS s) (n:Int):F_r19_SubMay (s,n)=some (subO s n).isSome:=by
 unfold F_r19_SubMay
 simp only [ref_SubRow_eq h,Option.bind_some]
 cases subO s n<;>rfl
end Go.Ab
namespace Go.Ab
@[reducible] def Wr:Type:=(List Int)×(Int×Unit)
def bitS (w:Wr) (b:Int):Wr:=
 let bs:=if w.2.1%8=0 then w.1++[0] else w.1
 (bs.set (w.2.1 / 8).toNat (bits .u8 .or (bs.getD (w.2.1 / 8).toNat 0) (gshl .u8 b (7-w.2.1%8))),(w.2.1+1,()))
def wL (L:List Int):Wr:=L.foldl bitS ([],(0,()))
theorem wL_snoc (L:List Int) (b:Int):wL (L++[b])=bitS (wL L) b:=by simp [wL]
theorem wL_facts_n:∀ (n:Nat) (L:List Int),L.length=n→(wL L).2.1=L.length∧(wL L).1.length=(L.length+7) / 8
 |0,L,h=>by
  rw [List.length_eq_zero_iff.1 h];exact ⟨rfl,rfl⟩
 |n+1,L,h=>by
  obtain ⟨L',b,rfl⟩:∃ L' b,L=L'++[b]:=by
   rcases List.eq_nil_or_concat L with rfl|⟨L',b,e⟩
   ·simp at h
   ·exact ⟨L',b,by rw [e,List.concat_eq_append]⟩
  obtain ⟨h1,h2⟩:=wL_facts_n n L' (by simpa using h)
  rw [wL_snoc]
  simp only [bitS,List.length_set,List.length_append,List.length_singleton,h1]
  refine ⟨by omega,?_⟩
  by_cases h:(L'.length:Int)%8=0
  ·rw [if_pos h];simp;omega
  ·rw [if_neg h];omega
theorem wL_facts (L:List Int):(wL L).2.1=L.length∧(wL L).1.length=(L.length+7) / 8:=wL_facts_n _ L rfl
theorem bit_eq {L:List Int} (hL:L.length<1000000000) (b:Int):F_bits_Writer_bit (wL L,b)=some (wL (L++[b])):=by
 obtain ⟨h1,h2⟩:=wL_facts L
 have ht:Int.tmod ((L.length:Nat):Int) 8=((L.length:Nat):Int)%8:=Int.tmod_eq_emod_of_nonneg (by omega)
 have hd:Int.tdiv ((L.length:Nat):Int) 8=((L.length:Nat):Int) / 8:=Int.tdiv_eq_ediv_of_nonneg (by omega)
 have e1:IntKind.wrap .i64 (((L.length:Nat):Int) / 8)=((L.length:Nat):Int) / 8:=wrap64 (by omega)
 have e2:IntKind.wrap .i64 (7-((L.length:Nat):Int)%8)=7-((L.length:Nat):Int)%8:=wrap64 (by omega)
 have e3:IntKind.wrap .i64 (((L.length:Nat):Int)+1)=((L.length:Nat):Int)+1:=wrap64 (by omega)
 have g0:decide ((0:Int)≤((L.length:Nat):Int) / 8)=true:=by simp;omega
 have g1:decide (7-((L.length:Nat):Int)%8<0)=false:=by simp;omega
 rw [wL_snoc]
 generalize wL L=wr at h1 h2 ⊢
 obtain ⟨bs,n,u⟩:=wr
 have h1:n=((L.length:Nat):Int):=h1
 have h2:bs.length=(L.length+7) / 8:=h2
 subst h1
 unfold F_bits_Writer_bit bitS
 by_cases h:((L.length:Nat):Int)%8=0
 ·have hb:(((L.length:Nat):Int)%8==0)=true:=by simp [h]
  have hl:lim (bs.length+1)=true:=lim_of (by omega)
  have hlt:decide (((L.length:Nat):Int) / 8<(((bs++[0]).length:Nat):Int))=true:=by simp;omega
  simp only [hb,cond_true,hl,Option.bind_some,hd,e1,e2,e3,ht,g0,g1,List.append_eq,hlt,Bool.and_self,cond_false,if_pos h]
 ·have hb:(((L.length:Nat):Int)%8==0)=false:=by simp only [beq_eq_false_iff_ne,ne_eq];exact h
  have hlt:decide (((L.length:Nat):Int) / 8<((bs.length:Nat):Int))=true:=by simp;omega
  simp only [hb,cond_false,Option.bind_some,hd,e1,e2,e3,ht,g0,g1,hlt,Bool.and_self,cond_true,if_neg h]
def bitAt (v:Int) (i:Nat):Int:=IntKind.wrap .u8 (bits .u64 .and (gshr .u64 v (i:Int)) 1)
def pb (v:Int):Nat→List Int
 |0=>[]
 |i+1=>bitAt v i::pb v i
theorem pb_length (v:Int):∀ n,(pb v n).length=n
 |0=>rfl
 |n+1=>by simp [pb,pb_length v n]
def putL (v:Int) (n:Nat) (L:List Int):List Int:=bif gshr .u64 v (n:Int) != 0 then L else L++pb v n
theorem putL_length (v:Int) (n:Nat) (L:List Int):L.length≤(putL v n L).length∧(putL v n L).length≤L.length+n:=by
 unfold putL
 cases (gshr .u64 v (n:Int) != 0)<;>simp [pb_length]
def putE (v:Int) (n:Nat):Int:=bif gshr .u64 v (n:Int) != 0 then 1 else 0
theorem put_from {v:Int}:∀ (n:Nat) (L:List Int),L.length+n<1000000000→iter F_bits_Writer_Put_l0 (v,((n:Int)-1,(wL L,())))=some (wL (L++pb v n),())
 |0,L,_=>by rw [iter_done (b:=(wL L,())) (by simp [F_bits_Writer_Put_l0])];simp [pb]
 |n+1,L,h=>by
  have e:((n+1:Nat):Int)-1=(n:Int):=by omega
  have e1:IntKind.wrap .i64 ((n:Int)-1)=(n:Int)-1:=wrap64 (by omega)
  have h1:decide ((n:Int)≥0)=true:=by simp
  have h2:decide ((n:Int)<0)=false:=by simp
  rw [e,iter_step (s':=(v,((n:Int)-1,(wL (L++[bitAt v n]),())))) (by
   simp only [F_bits_Writer_Put_l0,h1,h2,cond_true,cond_false,show IntKind.wrap .u8 (bits .u64 .and (gshr .u64 v (n:Int)) 1)=bitAt v n from rfl,bit_eq (show L.length<1000000000 by omega),Option.bind_some,e1])]
  rw [put_from n (L++[bitAt v n]) (by simp;omega),pb]
  simp
theorem Put_eq {L:List Int} {v:Int} {n:Nat} (hn:n≤63) (hL:L.length<999999000):F_bits_Writer_Put (wL L,(v,(n:Int)))=some (putE v n,wL (putL v n L)):=by
 unfold F_bits_Writer_Put putE putL
 have h1:decide ((n:Int)<0)=false:=by simp
 have h2:decide ((n:Int) > 64)=false:=by simp;omega
 have e1:IntKind.wrap .i64 ((n:Int)-1)=(n:Int)-1:=wrap64 (by omega)
 simp only [h1,h2,cond_false,Option.bind_some]
 cases (gshr .u64 v (n:Int) != 0) with
 |true=>rfl
 |false=>simp only [cond_false,e1,put_from n L (by omega),Option.bind_some]
theorem ref_put_from {v:Int}:∀ (n:Nat) (L:List Int),n≤64→L.length+n<1000000000→iter F_r2_Writer_Put_l0 (v,((n:Int)-1,((L,()),())))=some ((L++pb v n,()),())
 |0,L,_,_=>by rw [iter_done (b:=((L,()),())) (by simp [F_r2_Writer_Put_l0])];simp [pb]
 |n+1,L,h64,h=>by
  have e:((n+1:Nat):Int)-1=(n:Int):=by omega
  have e1:IntKind.wrap .i64 ((n:Int)-1)=(n:Int)-1:=wrap64 (by omega)
  have eu:IntKind.wrap .u64 (n:Int)=(n:Int):=wrapu64 (by omega)
  have h1:decide ((n:Int)≥0)=true:=by simp
  have h2:decide ((n:Int)<0)=false:=by simp
  have hl:lim (L.length+1)=true:=lim_of (by omega)
  rw [e,iter_step (s':=(v,((n:Int)-1,((L++[bitAt v n],()),())))) (by
   simp only [F_r2_Writer_Put_l0,h1,h2,eu,hl,cond_true,cond_false,show IntKind.wrap .u8 (bits .u64 .and (gshr .u64 v (n:Int)) 1)=bitAt v n from rfl,List.append_eq,e1])]
  rw [ref_put_from n (L++[bitAt v n]) (by omega) (by simp;omega),pb]
  simp
theorem ref_Put_eq {L:List Int} {v:Int} {n:Nat} (hn:n≤63) (hL:L.length<999999000):F_r2_Writer_Put ((L,()),(v,(n:Int)))=some (putE v n,(putL v n L,())):=by
 unfold F_r2_Writer_Put putE putL
 have h1:decide ((n:Int)<0)=false:=by simp
 have h2:decide ((n:Int) > 64)=false:=by simp;omega
 have h3:decide ((n:Int)<64)=true:=by simp;omega
 have e1:IntKind.wrap .i64 ((n:Int)-1)=(n:Int)-1:=wrap64 (by omega)
 have eu:IntKind.wrap .u64 (n:Int)=(n:Int):=wrapu64 (by omega)
 simp only [h1,h2,h3,eu,cond_true,cond_false,Option.bind_some]
 cases (gshr .u64 v (n:Int) != 0) with
 |true=>rfl
 |false=>simp only [cond_false,e1,ref_put_from n L (by omega) (by omega),Option.bind_some]
def unL (n:Nat) (L:List Int):List Int:=L++List.replicate n 0++[1]
theorem Unary_eq {L:List Int} {n:Nat} (hn:n≤4096) (hL:L.length<999990000):F_bits_Writer_Unary (wL L,(n:Int))=some (0,wL (unL n L)):=by
 unfold F_bits_Writer_Unary unL
 have h1:decide ((n:Int)<0)=false:=by simp
 have h2:decide ((n:Int) > 4096)=false:=by simp;omega
 simp only [h1,h2,cond_false,Option.bind_some]
 have:=iter_count (f:=F_bits_Writer_Unary_l0) (fun i=>((n:Int),((i:Int),(wL (L++List.replicate i 0),())))) n (b:=(wL (L++List.replicate n 0),())) (fun i hi=>by
   have ea:L++List.replicate i (0:Int)++[0]=L++List.replicate (i+1) 0:=by rw [List.append_assoc,←List.replicate_succ']
   simp only [F_bits_Writer_Unary_l0,dlt hi,cond_true,bit_eq (show (L++List.replicate i (0:Int)).length<1000000000 by simp;omega),Option.bind_some,ea,wrap_succ (show i<1000000 by omega)])
  (by simp [F_bits_Writer_Unary_l0])
 simp only [Int.natCast_zero,List.replicate_zero,List.append_nil] at this
 simp only [this,Option.bind_some,bit_eq (show (L++List.replicate n (0:Int)).length<1000000000 by simp;omega)]
theorem ref_Unary_eq {L:List Int} {n:Nat} (hn:n≤4096) (hL:L.length<999990000):F_r2_Writer_Unary ((L,()),(n:Int))=some (0,(unL n L,())):=by
 unfold F_r2_Writer_Unary unL
 have h1:decide ((n:Int)<0)=false:=by simp
 have h2:decide ((n:Int) > 4096)=false:=by simp;omega
 simp only [h1,h2,cond_false,Option.bind_some]
 have:=iter_count (f:=F_r2_Writer_Unary_l0) (fun i=>((n:Int),((i:Int),((L++List.replicate i 0,()),())))) n (b:=((L++List.replicate n 0,()),())) (fun i hi=>by
   have ea:L++List.replicate i (0:Int)++[0]=L++List.replicate (i+1) 0:=by rw [List.append_assoc,←List.replicate_succ']
   have hl:lim ((L++List.replicate i (0:Int)).length+1)=true:=lim_of (by simp;omega)
   simp only [F_r2_Writer_Unary_l0,dlt hi,cond_true,hl,List.append_eq,ea,wrap_succ (show i<1000000 by omega)])
  (by simp [F_r2_Writer_Unary_l0])
 have hl:lim ((L++List.replicate n (0:Int)).length+1)=true:=lim_of (by simp;omega)
 simp only [Int.natCast_zero,List.replicate_zero,List.append_nil] at this
 simp only [this,Option.bind_some,hl,cond_true,List.append_eq]
theorem unL_length (n:Nat) (L:List Int):(unL n L).length=L.length+n+1:=by simp [unL];omega
def maskS (x:Int) (n:Nat):Int:=bits .u64 .and (IntKind.wrap .u64 x) (IntKind.wrap .u64 ((gshl .u64 1 (n:Int))-1))
def putsL (n:Nat) (l:List Int) (L:List Int):List Int:=l.foldl (fun L x=>putL (maskS x n) n L) L
theorem putsL_length (n:Nat):∀ (l L:List Int),L.length≤(putsL n l L).length∧(putsL n l L).length≤L.length+n*l.length
 | [],L=>by simp [putsL]
 |x::l,L=>by
  have h1:=putL_length (maskS x n) n L
  have h2:=putsL_length n l (putL (maskS x n) n L)
  have e:putsL n (x::l) L=putsL n l (putL (maskS x n) n L):=rfl
  rw [e,List.length_cons,Nat.mul_add,Nat.mul_one]
  omega
theorem putSigned_eq {L:List Int} {x:Int} {n:Nat} (hn:n≤63) (hL:L.length<999999000):F_sub_putSigned (wL L,(x,(n:Int)))=some (wL (putL (maskS x n) n L)):=by
 unfold F_sub_putSigned
 have h1:decide ((n:Int)<0)=false:=by simp
 simp only [h1,cond_false,show bits .u64 .and (IntKind.wrap .u64 x) (IntKind.wrap .u64 ((gshl .u64 1 (n:Int))-1))=maskS x n from rfl,Put_eq hn hL,Option.bind_some]
theorem ref_PutSigned_eq {l L:List Int} {n:Nat} (hn:n≤63) (hl:l.length<10000) (hL:L.length<900000000):F_r8_PutSigned ((L,()),(l,(n:Int)))=some (putsL n l L,()):=by
 have eu:IntKind.wrap .u64 (n:Int)=(n:Int):=wrapu64 (by omega)
 have h2:decide ((n:Int)<0)=false:=by simp
 have key:∀ (k i:Nat) (L':List Int),i+k=l.length→L'.length+64*k<999990000→iter F_r8_PutSigned_l0 (l,((n:Int),((i:Int),((L',()),()))))=some ((putsL n (l.drop i) L',()),()):=by
  intro k
  induction k with
  |zero=>
   intro i L' hi _
   obtain rfl:i=l.length:=by omega
   rw [List.drop_length]
   exact iter_done (by simp [F_r8_PutSigned_l0,putsL])
  |succ k ih=>
   intro i L' hi hb
   have hlt:i<l.length:=by omega
   have hp:=putL_length (maskS l[i] n) n L'
   rw [List.drop_eq_getElem_cons hlt,iter_step (s':=(l,((n:Int),(((i+1:Nat):Int),((putL (maskS l[i] n) n L',()),()))))) (by
    simp only [F_r8_PutSigned_l0,dlt hlt,cond_true,gidx_get hlt,Option.bind_some,eu,h2,cond_false,show bits .u64 .and (IntKind.wrap .u64 l[i]) (IntKind.wrap .u64 ((gshl .u64 1 (n:Int))-1))=maskS l[i] n from rfl,ref_Put_eq hn (show L'.length<999999000 by omega),wrap_succ (show i<1000000 by omega)])]
   exact ih (i+1) _ (by omega) (by omega)
 have:=key l.length 0 L (by omega) (by omega)
 simp only [Int.natCast_zero,List.drop_zero] at this
 unfold F_r8_PutSigned
 simp only [this,Option.bind_some]
end Go.Ab
namespace Go.Ab
def fitsS (x w:Int):Bool:=decide (1≤w)&&(decide (w≤31)&&(decide (gshl .i64 (-1) (w-1)≤x)&&decide (x≤IntKind.wrap .i64 (gshl .i64 1 (w-1)-1))))
theorem sample_Fits_eq {x:Int} {w:Nat} (hw:w≤32):F_sample_Fits (x,(w:Int))=some (fitsS x w):=by
 unfold F_sample_Fits fitsS F_sample_Low F_sample_High
 by_cases h1:1≤(w:Int)
 ·by_cases h2:(w:Int)≤31
  ·have g1:decide ((w:Int)<1)=false:=by simp;omega
   have g2:decide ((w:Int) > 31)=false:=by simp;omega
   have e:IntKind.wrap .i64 ((w:Int)-1)=(w:Int)-1:=wrap64 (by omega)
   have g3:decide ((w:Int)-1<0)=false:=by simp;omega
   have h1':decide ((w:Int)≥1)=true:=by simp;omega
   simp only [h1',h1,h2,g1,g2,g3,e,decide_true,cond_true,cond_false,Option.bind_some,Bool.true_and]
   by_cases h3:gshl .i64 (-1) ((w:Int)-1)≤x<;>simp [h3]
  ·have h1':decide ((w:Int)≥1)=true:=by simp;omega
   simp only [h1',h1,h2,decide_true,decide_false,cond_true,cond_false,Bool.true_and,Bool.false_and]
 ·have h1':decide ((w:Int)≥1)=false:=by simp;omega
  simp only [h1',h1,decide_false,cond_false,Bool.false_and]
theorem ref_Fits_eq {x:Int} {w:Nat} (hw:w≤32):F_r2_Fits (x,(w:Int))=some (fitsS x w):=by
 unfold F_r2_Fits fitsS F_r2_Low F_r2_High
 by_cases h1:1≤(w:Int)
 ·by_cases h2:(w:Int)≤31
  ·have g1:decide ((w:Int)<1)=false:=by simp;omega
   have g2:decide ((w:Int) > 31)=false:=by simp;omega
   have e:IntKind.wrap .i64 ((w:Int)-1)=(w:Int)-1:=wrap64 (by omega)
   have eu:IntKind.wrap .u64 ((w:Int)-1)=(w:Int)-1:=wrapu64 (by omega)
   have g3:decide ((w:Int)-1<0)=false:=by simp;omega
   have h1':decide ((w:Int)≥1)=true:=by simp;omega
   simp only [h1',h1,h2,g1,g2,g3,e,eu,decide_true,cond_true,cond_false,Option.bind_some,Bool.true_and]
   by_cases h3:gshl .i64 (-1) ((w:Int)-1)≤x<;>simp [h3]
  ·have h1':decide ((w:Int)≥1)=true:=by simp;omega
   simp only [h1',h1,h2,decide_true,decide_false,cond_true,cond_false,Bool.true_and,Bool.false_and]
 ·have h1':decide ((w:Int)≥1)=false:=by simp;omega
  simp only [h1',h1,decide_false,cond_false,Bool.false_and]
def growN (x:Int):Nat→Nat→Nat
 |0,w=>w
 |k+1,w=>bif (x != 0)&&!fitsS x w then growN x k (w+1) else w
theorem growN_le (x:Int):∀ (k w:Nat),growN x k w≤w+k
 |0,w=>Nat.le_refl _
 |k+1,w=>by
  simp only [growN]
  cases (x != 0)&&!fitsS x w with
  |true=>have:=growN_le x k (w+1);simp only [cond_true];omega
  |false=>simp only [cond_false];omega
def widthN (l:List Int):Nat:=l.foldl (fun w x=>growN x (32-w) w) 0
theorem width_fold_le:∀ (l:List Int) (w:Nat),w≤32→l.foldl (fun w x=>growN x (32-w) w) w≤32
 | [],w,h=>h
 |x::l,w,h=>width_fold_le l _ (show growN x (32-w) w≤32 by have:=growN_le x (32-w) w;omega)
theorem widthN_le (l:List Int):widthN l≤32:=width_fold_le l 0 (by omega)
theorem grow_from {x:Int} {l:List Int} {n i:Int}:∀ (k w:Nat),w+k=32→iter F_sample_Width_l0 ((w:Int),(x,(l,(n,(i,())))))=some (((growN x k w:Nat):Int),(l,(n,(i,()))))
 |0,w,h=>by
  obtain rfl:w=32:=by omega
  exact iter_done (by cases hx:(x != 0)<;>simp [F_sample_Width_l0,hx,growN])
 |k+1,w,h=>by
  have h1:decide ((w:Int)<32)=true:=by simp;omega
  simp only [growN]
  cases hx:(x != 0) with
  |false=>exact iter_done (by simp only [F_sample_Width_l0,hx,cond_false,Bool.false_and])
  |true=>
   cases hf:fitsS x w with
   |true=>exact iter_done (by simp only [F_sample_Width_l0,hx,h1,sample_Fits_eq (show w≤32 by omega),hf,Option.bind_some,cond_true,cond_false,Bool.not_true,Bool.and_false])
   |false=>
    rw [iter_step (s':=(((w+1:Nat):Int),(x,(l,(n,(i,())))))) (by simp only [F_sample_Width_l0,hx,h1,sample_Fits_eq (show w≤32 by omega),hf,Option.bind_some,cond_true,Bool.not_false,wrap_succ (show w<1000000 by omega)])]
    exact grow_from k (w+1) (by omega)
theorem sample_Width_eq {l:List Int} (hs:short l):F_sample_Width l=some ((widthN l:Nat):Int):=by
 have hs:l.length<1000000:=hs
 have:=iter_list (f:=F_sample_Width_l1) l (fun i (w:Nat)=>((w:Int),(l,((l.length:Int),((i:Int),()))))) (fun w x=>(.inl (growN x (32-w) w):Nat ⊕ (Int×Unit))) (fun _ w=>w≤32) (fun w=>((w:Int),()))
  (fun i h w hw=>⟨fun a' ha=>by
   simp only [Sum.inl.injEq] at ha
   subst ha
   refine ⟨?_,by have:=growN_le l[i] (32-w) w;omega⟩
   simp only [F_sample_Width_l1,dlt h,cond_true,gidx_get h,Option.bind_some,grow_from (32-w) w (by omega),wrap_succ (show i<1000000 by omega)],fun b hb=>(by cases hb)⟩)
  (fun w _=>by simp [F_sample_Width_l1]) (a:=0) (by omega)
 simp only [Int.natCast_zero] at this
 unfold F_sample_Width
 rw [this]
 have key:∀ (l:List Int) (w:Nat),foldE (fun w x=>(.inl (growN x (32-w) w):Nat ⊕ (Int×Unit))) l w=.inl (l.foldl (fun w x=>growN x (32-w) w) w):=by
  intro l
  induction l with
  |nil=>intro w;rfl
  |cons x l ih=>intro w;simp only [foldE,List.foldl_cons,ih]
 rw [key]
 rfl
theorem ref_grow_from {l:List Int} {i:Nat} (hi:i<l.length):∀ (k w:Nat),w+k=32→iter F_r2_Width_l0 (l,((w:Int),((i:Int),())))=some (l,(((growN l[i] k w:Nat):Int),((i:Int),())))
 |0,w,h=>by
  obtain rfl:w=32:=by omega
  exact iter_done (by simp [F_r2_Width_l0,growN])
 |k+1,w,h=>by
  have h1:decide ((w:Int)<32)=true:=by simp;omega
  simp only [growN]
  cases hx:(l[i] != 0) with
  |false=>exact iter_done (by simp only [F_r2_Width_l0,h1,cond_true,gidx_get hi,Option.bind_some,hx,cond_false,Bool.false_and])
  |true=>
   cases hf:fitsS l[i] w with
   |true=>exact iter_done (by simp only [F_r2_Width_l0,gidx_get hi,hx,h1,ref_Fits_eq (show w≤32 by omega),hf,Option.bind_some,cond_true,cond_false,Bool.not_true,Bool.and_false])
   |false=>
    rw [iter_step (s':=(l,(((w+1:Nat):Int),((i:Int),())))) (by simp only [F_r2_Width_l0,gidx_get hi,hx,h1,ref_Fits_eq (show w≤32 by omega),hf,Option.bind_some,cond_true,Bool.not_false,wrap_succ (show w<1000000 by omega)])]
    exact ref_grow_from hi k (w+1) (by omega)
theorem ref_Width_eq {l:List Int} (hs:short l):F_r2_Width l=some ((widthN l:Nat):Int):=by
 have hs:l.length<1000000:=hs
 have:=iter_list (f:=F_r2_Width_l1) l (fun i (w:Nat)=>(l,((w:Int),((i:Int),())))) (fun w x=>(.inl (growN x (32-w) w):Nat ⊕ (Int×Unit))) (fun _ w=>w≤32) (fun w=>((w:Int),()))
  (fun i h w hw=>⟨fun a' ha=>by
   simp only [Sum.inl.injEq] at ha
   subst ha
   refine ⟨?_,by have:=growN_le l[i] (32-w) w;omega⟩
   simp only [F_r2_Width_l1,dlt h,cond_true,Option.bind_some,ref_grow_from h (32-w) w (by omega),wrap_succ (show i<1000000 by omega)],fun b hb=>(by cases hb)⟩)
  (fun w _=>by simp [F_r2_Width_l1]) (a:=0) (by omega)
 simp only [Int.natCast_zero] at this
 unfold F_r2_Width
 rw [this]
 have key:∀ (l:List Int) (w:Nat),foldE (fun w x=>(.inl (growN x (32-w) w):Nat ⊕ (Int×Unit))) l w=.inl (l.foldl (fun w x=>growN x (32-w) w) w):=by
  intro l
  induction l with
  |nil=>intro w;rfl
  |cons x l ih=>intro w;simp only [foldE,List.foldl_cons,ih]
 rw [key]
 rfl
theorem rice_wide_eq (x:Int):F_rice_wide x=some (wideB x):=by
 unfold F_rice_wide wideB
 by_cases h:-1073741824≤x<;>simp [h]
def foldN (x:Int):Nat:=if 0≤x then (2*x).toNat else (-2*x-1).toNat
theorem foldN_lt {x:Int} (h:wideB x=true):foldN x<2147483648:=by
 have:=wideB_iff.1 h
 unfold foldN
 split<;>omega
theorem rice_Fold_eq {x:Int} (h:wideB x=true):F_rice_Fold x=some ((foldN x:Nat):Int):=by
 have hx:=wideB_iff.1 h
 unfold F_rice_Fold foldN
 simp only [rice_wide_eq,h,Option.bind_some,Bool.not_true,cond_false]
 by_cases h0:0≤x
 ·have h0':decide (x≥0)=true:=by simp;omega
  simp only [h0',cond_true,if_pos h0]
  rw [wrap64 (n:=2*x) (by omega),wrapu64 (by omega)]
  congr 1;omega
 ·have h0':decide (x≥0)=false:=by simp;omega
  simp only [h0',cond_false,if_neg h0]
  rw [wrap64 (n:=-2*x) (by omega),wrap64 (n:=-2*x-1) (by omega),wrapu64 (by omega)]
  congr 1;omega
theorem wrapu_neg {n:Int} (h:-18446744073709551616≤n∧n<0):IntKind.wrap .u64 n=n+18446744073709551616:=by
 simp only [IntKind.wrap,IntKind.bits,IntKind.signed]
 simp
 omega
theorem xor_max {y:Nat} (h:y<18446744073709551616):bits .u64 .xor (IntKind.max .u64) (y:Int)=((18446744073709551615-y:Nat):Int):=by
 show IntKind.wrap .u64 (((BitVec.ofInt 64 (IntKind.max .u64)) ^^^ (BitVec.ofInt 64 (y:Int))).toNat:Int)=_
 have e1:BitVec.ofInt 64 (IntKind.max .u64)=BitVec.allOnes 64:=by decide
 have e2:BitVec.ofInt 64 (y:Int)=BitVec.ofNat 64 y:=BitVec.ofInt_natCast 64 y
 rw [e1,e2,BitVec.allOnes_xor,BitVec.toNat_not,BitVec.toNat_ofNat,Nat.mod_eq_of_lt h]
 rw [wrapu64 (by omega)]
theorem ref_Fold_eq {x:Int} (h:wideB x=true):F_r8_Fold x=some ((foldN x:Nat):Int):=by
 have hx:=wideB_iff.1 h
 unfold F_r8_Fold F_r2_Zig foldN
 simp only [ref_Wide_eq,h,Option.bind_some,Bool.not_true,cond_false]
 have hg:∀ y:Int,gshl .u64 y 1=IntKind.wrap .u64 (y*2):=fun y=>rfl
 by_cases h0:0≤x
 ·have h0':decide (x<0)=false:=by simp;omega
  simp only [h0',cond_false,Option.bind_some,if_pos h0,hg]
  rw [wrapu64 (n:=x) (by omega),wrapu64 (by omega)]
  congr 1;omega
 ·have h0':decide (x<0)=true:=by simp;omega
  simp only [h0',cond_true,Option.bind_some,if_neg h0,hg]
  have e1:IntKind.wrap .u64 (IntKind.wrap .u64 x*2)=(((2*x+18446744073709551616).toNat:Nat):Int):=by
   rw [wrapu_neg (n:=x) (by omega)]
   simp only [IntKind.wrap,IntKind.bits,IntKind.signed]
   simp
   omega
  rw [e1,xor_max (by omega)]
  congr 1;omega
theorem gshru_nat {N o:Nat} (h:o≤64):gshr .u64 (N:Int) (o:Int)=((N / 2^o:Nat):Int):=gshr_nat h
theorem gshlu_nat {N o:Nat} (h:o≤64) (hs:N*2^o<9223372036854775808):gshl .u64 (N:Int) (o:Int)=((N*2^o:Nat):Int):=by
 unfold gshl
 show IntKind.wrap .u64 ((N:Int)*2^(min (o:Int).toNat 64))=_
 rw [Int.toNat_natCast,Nat.min_eq_left h]
 have e:(N:Int)*2^o=((N*2^o:Nat):Int):=by rw [Int.natCast_mul,Int.natCast_pow];rfl
 rw [e]
 exact wrapu64 (by omega)
theorem and_mask {y k:Nat} (hy:y<18446744073709551616) (hk:k≤62):bits .u64 .and (y:Int) (IntKind.wrap .u64 (gshl .u64 1 (k:Int)-1))=((y%2^k:Nat):Int):=by
 have hp:2^k≤2^62:=Nat.pow_le_pow_right (by decide) hk
 have hp1:1≤2^k:=Nat.one_le_two_pow
 have hp2:(2:Nat)^62=4611686018427387904:=by decide
 have e0:gshl .u64 1 (k:Int)=((2^k:Nat):Int):=by have:=gshlu_nat (N:=1) (o:=k) (by omega) (by omega);simpa using this
 have e1:IntKind.wrap .u64 (((2^k:Nat):Int)-1)=((2^k-1:Nat):Int):=by rw [wrapu64 (by omega)];omega
 rw [e0,e1]
 show IntKind.wrap .u64 (((BitVec.ofInt 64 (y:Int)) &&& (BitVec.ofInt 64 ((2^k-1:Nat):Int))).toNat:Int)=_
 rw [BitVec.ofInt_natCast,BitVec.ofInt_natCast,BitVec.toNat_and,BitVec.toNat_ofNat,BitVec.toNat_ofNat,Nat.mod_eq_of_lt hy,Nat.mod_eq_of_lt (by omega),Nat.and_two_pow_sub_one_eq_mod]
 have:y%2^k<2^k:=Nat.mod_lt _ (by omega)
 exact wrapu64 (by omega)
theorem wrap_nat {q:Nat} (h:q<2147483648):IntKind.wrap .i64 (q:Int)=(q:Int):=wrap64 (by omega)
def riceL (k:Nat) (x:Int) (L:List Int):List Int:=
 if foldN x / 2^k<32 then putL ((foldN x%2^k:Nat):Int) k (unL (foldN x / 2^k) L) else putL ((foldN x:Nat):Int) 32 (unL 32 L)
def ricesL (k:Nat) (l:List Int) (L:List Int):List Int:=l.foldl (fun L x=>riceL k x L) L
theorem riceL_length {k:Nat} (hk:k≤25) (x:Int) (L:List Int):L.length≤(riceL k x L).length∧(riceL k x L).length≤L.length+100:=by
 unfold riceL
 split
 ·rename_i hq
  have h1:=putL_length ((foldN x%2^k:Nat):Int) k (unL (foldN x / 2^k) L)
  have h2:=unL_length (foldN x / 2^k) L
  generalize unL (foldN x / 2^k) L=M at h1 h2 ⊢
  generalize foldN x / 2^k=q at hq h2
  omega
 ·have h1:=putL_length ((foldN x:Nat):Int) 32 (unL 32 L)
  have h2:=unL_length 32 L
  omega
theorem ricesL_length {k:Nat} (hk:k≤25):∀ (l L:List Int),L.length≤(ricesL k l L).length∧(ricesL k l L).length≤L.length+100*l.length
 | [],L=>by simp [ricesL]
 |x::l,L=>by
  have h1:=riceL_length hk x L
  have h2:=ricesL_length hk l (riceL k x L)
  have e:ricesL k (x::l) L=ricesL k l (riceL k x L):=rfl
  rw [e,List.length_cons]
  omega
theorem rice_parameter_eq {k:Nat} (hk:k≤25):F_rice_parameter (k:Int)=some true:=by
 unfold F_rice_parameter
 have h1:decide ((0:Int)≤(k:Int))=true:=by simp
 have h2:decide ((k:Int)≤25)=true:=by simp;omega
 simp only [h1,h2,cond_true]
theorem ref_parameter_eq {k:Nat} (hk:k≤25):F_r8_parameter (k:Int)=some true:=by
 unfold F_r8_parameter
 have h1:decide ((k:Int)≥0)=true:=by simp
 have h2:decide ((k:Int)≤25)=true:=by simp;omega
 simp only [h1,h2,cond_true]
theorem rice_Put_eq {k:Nat} {l L:List Int} (hk:k≤25) (hl:l.length<10000) (hw:l.all wideB=true) (hL:L.length<900000000):F_rice_Put (wL L,((k:Int),l))=some (0,wL (ricesL k l L)):=by
 have h0:=iter_all (f:=F_rice_Put_l0) l (fun i=>((k:Int),(l,(l,((l.length:Int),((i:Int),(wL L,()))))))) (fun _=>true) (bt:=Sum.inl ((k:Int),(l,(wL L,())))) (bf:=Sum.inl ((k:Int),(l,(wL L,()))))
  (fun i h _=>by
   have:=List.all_eq_true.1 hw _ (List.getElem_mem h)
   simp only [F_rice_Put_l0,dlt h,cond_true,gidx_get h,Option.bind_some,rice_wide_eq,this,Bool.not_true,cond_false,wrap_succ (show i<1000000 by omega)])
  (fun i h hp=>by simp at hp) (by simp [F_rice_Put_l0])
 have key:∀ (j i:Nat) (L':List Int),i+j=l.length→L'.length+100*j<999990000→iter F_rice_Put_l1 ((k:Int),(l,((l.length:Int),((i:Int),(wL L',())))))=some (wL (ricesL k (l.drop i) L'),()):=by
  intro j
  induction j with
  |zero=>
   intro i L' hi _
   obtain rfl:i=l.length:=by omega
   rw [List.drop_length]
   exact iter_done (by simp [F_rice_Put_l1,ricesL])
  |succ j ih=>
   intro i L' hi hb
   have hlt:i<l.length:=by omega
   have hwi:=List.all_eq_true.1 hw _ (List.getElem_mem hlt)
   have hy:=foldN_lt hwi
   have hrl:=riceL_length hk l[i] L'
   have hk0:decide ((k:Int)<0)=false:=by simp
   have eq:gshr .u64 ((foldN l[i]:Nat):Int) (k:Int)=((foldN l[i] / 2^k:Nat):Int):=gshru_nat (by omega)
   have hql:=Nat.div_le_self (foldN l[i]) (2^k)
   have hmod:=Nat.div_add_mod (foldN l[i]) (2^k)
   have emul:gshl .u64 ((foldN l[i] / 2^k:Nat):Int) (k:Int)=((foldN l[i] / 2^k*2^k:Nat):Int):=gshlu_nat (by omega) (by rw [Nat.mul_comm];omega)
   have em:IntKind.wrap .u64 (((foldN l[i]:Nat):Int)-((foldN l[i] / 2^k*2^k:Nat):Int))=((foldN l[i]%2^k:Nat):Int):=by
    rw [Nat.mul_comm (foldN l[i] / 2^k)]
    rw [wrapu64 (by omega)];omega
   have ew:IntKind.wrap .i64 ((foldN l[i] / 2^k:Nat):Int)=((foldN l[i] / 2^k:Nat):Int):=wrap_nat (Nat.lt_of_le_of_lt hql hy)
   rw [List.drop_eq_getElem_cons hlt,iter_step (s':=((k:Int),(l,((l.length:Int),(((i+1:Nat):Int),(wL (riceL k l[i] L'),())))))) (by
    by_cases hq:foldN l[i] / 2^k<32
    ·have hd:decide (((foldN l[i] / 2^k:Nat):Int)<32)=true:=decide_eq_true (by omega)
     have hu:(unL (foldN l[i] / 2^k) L').length<999999000:=by
      rw [unL_length]
      exact Nat.lt_of_lt_of_le (Nat.add_lt_add_right (Nat.add_lt_add_left hq _) 1) (by omega)
     have hun:=Unary_eq (L:=L') (n:=foldN l[i] / 2^k) (Nat.le_of_lt (Nat.lt_trans hq (by decide))) (by omega)
     have hp:=Put_eq (L:=unL (foldN l[i] / 2^k) L') (v:=((foldN l[i]%2^k:Nat):Int)) (n:=k) (by omega) hu
     simp only [F_rice_Put_l1,dlt hlt,cond_true,gidx_get hlt,Option.bind_some,rice_Fold_eq hwi,hk0,cond_false,eq,hd,ew,hun,emul,em,hp,riceL,if_pos hq,wrap_succ (show i<1000000 by omega)]
    ·have hd:decide (((foldN l[i] / 2^k:Nat):Int)<32)=false:=decide_eq_false (by omega)
     have hu:=unL_length 32 L'
     have hun:F_bits_Writer_Unary (wL L',(32:Int))=some (0,wL (unL 32 L')):=Unary_eq (L:=L') (n:=32) (by omega) (by omega)
     have hp:F_bits_Writer_Put (wL (unL 32 L'),(((foldN l[i]:Nat):Int),(32:Int)))=some (putE ((foldN l[i]:Nat):Int) 32,wL (putL ((foldN l[i]:Nat):Int) 32 (unL 32 L'))):=Put_eq (L:=unL 32 L') (v:=((foldN l[i]:Nat):Int)) (n:=32) (by omega) (by omega)
     simp only [F_rice_Put_l1,dlt hlt,cond_true,gidx_get hlt,Option.bind_some,rice_Fold_eq hwi,hk0,cond_false,eq,hd,hun,hp,riceL,if_neg hq,wrap_succ (show i<1000000 by omega)])]
   exact ih (i+1) _ (by omega) (by omega)
 have h1:=key l.length 0 L (by omega) (by omega)
 simp only [Int.natCast_zero,List.drop_zero] at h0 h1
 unfold F_rice_Put
 simp only [rice_parameter_eq hk,Option.bind_some,Bool.not_true,cond_false,h0]
 cases l.all (fun _=>true)<;>simp only [cond_true,cond_false,h1,Option.bind_some]
theorem ref_RicePut_eq {k:Nat} {l L:List Int} (hk:k≤25) (hl:l.length<10000) (hw:l.all wideB=true) (hL:L.length<900000000):F_r8_RicePut ((L,()),((k:Int),l))=some (0,(ricesL k l L,())):=by
 have eu:IntKind.wrap .u64 (k:Int)=(k:Int):=wrapu64 (by omega)
 have key:∀ (j i:Nat) (L':List Int),i+j=l.length→L'.length+100*j<999990000→iter F_r8_RicePut_l0 ((k:Int),(l,((i:Int),((L',()),()))))=some ((ricesL k (l.drop i) L',()),()):=by
  intro j
  induction j with
  |zero=>
   intro i L' hi _
   obtain rfl:i=l.length:=by omega
   rw [List.drop_length]
   exact iter_done (by simp [F_r8_RicePut_l0,ricesL])
  |succ j ih=>
   intro i L' hi hb
   have hlt:i<l.length:=by omega
   have hwi:=List.all_eq_true.1 hw _ (List.getElem_mem hlt)
   have hy:=foldN_lt hwi
   have hrl:=riceL_length hk l[i] L'
   have hk0:decide ((k:Int)<0)=false:=by simp
   have eq:gshr .u64 ((foldN l[i]:Nat):Int) (k:Int)=((foldN l[i] / 2^k:Nat):Int):=gshru_nat (by omega)
   have hql:=Nat.div_le_self (foldN l[i]) (2^k)
   have em:=and_mask (y:=foldN l[i]) (k:=k) (by omega) (by omega)
   have ew:IntKind.wrap .i64 ((foldN l[i] / 2^k:Nat):Int)=((foldN l[i] / 2^k:Nat):Int):=wrap_nat (Nat.lt_of_le_of_lt hql hy)
   rw [List.drop_eq_getElem_cons hlt,iter_step (s':=((k:Int),(l,(((i+1:Nat):Int),((riceL k l[i] L',()),()))))) (by
    by_cases hq:foldN l[i] / 2^k<32
    ·have hd:decide (((foldN l[i] / 2^k:Nat):Int)<32)=true:=decide_eq_true (by omega)
     have hu:(unL (foldN l[i] / 2^k) L').length<999999000:=by
      rw [unL_length]
      exact Nat.lt_of_lt_of_le (Nat.add_lt_add_right (Nat.add_lt_add_left hq _) 1) (by omega)
     have hun:=ref_Unary_eq (L:=L') (n:=foldN l[i] / 2^k) (Nat.le_of_lt (Nat.lt_trans hq (by decide))) (by omega)
     have hp:=ref_Put_eq (L:=unL (foldN l[i] / 2^k) L') (v:=((foldN l[i]%2^k:Nat):Int)) (n:=k) (by omega) hu
     simp only [F_r8_RicePut_l0,dlt hlt,cond_true,gidx_get hlt,Option.bind_some,ref_Fold_eq hwi,eu,hk0,cond_false,eq,hd,ew,hun,em,hp,riceL,if_pos hq,wrap_succ (show i<1000000 by omega)]
    ·have hd:decide (((foldN l[i] / 2^k:Nat):Int)<32)=false:=decide_eq_false (by omega)
     have hu:=unL_length 32 L'
     have hun:F_r2_Writer_Unary ((L',()),(32:Int))=some (0,(unL 32 L',())):=ref_Unary_eq (L:=L') (n:=32) (by omega) (by omega)
     have hp:F_r2_Writer_Put ((unL 32 L',()),(((foldN l[i]:Nat):Int),(32:Int)))=some (putE ((foldN l[i]:Nat):Int) 32,(putL ((foldN l[i]:Nat):Int) 32 (unL 32 L'),())):=ref_Put_eq (L:=unL 32 L') (v:=((foldN l[i]:Nat):Int)) (n:=32) (by omega) (by omega)
     simp only [F_r8_RicePut_l0,dlt hlt,cond_true,gidx_get hlt,Option.bind_some,ref_Fold_eq hwi,eu,hk0,cond_false,eq,hd,ew,hun,hp,riceL,if_neg hq,wrap_succ (show i<1000000 by omega)])]
   exact ih (i+1) _ (by omega) (by omega)
 have h1:=key l.length 0 L (by omega) (by omega)
 simp only [Int.natCast_zero,List.drop_zero] at h1
 have hs:short l:=by unfold short;omega
 unfold F_r8_RicePut
 simp only [ref_parameter_eq hk,Option.bind_some,Bool.not_true,cond_false,ref_AllWide_eq hs,hw,h1]
end Go.Ab
namespace Go.Ab
def castZ (zn:List Nat):List Int:=zn.map fun (a:Nat)=>(a:Int)
theorem sum_replicate (n M:Nat):(List.replicate n M).sum=n*M:=by
 induction n with
 |zero=>simp
 |succ n ih=>rw [List.replicate_succ,List.sum_cons,ih,Nat.succ_mul,Nat.add_comm]
theorem sizes_facts {o n warm:Int} (h:(sizesI o n warm).length≠0):∃ zn:List Nat,sizesI o n warm=castZ zn∧(zn.sum:Int)=n-warm∧zn.length≤256:=by
 unfold sizesI at h ⊢
 cases hr:(rowB n warm&&(decide (0≤o)&&decide (o≤8))) with
 |false=>rw [hr] at h;simp at h
 |true=>
  rw [hr] at h
  simp only [cond_true] at h ⊢
  simp only [rowB,Bool.and_eq_true,decide_eq_true_eq] at hr
  unfold sizesN at h ⊢
  split at h
  ·rename_i hc
   rw [if_pos hc]
   obtain ⟨O,rfl⟩:=Int.eq_ofNat_of_zero_le hr.2.1
   obtain ⟨N,rfl⟩:=Int.eq_ofNat_of_zero_le (show 0≤n by omega)
   obtain ⟨w,rfl⟩:=Int.eq_ofNat_of_zero_le (show 0≤warm by omega)
   simp only [Int.toNat_natCast] at hc ⊢
   have hp:=pow8 (o:=O) (by omega)
   have hm:=Nat.div_add_mod N (2^O)
   rw [hc.1,Nat.add_zero] at hm
   have hw:w≤N / 2^O:=by have:=hc.2;omega
   generalize N / 2^O=M at hc hw hm ⊢
   generalize 2^O=P at hp hm ⊢
   refine ⟨(M-w)::List.replicate (P-1) M,?_,?_,?_⟩
   ·simp only [castZ,List.map_cons,List.map_replicate]
    congr 1
    omega
   ·rw [List.sum_cons,sum_replicate]
    obtain ⟨q,rfl⟩:∃ q,P=q+1:=⟨P-1,by omega⟩
    rw [Nat.add_sub_cancel]
    rw [Nat.succ_mul] at hm
    omega
   ·simp;omega
  ·exact absurd rfl h
def partL (k:Int) (part L:List Int):List Int:=
 if k=31 then putsL (widthN part) part (putL ((widthN part:Nat):Int) 5 (putL (IntKind.wrap .u64 k) 5 L)) else ricesL k.toNat part (putL (IntKind.wrap .u64 k) 5 L)
def partsL:List Nat→List Int→List Int→List Int→List Int
 |z::zs,k::ks,l,L=>partsL zs ks (l.drop z) (partL k (l.take z) L)
 |_,_,_,L=>L
theorem partL_length {k:Int} (hk:kB k=true) (part L:List Int):L.length≤(partL k part L).length∧(partL k part L).length≤L.length+10+100*part.length:=by
 unfold partL
 have h1:=putL_length (IntKind.wrap .u64 k) 5 L
 split
 ·have h2:=putL_length ((widthN part:Nat):Int) 5 (putL (IntKind.wrap .u64 k) 5 L)
  have h3:=putsL_length (widthN part) part (putL ((widthN part:Nat):Int) 5 (putL (IntKind.wrap .u64 k) 5 L))
  have hw:=widthN_le part
  have:widthN part*part.length≤32*part.length:=Nat.mul_le_mul_right _ hw
  omega
 ·rename_i hne
  simp only [kB,Bool.or_eq_true,Bool.and_eq_true,decide_eq_true_eq,beq_iff_eq] at hk
  have h3:=ricesL_length (k:=k.toNat) (by omega) part (putL (IntKind.wrap .u64 k) 5 L)
  omega
theorem castZ_get {zn:List Nat} {i:Nat} (h:i<zn.length):List.getD (castZ zn) i 0=((zn[i]:Nat):Int):=by
 rw [getD_get (by simpa [castZ] using h)];simp [castZ]
theorem castZ_length (zn:List Nat):(castZ zn).length=zn.length:=by simp [castZ]
theorem sum_drop {zn:List Nat} {i:Nat} (h:i<zn.length):(zn.drop i).sum=zn[i]+(zn.drop (i+1)).sum:=by
 rw [List.drop_eq_getElem_cons h,List.sum_cons]
theorem raw_loop {part rest:List Int} {wd:Nat} {a b:Int} {z:List Int} {p:Prt} (hw:wd≤32) (hp:part.length<10000):∀ (j i:Nat) (L:List Int),i+j=part.length→L.length+64*j<999990000→
  iter F_parts_Put_l0 (rest,((wd:Int),(a,(b,(part,((part.length:Int),((i:Int),(z,(wL L,(p,()))))))))))=some (rest,(a,(b,(z,(wL (putsL wd (part.drop i) L),(p,()))))))
 |0,i,L,hi,_=>by
  obtain rfl:i=part.length:=by omega
  rw [List.drop_length]
  exact iter_done (by simp [F_parts_Put_l0,putsL])
 |j+1,i,L,hi,hb=>by
  have hlt:i<part.length:=by omega
  have h2:decide ((wd:Int)<0)=false:=by simp
  have hpl:=putL_length (maskS part[i] wd) wd L
  rw [List.drop_eq_getElem_cons hlt,iter_step (s':=(rest,((wd:Int),(a,(b,(part,((part.length:Int),(((i+1:Nat):Int),(z,(wL (putL (maskS part[i] wd) wd L),(p,()))))))))))) (by
   simp only [F_parts_Put_l0,dlt hlt,cond_true,gidx_get hlt,Option.bind_some,h2,cond_false,show bits .u64 .and (IntKind.wrap .u64 part[i]) (IntKind.wrap .u64 ((gshl .u64 1 (wd:Int))-1))=maskS part[i] wd from rfl,Put_eq (show wd≤63 by omega) (show L.length<999999000 by omega),wrap_succ (show i<1000000 by omega)])]
  exact raw_loop hw hp j (i+1) _ (by omega) (by omega)
theorem parts_put_loop {zn:List Nat} {p:Prt} (hk:p.2.1.length=zn.length) (hall:p.2.1.all kB=true) (hz:zn.length≤256):∀ (j i:Nat) (l L:List Int),i+j=zn.length→(zn.drop i).sum=l.length→l.all wideB=true→l.length≤5000→L.length+10*j+100*l.length<800000000→
  iter F_parts_Put_l1 (l,((zn.length:Int),((i:Int),(castZ zn,(wL L,(p,()))))))=some (wL (partsL (zn.drop i) (p.2.1.drop i) l L),())
 |0,i,l,L,hi,_,_,_,_=>by
  obtain rfl:i=zn.length:=by omega
  rw [List.drop_length]
  exact iter_done (by simp [F_parts_Put_l1,partsL])
 |j+1,i,l,L,hi,hsum,hw,hl5,hb=>by
  have hlt:i<zn.length:=by omega
  have hki:i<p.2.1.length:=by omega
  have hkb:=List.all_eq_true.1 hall _ (List.getElem_mem hki)
  rw [sum_drop hlt] at hsum
  have h0:decide ((0:Int)≤(i:Int))=true:=by simp
  have h1:decide ((i:Int)<(((castZ zn).length:Nat):Int))=true:=by rw [castZ_length];simp;omega
  have h2:decide ((0:Int)≤((zn[i]:Nat):Int))=true:=by simp
  have h3:decide (((zn[i]:Nat):Int)≤((l.length:Nat):Int))=true:=by simp;omega
  have hpart:(l.take zn[i]).length=zn[i]:=by rw [List.length_take];omega
  have hrest:(l.drop zn[i]).length=(zn.drop (i+1)).sum:=by rw [List.length_drop];omega
  have hwp:(l.take zn[i]).all wideB=true:=List.all_eq_true.2 fun x hx=>List.all_eq_true.1 hw x (List.mem_of_mem_take hx)
  have hwr:(l.drop zn[i]).all wideB=true:=List.all_eq_true.2 fun x hx=>List.all_eq_true.1 hw x (List.mem_of_mem_drop hx)
  have hpl:=partL_length hkb (l.take zn[i]) L
  have hp1:=putL_length (IntKind.wrap .u64 p.2.1[i]) 5 L
  have hput:F_bits_Writer_Put (wL L,(IntKind.wrap .u64 p.2.1[i],(5:Int)))=some (putE (IntKind.wrap .u64 p.2.1[i]) 5,wL (putL (IntKind.wrap .u64 p.2.1[i]) 5 L)):=Put_eq (n:=5) (by omega) (by omega)
  have ed:zn.drop i=zn[i]::zn.drop (i+1):=List.drop_eq_getElem_cons hlt
  have ek:p.2.1.drop i=p.2.1[i]::p.2.1.drop (i+1):=List.drop_eq_getElem_cons hki
  rw [ed,ek,partsL]
  have goal:F_parts_Put_l1 (l,((zn.length:Int),((i:Int),(castZ zn,(wL L,(p,()))))))=some (.inl (l.drop zn[i],((zn.length:Int),(((i+1:Nat):Int),(castZ zn,(wL (partL p.2.1[i] (l.take zn[i]) L),(p,()))))))):=by
   by_cases h31:p.2.1[i]=31
   ·have hne:(p.2.1[i] != 31)=false:=by rw [h31];rfl
    have hwd:=widthN_le (l.take zn[i])
    have hsw:=sample_Width_eq (l:=l.take zn[i]) (by unfold short;omega)
    have hp2:=putL_length ((widthN (l.take zn[i]):Nat):Int) 5 (putL (IntKind.wrap .u64 p.2.1[i]) 5 L)
    have ew:IntKind.wrap .u64 ((widthN (l.take zn[i]):Nat):Int)=((widthN (l.take zn[i]):Nat):Int):=wrapu64 (by omega)
    have hput2:F_bits_Writer_Put (wL (putL (IntKind.wrap .u64 p.2.1[i]) 5 L),(((widthN (l.take zn[i]):Nat):Int),(5:Int)))=some (putE ((widthN (l.take zn[i]):Nat):Int) 5,wL (putL ((widthN (l.take zn[i]):Nat):Int) 5 (putL (IntKind.wrap .u64 p.2.1[i]) 5 L))):=Put_eq (n:=5) (by omega) (by omega)
    have hraw:=raw_loop (part:=l.take zn[i]) (rest:=l.drop zn[i]) (a:=(zn.length:Int)) (b:=(i:Int)) (z:=castZ zn) (p:=p) hwd (by omega) (l.take zn[i]).length 0 (putL ((widthN (l.take zn[i]):Nat):Int) 5 (putL (IntKind.wrap .u64 p.2.1[i]) 5 L)) (by omega) (by omega)
    simp only [Int.natCast_zero,List.drop_zero] at hraw
    simp only [F_parts_Put_l1,dlt hlt,h0,h1,castZ_get hlt,h2,h3,cond_true,Bool.and_self,Int.toNat_natCast,gidx_get hki,Option.bind_some,hput,hne,cond_false,hsw,ew,hput2,List.take_length,hraw,wrap_succ (show i<1000000 by omega),partL,if_pos h31]
   ·have hne:(p.2.1[i] != 31)=true:=by simp [h31]
    simp only [kB,Bool.or_eq_true,Bool.and_eq_true,decide_eq_true_eq,beq_iff_eq] at hkb
    obtain ⟨K,hK⟩:=Int.eq_ofNat_of_zero_le (show 0≤p.2.1[i] by omega)
    have hrice:=rice_Put_eq (k:=K) (l:=l.take zn[i]) (L:=putL (IntKind.wrap .u64 p.2.1[i]) 5 L) (by omega) (by omega) hwp (by omega)
    rw [←hK] at hrice
    have eK:K=p.2.1[i].toNat:=by rw [hK,Int.toNat_natCast]
    simp only [F_parts_Put_l1,dlt hlt,h0,h1,castZ_get hlt,h2,h3,cond_true,Bool.and_self,Int.toNat_natCast,gidx_get hki,Option.bind_some,hput,hne,hrice,List.take_length,wrap_succ (show i<1000000 by omega),partL,if_neg h31,eK]
  rw [iter_step goal]
  exact parts_put_loop hk hall hz j (i+1) (l.drop zn[i]) _ (by omega) hrest.symm hwr (by rw [List.length_drop];omega) (by rw [List.length_drop];omega)
theorem ref_parts_put_loop {zn:List Nat} {p:Prt} {l:List Int} (hk:p.2.1.length=zn.length) (hall:p.2.1.all kB=true) (hz:zn.length≤256) (hw:l.all wideB=true) (hl5:l.length≤5000):∀ (j i off:Nat) (L:List Int),i+j=zn.length→off+(zn.drop i).sum=l.length→L.length+10*j+100*(l.length-off)<800000000→
  iter F_r8_PartsPut_l0 (l,((off:Int),((i:Int),(castZ zn,((L,()),(p,()))))))=some ((partsL (zn.drop i) (p.2.1.drop i) (l.drop off) L,()),())
 |0,i,off,L,hi,_,_=>by
  obtain rfl:i=zn.length:=by omega
  rw [List.drop_length]
  exact iter_done (by simp [F_r8_PartsPut_l0,partsL,castZ_length])
 |j+1,i,off,L,hi,hsum,hb=>by
  have hlt:i<zn.length:=by omega
  have hki:i<p.2.1.length:=by omega
  have hkb:=List.all_eq_true.1 hall _ (List.getElem_mem hki)
  rw [sum_drop hlt] at hsum
  have h0:decide ((0:Int)≤(i:Int))=true:=by simp
  have h1:decide ((i:Int)<(((castZ zn).length:Nat):Int))=true:=by rw [castZ_length];simp;omega
  have eo:IntKind.wrap .i64 ((off:Int)+((zn[i]:Nat):Int))=((off+zn[i]:Nat):Int):=by rw [wrap64 (by omega)];omega
  have h2:decide ((0:Int)≤((off+zn[i]:Nat):Int))=true:=by simp;omega
  have h3:decide (((off+zn[i]:Nat):Int)≤((l.length:Nat):Int))=true:=by simp only [decide_eq_true_eq];omega
  have h4:decide ((0:Int)≤(off:Int))=true:=by simp
  have h5:decide ((off:Int)≤((off+zn[i]:Nat):Int))=true:=by simp only [decide_eq_true_eq];omega
  have epart:List.drop off (List.take (off+zn[i]) l)=(l.drop off).take zn[i]:=by rw [List.drop_take];congr 1;omega
  have erest:(l.drop off).drop zn[i]=l.drop (off+zn[i]):=by rw [List.drop_drop]
  have hpart:((l.drop off).take zn[i]).length=zn[i]:=by rw [List.length_take,List.length_drop];omega
  have hwp:((l.drop off).take zn[i]).all wideB=true:=List.all_eq_true.2 fun x hx=>List.all_eq_true.1 hw x (List.mem_of_mem_drop (List.mem_of_mem_take hx))
  have hpl:=partL_length hkb ((l.drop off).take zn[i]) L
  have hp1:=putL_length (IntKind.wrap .u64 p.2.1[i]) 5 L
  have hput:F_r2_Writer_Put ((L,()),(IntKind.wrap .u64 p.2.1[i],(5:Int)))=some (putE (IntKind.wrap .u64 p.2.1[i]) 5,(putL (IntKind.wrap .u64 p.2.1[i]) 5 L,())):=ref_Put_eq (n:=5) (by omega) (by omega)
  have ed:zn.drop i=zn[i]::zn.drop (i+1):=List.drop_eq_getElem_cons hlt
  have ek:p.2.1.drop i=p.2.1[i]::p.2.1.drop (i+1):=List.drop_eq_getElem_cons hki
  rw [ed,ek,partsL,erest]
  have goal:F_r8_PartsPut_l0 (l,((off:Int),((i:Int),(castZ zn,((L,()),(p,()))))))=some (.inl (l,(((off+zn[i]:Nat):Int),(((i+1:Nat):Int),(castZ zn,((partL p.2.1[i] ((l.drop off).take zn[i]) L,()),(p,()))))))):=by
   by_cases h31:p.2.1[i]=31
   ·have hne:(p.2.1[i]==31)=true:=by rw [h31];rfl
    have hwd:=widthN_le ((l.drop off).take zn[i])
    have hsw:=ref_Width_eq (l:=(l.drop off).take zn[i]) (by unfold short;omega)
    have hp2:=putL_length ((widthN ((l.drop off).take zn[i]):Nat):Int) 5 (putL (IntKind.wrap .u64 p.2.1[i]) 5 L)
    have ew:IntKind.wrap .u64 ((widthN ((l.drop off).take zn[i]):Nat):Int)=((widthN ((l.drop off).take zn[i]):Nat):Int):=wrapu64 (by omega)
    have hput2:F_r2_Writer_Put ((putL (IntKind.wrap .u64 p.2.1[i]) 5 L,()),(((widthN ((l.drop off).take zn[i]):Nat):Int),(5:Int)))=some (putE ((widthN ((l.drop off).take zn[i]):Nat):Int) 5,(putL ((widthN ((l.drop off).take zn[i]):Nat):Int) 5 (putL (IntKind.wrap .u64 p.2.1[i]) 5 L),())):=ref_Put_eq (n:=5) (by omega) (by omega)
    have hraw:=ref_PutSigned_eq (l:=(l.drop off).take zn[i]) (L:=putL ((widthN ((l.drop off).take zn[i]):Nat):Int) 5 (putL (IntKind.wrap .u64 p.2.1[i]) 5 L)) (n:=widthN ((l.drop off).take zn[i])) (by omega) (by omega) (by omega)
    simp only [F_r8_PartsPut_l0,h0,h1,castZ_get hlt,eo,h2,h3,h4,h5,cond_true,Bool.and_self,Int.toNat_natCast,gidx_get hki,Option.bind_some,hput,hne,epart,hsw,ew,hput2,hraw,wrap_succ (show i<1000000 by omega),partL,if_pos h31]
   ·have hne:(p.2.1[i]==31)=false:=by simp [h31]
    simp only [kB,Bool.or_eq_true,Bool.and_eq_true,decide_eq_true_eq,beq_iff_eq] at hkb
    obtain ⟨K,hK⟩:=Int.eq_ofNat_of_zero_le (show 0≤p.2.1[i] by omega)
    have hrice:=ref_RicePut_eq (k:=K) (l:=(l.drop off).take zn[i]) (L:=putL (IntKind.wrap .u64 p.2.1[i]) 5 L) (by omega) (by omega) hwp (by omega)
    rw [←hK] at hrice
    have eK:K=p.2.1[i].toNat:=by rw [hK,Int.toNat_natCast]
    simp only [F_r8_PartsPut_l0,h0,h1,castZ_get hlt,eo,h2,h3,h4,h5,cond_true,cond_false,Bool.and_self,Int.toNat_natCast,gidx_get hki,Option.bind_some,hput,hne,epart,hrice,wrap_succ (show i<1000000 by omega),partL,if_neg h31,eK]
  rw [iter_step goal]
  exact ref_parts_put_loop hk hall hz hw hl5 j (i+1) (off+zn[i]) _ (by omega) (by omega) (by omega)
end Go.Ab
namespace Go.Ab
theorem rice_Cost_some {k:Nat} (hk:k≤25) {x:Int} (hw:wideB x=true):∃ c,F_rice_Cost ((k:Int),x)=some c∧0≤c∧c≤65:=by
 have hy:=foldN_lt hw
 have eq:gshr .u64 ((foldN x:Nat):Int) (k:Int)=((foldN x / 2^k:Nat):Int):=gshru_nat (by omega)
 have ew:IntKind.wrap .i64 ((foldN x / 2^k:Nat):Int)=((foldN x / 2^k:Nat):Int):=wrap_nat (Nat.lt_of_le_of_lt (Nat.div_le_self _ _) hy)
 have hk0:decide ((k:Int)<0)=false:=by simp
 unfold F_rice_Cost
 simp only [rice_parameter_eq hk,rice_wide_eq,hw,Option.bind_some,Bool.not_true,cond_false,rice_Fold_eq hw,hk0,eq,ew]
 generalize foldN x / 2^k=q
 by_cases hq:q<32
 ·have hd:decide ((q:Int)<32)=true:=decide_eq_true (by omega)
  refine ⟨(q:Int)+1+k,?_,by omega,by omega⟩
  simp only [hd,cond_true]
  rw [wrap64 (n:=(q:Int)+1) (by omega),wrap64 (by omega)]
 ·have hd:decide ((q:Int)<32)=false:=decide_eq_false (by omega)
  exact ⟨65,by simp only [hd,cond_false],by omega,by omega⟩
theorem ref_RiceCost_some {k:Nat} (hk:k≤25) {x:Int} (hw:wideB x=true):∃ c,F_r8_RiceCost ((k:Int),x)=some c∧0≤c∧c≤65:=by
 have hy:=foldN_lt hw
 have eq:gshr .u64 ((foldN x:Nat):Int) (k:Int)=((foldN x / 2^k:Nat):Int):=gshru_nat (by omega)
 have ew:IntKind.wrap .i64 ((foldN x / 2^k:Nat):Int)=((foldN x / 2^k:Nat):Int):=wrap_nat (Nat.lt_of_le_of_lt (Nat.div_le_self _ _) hy)
 have eu:IntKind.wrap .u64 (k:Int)=(k:Int):=wrapu64 (by omega)
 have hk0:decide ((k:Int)<0)=false:=by simp
 unfold F_r8_RiceCost
 simp only [ref_parameter_eq hk,ref_Wide_eq,hw,Option.bind_some,Bool.not_true,cond_false,ref_Fold_eq hw,eu,hk0,eq,ew]
 generalize foldN x / 2^k=q
 by_cases hq:q<32
 ·have hd:decide ((q:Int)<32)=true:=decide_eq_true (by omega)
  refine ⟨(q:Int)+1+k,?_,by omega,by omega⟩
  simp only [hd,cond_true]
  rw [wrap64 (n:=(q:Int)+1) (by omega),wrap64 (by omega)]
 ·have hd:decide ((q:Int)<32)=false:=decide_eq_false (by omega)
  exact ⟨65,by simp only [hd,cond_false],by omega,by omega⟩
theorem rice_Sum_some {k:Nat} (hk:k≤25) {l:List Int} (hw:l.all wideB=true) (hl:l.length<10000):∃ c,F_rice_Sum ((k:Int),l)=some c∧0≤c∧c≤65*l.length:=by
 have key:∀ (j i:Nat) (c:Int),i+j=l.length→0≤c→c≤65*i→∃ c',iter F_rice_Sum_l0 ((k:Int),(c,(l,((l.length:Int),((i:Int),())))))=some (c',())∧0≤c'∧c'≤65*l.length:=by
  intro j
  induction j with
  |zero=>
   intro i c hi h0 h1
   obtain rfl:i=l.length:=by omega
   exact ⟨c,iter_done (by simp [F_rice_Sum_l0]),h0,h1⟩
  |succ j ih=>
   intro i c hi h0 h1
   have hlt:i<l.length:=by omega
   obtain ⟨d,hd,hd0,hd1⟩:=rice_Cost_some hk (List.all_eq_true.1 hw _ (List.getElem_mem hlt))
   have e:IntKind.wrap .i64 (c+d)=c+d:=wrap64 (by omega)
   rw [iter_step (s':=((k:Int),(c+d,(l,((l.length:Int),(((i+1:Nat):Int),())))))) (by simp only [F_rice_Sum_l0,dlt hlt,cond_true,gidx_get hlt,Option.bind_some,hd,e,wrap_succ (show i<1000000 by omega)])]
   exact ih (i+1) _ (by omega) (by omega) (by omega)
 obtain ⟨c,h1,h2,h3⟩:=key l.length 0 0 (by omega) (by omega) (by omega)
 simp only [Int.natCast_zero] at h1
 exact ⟨c,by unfold F_rice_Sum;simp only [h1,Option.bind_some],h2,h3⟩
theorem ref_RiceSum_some {k:Nat} (hk:k≤25) {l:List Int} (hw:l.all wideB=true) (hl:l.length<10000):∃ c,F_r8_RiceSum ((k:Int),l)=some c∧0≤c∧c≤65*l.length:=by
 have key:∀ (j i:Nat) (c:Int),i+j=l.length→0≤c→c≤65*i→∃ c',iter F_r8_RiceSum_l0 ((k:Int),(l,(c,((i:Int),()))))=some (c',())∧0≤c'∧c'≤65*l.length:=by
  intro j
  induction j with
  |zero=>
   intro i c hi h0 h1
   obtain rfl:i=l.length:=by omega
   exact ⟨c,iter_done (by simp [F_r8_RiceSum_l0]),h0,h1⟩
  |succ j ih=>
   intro i c hi h0 h1
   have hlt:i<l.length:=by omega
   obtain ⟨d,hd,hd0,hd1⟩:=ref_RiceCost_some hk (List.all_eq_true.1 hw _ (List.getElem_mem hlt))
   have e:IntKind.wrap .i64 (c+d)=c+d:=wrap64 (by omega)
   rw [iter_step (s':=((k:Int),(l,(c+d,(((i+1:Nat):Int),()))))) (by simp only [F_r8_RiceSum_l0,dlt hlt,cond_true,gidx_get hlt,Option.bind_some,hd,e,wrap_succ (show i<1000000 by omega)])]
   exact ih (i+1) _ (by omega) (by omega) (by omega)
 obtain ⟨c,h1,h2,h3⟩:=key l.length 0 0 (by omega) (by omega) (by omega)
 simp only [Int.natCast_zero] at h1
 exact ⟨c,by unfold F_r8_RiceSum;simp only [h1,Option.bind_some],h2,h3⟩
theorem mul_width {w n:Nat} (hw:w≤32) (hn:n<10000):0≤(w:Int)*(n:Int)∧(w:Int)*(n:Int)≤32*n:=by
 have h:w*n≤32*n:=Nat.mul_le_mul_right _ hw
 have e:(w:Int)*(n:Int)=((w*n:Nat):Int):=by rw [Int.natCast_mul]
 omega
theorem parts_raw_some {l:List Int} (hl:l.length<10000):∃ c,F_parts_raw l=some c∧0≤c∧c≤5+32*l.length:=by
 have hm:=mul_width (widthN_le l) hl
 refine ⟨5+((widthN l:Nat):Int)*((l.length:Nat):Int),?_,by omega,by omega⟩
 unfold F_parts_raw
 simp only [sample_Width_eq (show short l by unfold short;omega),Option.bind_some]
 rw [wrap64 (n:=((widthN l:Nat):Int)*((l.length:Nat):Int)) (by omega),wrap64 (by omega)]
theorem parts_cost_loop {zn:List Nat} {p:Prt} (hk:p.2.1.length=zn.length) (hall:p.2.1.all kB=true) (hz:zn.length≤256):∀ (j i:Nat) (l:List Int) (c:Int),i+j=zn.length→(zn.drop i).sum=l.length→l.all wideB=true→l.length≤5000→4≤c→c+10*j+65*l.length<1000000→
  ∃ c',iter F_parts_Cost_l0 (l,(c,((zn.length:Int),((i:Int),(castZ zn,(p,()))))))=some (c',())∧4≤c'
 |0,i,l,c,hi,_,_,_,hc,_=>by
  obtain rfl:i=zn.length:=by omega
  exact ⟨c,iter_done (by simp [F_parts_Cost_l0]),hc⟩
 |j+1,i,l,c,hi,hsum,hw,hl5,hc,hb=>by
  have hlt:i<zn.length:=by omega
  have hki:i<p.2.1.length:=by omega
  have hkb:=List.all_eq_true.1 hall _ (List.getElem_mem hki)
  rw [sum_drop hlt] at hsum
  have h0:decide ((0:Int)≤(i:Int))=true:=by simp
  have h1:decide ((i:Int)<(((castZ zn).length:Nat):Int))=true:=by rw [castZ_length];simp;omega
  have h2:decide ((0:Int)≤((zn[i]:Nat):Int))=true:=by simp
  have h3:decide (((zn[i]:Nat):Int)≤((l.length:Nat):Int))=true:=by simp;omega
  have hpart:(l.take zn[i]).length=zn[i]:=by rw [List.length_take];omega
  have hrest:(l.drop zn[i]).length=(zn.drop (i+1)).sum:=by rw [List.length_drop];omega
  have hwp:(l.take zn[i]).all wideB=true:=List.all_eq_true.2 fun x hx=>List.all_eq_true.1 hw x (List.mem_of_mem_take hx)
  have hwr:(l.drop zn[i]).all wideB=true:=List.all_eq_true.2 fun x hx=>List.all_eq_true.1 hw x (List.mem_of_mem_drop hx)
  have goal:∃ d,F_parts_Cost_l0 (l,(c,((zn.length:Int),((i:Int),(castZ zn,(p,()))))))=some (.inl (l.drop zn[i],(c+d,((zn.length:Int),(((i+1:Nat):Int),(castZ zn,(p,())))))))∧0≤d∧d≤10+65*zn[i]:=by
   by_cases h31:p.2.1[i]=31
   ·have hne:(p.2.1[i]==31)=true:=by rw [h31];rfl
    obtain ⟨r,hr,hr0,hr1⟩:=parts_raw_some (l:=l.take zn[i]) (by omega)
    have e1:IntKind.wrap .i64 (5+r)=5+r:=wrap64 (by omega)
    have e2:IntKind.wrap .i64 (c+(5+r))=c+(5+r):=wrap64 (by omega)
    refine ⟨5+r,?_,by omega,by omega⟩
    simp only [F_parts_Cost_l0,dlt hlt,h0,h1,castZ_get hlt,h2,h3,cond_true,Bool.and_self,Int.toNat_natCast,gidx_get hki,Option.bind_some,hne,hr,e1,e2,List.take_length,wrap_succ (show i<1000000 by omega)]
   ·have hne:(p.2.1[i]==31)=false:=by simp [h31]
    simp only [kB,Bool.or_eq_true,Bool.and_eq_true,decide_eq_true_eq,beq_iff_eq] at hkb
    obtain ⟨K,hK⟩:=Int.eq_ofNat_of_zero_le (show 0≤p.2.1[i] by omega)
    obtain ⟨r,hr,hr0,hr1⟩:=rice_Sum_some (k:=K) (by omega) hwp (by omega)
    rw [←hK] at hr
    have e1:IntKind.wrap .i64 (5+r)=5+r:=wrap64 (by omega)
    have e2:IntKind.wrap .i64 (c+(5+r))=c+(5+r):=wrap64 (by omega)
    refine ⟨5+r,?_,by omega,by omega⟩
    simp only [F_parts_Cost_l0,dlt hlt,h0,h1,castZ_get hlt,h2,h3,cond_true,cond_false,Bool.and_self,Int.toNat_natCast,gidx_get hki,Option.bind_some,hne,hr,e1,e2,List.take_length,wrap_succ (show i<1000000 by omega)]
  obtain ⟨d,hd,hd0,hd1⟩:=goal
  rw [iter_step hd]
  exact parts_cost_loop hk hall hz j (i+1) (l.drop zn[i]) _ (by omega) hrest.symm hwr (by rw [List.length_drop];omega) (by omega) (by rw [List.length_drop];omega)
theorem ref_parts_cost_loop {zn:List Nat} {p:Prt} {l:List Int} (hk:p.2.1.length=zn.length) (hall:p.2.1.all kB=true) (hz:zn.length≤256) (hw:l.all wideB=true) (hl5:l.length≤5000):∀ (j i off:Nat) (c:Int),i+j=zn.length→off+(zn.drop i).sum=l.length→4≤c→c+10*j+65*(l.length-off:Nat)<1000000→
  ∃ c',iter F_r8_PartsCost_l0 (l,(c,((off:Int),((i:Int),(castZ zn,(p,()))))))=some (c',())∧4≤c'
 |0,i,off,c,hi,_,hc,_=>by
  obtain rfl:i=zn.length:=by omega
  exact ⟨c,iter_done (by simp [F_r8_PartsCost_l0,castZ_length]),hc⟩
 |j+1,i,off,c,hi,hsum,hc,hb=>by
  have hlt:i<zn.length:=by omega
  have hki:i<p.2.1.length:=by omega
  have hkb:=List.all_eq_true.1 hall _ (List.getElem_mem hki)
  rw [sum_drop hlt] at hsum
  have h0:decide ((0:Int)≤(i:Int))=true:=by simp
  have h1:decide ((i:Int)<(((castZ zn).length:Nat):Int))=true:=by rw [castZ_length];simp;omega
  have eo:IntKind.wrap .i64 ((off:Int)+((zn[i]:Nat):Int))=((off+zn[i]:Nat):Int):=by rw [wrap64 (by omega)];omega
  have h2:decide ((0:Int)≤((off+zn[i]:Nat):Int))=true:=by simp;omega
  have h3:decide (((off+zn[i]:Nat):Int)≤((l.length:Nat):Int))=true:=by simp only [decide_eq_true_eq];omega
  have h4:decide ((0:Int)≤(off:Int))=true:=by simp
  have h5:decide ((off:Int)≤((off+zn[i]:Nat):Int))=true:=by simp only [decide_eq_true_eq];omega
  have epart:List.drop off (List.take (off+zn[i]) l)=(l.drop off).take zn[i]:=by rw [List.drop_take];congr 1;omega
  have hpart:((l.drop off).take zn[i]).length=zn[i]:=by rw [List.length_take,List.length_drop];omega
  have hwp:((l.drop off).take zn[i]).all wideB=true:=List.all_eq_true.2 fun x hx=>List.all_eq_true.1 hw x (List.mem_of_mem_drop (List.mem_of_mem_take hx))
  have hcost:∃ d,F_r8_partCost (p.2.1[i],(l.drop off).take zn[i])=some d∧0≤d∧d≤5+65*zn[i]:=by
   unfold F_r8_partCost
   by_cases h31:p.2.1[i]=31
   ·have hne:(p.2.1[i]==31)=true:=by rw [h31];rfl
    have hm:=mul_width (widthN_le ((l.drop off).take zn[i])) (show ((l.drop off).take zn[i]).length<10000 by omega)
    refine ⟨5+((widthN ((l.drop off).take zn[i]):Nat):Int)*((((l.drop off).take zn[i]).length:Nat):Int),?_,by omega,by omega⟩
    simp only [hne,cond_true,ref_Width_eq (show short ((l.drop off).take zn[i]) by unfold short;omega),Option.bind_some]
    rw [Int.mul_comm (((((l.drop off).take zn[i]).length:Nat):Int)),wrap64 (n:=((widthN ((l.drop off).take zn[i]):Nat):Int)*((((l.drop off).take zn[i]).length:Nat):Int)) (by omega),wrap64 (by omega)]
   ·have hne:(p.2.1[i]==31)=false:=by simp [h31]
    simp only [kB,Bool.or_eq_true,Bool.and_eq_true,decide_eq_true_eq,beq_iff_eq] at hkb
    obtain ⟨K,hK⟩:=Int.eq_ofNat_of_zero_le (show 0≤p.2.1[i] by omega)
    obtain ⟨r,hr,hr0,hr1⟩:=ref_RiceSum_some (k:=K) (by omega) hwp (by omega)
    rw [←hK] at hr
    exact ⟨r,by simp only [hne,cond_false,hr,Option.bind_some],hr0,by omega⟩
  obtain ⟨d,hd,hd0,hd1⟩:=hcost
  have e1:IntKind.wrap .i64 (c+5)=c+5:=wrap64 (by omega)
  have e2:IntKind.wrap .i64 (c+5+d)=c+5+d:=wrap64 (by omega)
  rw [iter_step (s':=(l,(c+5+d,(((off+zn[i]:Nat):Int),(((i+1:Nat):Int),(castZ zn,(p,()))))))) (by
   simp only [F_r8_PartsCost_l0,h0,h1,castZ_get hlt,eo,h2,h3,h4,h5,cond_true,Bool.and_self,Int.toNat_natCast,gidx_get hki,Option.bind_some,epart,hd,e1,e2,wrap_succ (show i<1000000 by omega)])]
  exact ref_parts_cost_loop hk hall hz hw hl5 j (i+1) (off+zn[i]) _ (by omega) (by omega) (by omega) (by omega)
structure PartsOk (p:Prt) (n warm:Int) (l:List Int) (zn:List Nat):Prop where
 may:partsB p n warm=true
 sizes:sizesI p.1 n warm=castZ zn
 sum:zn.sum=l.length
 len:zn.length≤256
 ks:p.2.1.length=zn.length
 all:p.2.1.all kB=true
 wide:l.all wideB=true
 short:l.length≤5000
 row:rowB n warm=true
 rest:(l.length:Int)=n-warm
 order:0≤p.1∧p.1≤8
theorem PartsOk.of {p:Prt} {n warm:Int} {l:List Int} (h:partsB p n warm=true) (hl:(l.length:Int)=n-warm) (hw:l.all wideB=true) (h5:l.length≤5000):∃ zn,PartsOk p n warm l zn:=by
 have h':=h
 simp only [partsB,Bool.and_eq_true,Bool.not_eq_true',beq_eq_false_iff_ne,ne_eq,beq_iff_eq] at h'
 obtain ⟨h1,h2,h3⟩:=h'
 obtain ⟨zn,g1,g2,g3⟩:=sizes_facts h1
 have hr:rowB n warm=true∧0≤p.1∧p.1≤8:=by
  unfold sizesI at h1
  cases hr:(rowB n warm&&(decide (0≤p.1)&&decide (p.1≤8))) with
  |false=>rw [hr] at h1;simp at h1
  |true=>simpa using hr
 exact ⟨zn,h,g1,by omega,g3,by rw [←h2,g1,castZ_length],h3,hw,h5,hr.1,hl,hr.2⟩
theorem parts_right_eq {n warm:Int} {l:List Int} (hr:rowB n warm=true) (hl:(l.length:Int)=n-warm) (hw:l.all wideB=true) (h5:l.length≤5000):F_parts_right (n,(warm,l))=some true:=by
 have e:IntKind.wrap .i64 (n-warm)=n-warm:=by
  simp only [rowB,Bool.and_eq_true,decide_eq_true_eq] at hr
  exact wrap64 (by omega)
 have h1:(((l.length:Nat):Int) != n-warm)=false:=by rw [hl];simp
 have e2:F_parts_right_l0=F_sub_allWide_l0:=rfl
 have hs:short l:=by unfold short;omega
 have ha:=sub_allWide_eq hs
 unfold F_sub_allWide at ha
 unfold F_parts_right
 simp only [parts_row_eq,hr,Option.bind_some,Bool.not_true,cond_false,e,h1,e2]
 rw [hw] at ha
 exact ha
theorem parts_Cost_some {p:Prt} {n warm:Int} {l:List Int} {zn:List Nat} (h:PartsOk p n warm l zn):∃ c,F_parts_Cost (p,(n,(warm,l)))=some c∧4≤c:=by
 have hk:Go.Ab.short p.2.1:=by have:=h.ks;have:=h.len;unfold Go.Ab.short;omega
 have h5:=h.short
 have hz:=h.len
 obtain ⟨c,h1,h2⟩:=parts_cost_loop h.ks h.all h.len zn.length 0 l 4 (by omega) (by rw [List.drop_zero];exact h.sum) h.wide h.short (by omega) (by omega)
 simp only [Int.natCast_zero] at h1
 refine ⟨c,?_,h2⟩
 unfold F_parts_Cost
 simp only [parts_May_eq hk,h.may,parts_right_eq h.row h.rest h.wide h.short,Option.bind_some,Bool.not_true,cond_false,parts_Sizes_eq,h.sizes,castZ_length,h1]
theorem ref_PartsCost_some {p:Prt} {n warm:Int} {l:List Int} {zn:List Nat} (h:PartsOk p n warm l zn):∃ c,F_r8_PartsCost (p,(n,(warm,l)))=some c∧4≤c:=by
 have hk:Go.Ab.short p.2.1:=by have:=h.ks;have:=h.len;unfold Go.Ab.short;omega
 have hs:Go.Ab.short l:=by have:=h.short;unfold Go.Ab.short;omega
 have h5:=h.short
 have hz:=h.len
 have hr:=h.row
 simp only [rowB,Bool.and_eq_true,decide_eq_true_eq] at hr
 have e:IntKind.wrap .i64 (n-warm)=n-warm:=wrap64 (by omega)
 have he:(((l.length:Nat):Int) != n-warm)=false:=by rw [h.rest];simp
 obtain ⟨c,h1,h2⟩:=ref_parts_cost_loop h.ks h.all h.len h.wide h.short zn.length 0 0 4 (by omega) (by rw [List.drop_zero,h.sum];omega) (by omega) (by omega)
 simp only [Int.natCast_zero] at h1
 refine ⟨c,?_,h2⟩
 unfold F_r8_PartsCost
 simp only [ref_PartsMay_eq hk,h.may,Option.bind_some,Bool.not_true,cond_false,e,he,ref_AllWide_eq hs,h.wide,ref_PartsSizes_eq,h.sizes,h1]
def partsPutL (p:Prt) (zn:List Nat) (l L:List Int):List Int:=partsL zn p.2.1 l (putL (IntKind.wrap .u64 p.1) 4 L)
theorem parts_Put_eq {p:Prt} {n warm:Int} {l L:List Int} {zn:List Nat} (h:PartsOk p n warm l zn) (hL:L.length<700000000):F_parts_Put (wL L,(p,(n,(warm,l))))=some (0,wL (partsPutL p zn l L)):=by
 have h5:=h.short
 have hz:=h.len
 obtain ⟨c,hc,hc4⟩:=parts_Cost_some h
 have hne:(c==0)=false:=by simp only [beq_eq_false_iff_ne,ne_eq];omega
 have hpl:=putL_length (IntKind.wrap .u64 p.1) 4 L
 have hput:F_bits_Writer_Put (wL L,(IntKind.wrap .u64 p.1,(4:Int)))=some (putE (IntKind.wrap .u64 p.1) 4,wL (putL (IntKind.wrap .u64 p.1) 4 L)):=Put_eq (n:=4) (by omega) (by omega)
 have hloop:=parts_put_loop h.ks h.all h.len zn.length 0 l (putL (IntKind.wrap .u64 p.1) 4 L) (by omega) (by rw [List.drop_zero];exact h.sum) h.wide h.short (by omega)
 simp only [Int.natCast_zero,List.drop_zero] at hloop
 unfold F_parts_Put
 simp only [hc,Option.bind_some,hne,cond_false,hput,parts_Sizes_eq,h.sizes,castZ_length,hloop,partsPutL]
theorem ref_PartsPut_eq {p:Prt} {n warm:Int} {l L:List Int} {zn:List Nat} (h:PartsOk p n warm l zn) (hL:L.length<700000000):F_r8_PartsPut ((L,()),(p,(n,(warm,l))))=some (0,(partsPutL p zn l L,())):=by
 have h5:=h.short
 have hz:=h.len
 obtain ⟨c,hc,hc4⟩:=ref_PartsCost_some h
 have hne:(c==0)=false:=by simp only [beq_eq_false_iff_ne,ne_eq];omega
 have hpl:=putL_length (IntKind.wrap .u64 p.1) 4 L
 have hput:F_r2_Writer_Put ((L,()),(IntKind.wrap .u64 p.1,(4:Int)))=some (putE (IntKind.wrap .u64 p.1) 4,(putL (IntKind.wrap .u64 p.1) 4 L,())):=ref_Put_eq (n:=4) (by omega) (by omega)
 have hloop:=ref_parts_put_loop h.ks h.all h.len h.wide h.short zn.length 0 0 (putL (IntKind.wrap .u64 p.1) 4 L) (by omega) (by rw [List.drop_zero,h.sum];omega) (by omega)
 simp only [Int.natCast_zero,List.drop_zero] at hloop
 unfold F_r8_PartsPut
 simp only [hc,Option.bind_some,hne,cond_false,hput,ref_PartsSizes_eq,h.sizes,hloop,partsPutL]
end Go.Ab
namespace Go.Ab
theorem coefs_loop {c:List Int} {wd:Nat} (hw:wd≤32) (hc:c.length<10000):∀ (j i:Nat) (L:List Int),i+j=c.length→L.length+64*j<999990000→
  iter F_sub_putCoefs_l0 ((wd:Int),(c,((c.length:Int),((i:Int),(wL L,())))))=some (wL (putsL wd (c.drop i) L),())
 |0,i,L,hi,_=>by
  obtain rfl:i=c.length:=by omega
  rw [List.drop_length]
  exact iter_done (by simp [F_sub_putCoefs_l0,putsL])
 |j+1,i,L,hi,hb=>by
  have hlt:i<c.length:=by omega
  have hpl:=putL_length (maskS c[i] wd) wd L
  rw [List.drop_eq_getElem_cons hlt,iter_step (s':=((wd:Int),(c,((c.length:Int),(((i+1:Nat):Int),(wL (putL (maskS c[i] wd) wd L),())))))) (by
   simp only [F_sub_putCoefs_l0,dlt hlt,cond_true,gidx_get hlt,Option.bind_some,putSigned_eq (show wd≤63 by omega) (show L.length<999999000 by omega),wrap_succ (show i<1000000 by omega)])]
  exact coefs_loop hw hc j (i+1) _ (by omega) (by omega)
theorem taps_loop {t:List Int} {n wd:Int} {s:Sub} (ht:t.length=3):∀ (j i:Nat) (L:List Int),i+j=3→L.length+64*j<999990000→
  iter F_sub_Put_l0 (n,(wd,(t,((i:Int),(wL L,(s,()))))))=some (n,(wd,(wL (putsL 8 (t.drop i) L),(s,()))))
 |0,i,L,hi,_=>by
  obtain rfl:i=t.length:=by omega
  rw [List.drop_length]
  exact iter_done (by rw [ht];simp [F_sub_Put_l0,putsL])
 |j+1,i,L,hi,hb=>by
  have hlt:i<t.length:=by omega
  have h3:decide ((i:Int)<3)=true:=by simp;omega
  have hpl:=putL_length (maskS t[i] 8) 8 L
  have hps:F_sub_putSigned (wL L,(t[i],(8:Int)))=some (wL (putL (maskS t[i] 8) 8 L)):=putSigned_eq (n:=8) (by omega) (by omega)
  rw [List.drop_eq_getElem_cons hlt,iter_step (s':=(n,(wd,(t,(((i+1:Nat):Int),(wL (putL (maskS t[i] 8) 8 L),(s,()))))))) (by
   simp only [F_sub_Put_l0,h3,cond_true,gidx_get hlt,Option.bind_some,hps,wrap_succ (show i<1000000 by omega)])]
  exact taps_loop ht j (i+1) _ (by omega) (by omega)
theorem warm_loop {l:List Int} {n:Int} {wd:Nat} {s:Sub} (hw:wd≤32) (hl:l.length<10000):∀ (j i:Nat) (L:List Int),i+j=l.length→L.length+64*j<999990000→
  iter F_sub_Put_l2 (n,((wd:Int),(l,((l.length:Int),((i:Int),(wL L,(s,())))))))=some (n,(wL (putsL wd (l.drop i) L),(s,())))
 |0,i,L,hi,_=>by
  obtain rfl:i=l.length:=by omega
  rw [List.drop_length]
  exact iter_done (by simp [F_sub_Put_l2,putsL])
 |j+1,i,L,hi,hb=>by
  have hlt:i<l.length:=by omega
  have hpl:=putL_length (maskS l[i] wd) wd L
  rw [List.drop_eq_getElem_cons hlt,iter_step (s':=(n,((wd:Int),(l,((l.length:Int),(((i+1:Nat):Int),(wL (putL (maskS l[i] wd) wd L),(s,())))))))) (by
   simp only [F_sub_Put_l2,dlt hlt,cond_true,gidx_get hlt,Option.bind_some,putSigned_eq (show wd≤63 by omega) (show L.length<999999000 by omega),wrap_succ (show i<1000000 by omega)])]
  exact warm_loop hw hl j (i+1) _ (by omega) (by omega)
def stageL (s:Stg) (L:List Int):List Int:=putL (IntKind.wrap .u64 s.2.1) 4 (putL (IntKind.wrap .u64 (IntKind.wrap .i64 (s.1-1))) 5 L)
def stagesL (st:List Stg) (L:List Int):List Int:=st.foldl (fun L s=>stageL s L) L
theorem stageL_length (s:Stg) (L:List Int):(stageL s L).length≤L.length+9:=by
 have h1:=putL_length (IntKind.wrap .u64 (IntKind.wrap .i64 (s.1-1))) 5 L
 have h2:=putL_length (IntKind.wrap .u64 s.2.1) 4 (putL (IntKind.wrap .u64 (IntKind.wrap .i64 (s.1-1))) 5 L)
 unfold stageL
 omega
theorem stagesL_length:∀ (st:List Stg) (L:List Int),(stagesL st L).length≤L.length+9*st.length
 | [],L=>by simp [stagesL]
 |s::st,L=>by
  have h1:=stageL_length s L
  have h2:=stagesL_length st (stageL s L)
  have e:stagesL (s::st) L=stagesL st (stageL s L):=rfl
  rw [e,List.length_cons];omega
theorem stages_loop {st:List Stg} {n wd:Int} {s:Sub} (hs:st.length<10000):∀ (j i:Nat) (L:List Int),i+j=st.length→L.length+64*j<999990000→
  iter F_sub_Put_l1 (n,(wd,(st,((st.length:Int),((i:Int),(wL L,(s,())))))))=some (n,(wd,(wL (stagesL (st.drop i) L),(s,()))))
 |0,i,L,hi,_=>by
  obtain rfl:i=st.length:=by omega
  rw [List.drop_length]
  exact iter_done (by simp [F_sub_Put_l1,stagesL])
 |j+1,i,L,hi,hb=>by
  have hlt:i<st.length:=by omega
  have hp1:=putL_length (IntKind.wrap .u64 (IntKind.wrap .i64 (st[i].1-1))) 5 L
  have hsl:=stageL_length st[i] L
  have h1:F_bits_Writer_Put (wL L,(IntKind.wrap .u64 (IntKind.wrap .i64 (st[i].1-1)),(5:Int)))=some (putE (IntKind.wrap .u64 (IntKind.wrap .i64 (st[i].1-1))) 5,wL (putL (IntKind.wrap .u64 (IntKind.wrap .i64 (st[i].1-1))) 5 L)):=Put_eq (n:=5) (by omega) (by omega)
  have h2:F_bits_Writer_Put (wL (putL (IntKind.wrap .u64 (IntKind.wrap .i64 (st[i].1-1))) 5 L),(IntKind.wrap .u64 st[i].2.1,(4:Int)))=some (putE (IntKind.wrap .u64 st[i].2.1) 4,wL (stageL st[i] L)):=Put_eq (n:=4) (by omega) (by omega)
  rw [List.drop_eq_getElem_cons hlt,iter_step (s':=(n,(wd,(st,((st.length:Int),(((i+1:Nat):Int),(wL (stageL st[i] L),(s,())))))))) (by
   simp only [F_sub_Put_l1,dlt hlt,cond_true,gidx_get hlt,Option.bind_some,h1,h2,wrap_succ (show i<1000000 by omega)])]
  exact stages_loop hs j (i+1) _ (by omega) (by omega)
theorem ref_stages_loop {n wd:Int} {s:Sub} (hs:s.2.2.2.2.2.2.2.1.length<10000):∀ (j i:Nat) (L:List Int),i+j=s.2.2.2.2.2.2.2.1.length→L.length+64*j<999990000→
  iter F_r19_SubPut_l0 (n,(wd,((i:Int),((L,()),(s,())))))=some (n,(wd,((stagesL (s.2.2.2.2.2.2.2.1.drop i) L,()),(s,()))))
 |0,i,L,hi,_=>by
  obtain rfl:i=s.2.2.2.2.2.2.2.1.length:=by omega
  rw [List.drop_length]
  exact iter_done (by simp [F_r19_SubPut_l0,stagesL])
 |j+1,i,L,hi,hb=>by
  have hlt:i<s.2.2.2.2.2.2.2.1.length:=by omega
  have hp1:=putL_length (IntKind.wrap .u64 (IntKind.wrap .i64 (s.2.2.2.2.2.2.2.1[i].1-1))) 5 L
  have hsl:=stageL_length s.2.2.2.2.2.2.2.1[i] L
  have h1:F_r2_Writer_Put ((L,()),(IntKind.wrap .u64 (IntKind.wrap .i64 (s.2.2.2.2.2.2.2.1[i].1-1)),(5:Int)))=some (putE (IntKind.wrap .u64 (IntKind.wrap .i64 (s.2.2.2.2.2.2.2.1[i].1-1))) 5,(putL (IntKind.wrap .u64 (IntKind.wrap .i64 (s.2.2.2.2.2.2.2.1[i].1-1))) 5 L,())):=ref_Put_eq (n:=5) (by omega) (by omega)
  have h2:F_r2_Writer_Put ((putL (IntKind.wrap .u64 (IntKind.wrap .i64 (s.2.2.2.2.2.2.2.1[i].1-1))) 5 L,()),(IntKind.wrap .u64 s.2.2.2.2.2.2.2.1[i].2.1,(4:Int)))=some (putE (IntKind.wrap .u64 s.2.2.2.2.2.2.2.1[i].2.1) 4,(stageL s.2.2.2.2.2.2.2.1[i] L,())):=ref_Put_eq (n:=4) (by omega) (by omega)
  rw [List.drop_eq_getElem_cons hlt,iter_step (s':=(n,(wd,(((i+1:Nat):Int),((stageL s.2.2.2.2.2.2.2.1[i] L,()),(s,())))))) (by
   simp only [F_r19_SubPut_l0,dlt hlt,cond_true,gidx_get hlt,Option.bind_some,h1,h2,wrap_succ (show i<1000000 by omega)])]
  exact ref_stages_loop hs j (i+1) _ (by omega) (by omega)
def coefsL (s:Sub) (L:List Int):List Int:=
 putsL (widthN s.2.2.2.2.2.1) s.2.2.2.2.2.1 (putL ((widthN s.2.2.2.2.2.1:Nat):Int) 5 (putL (IntKind.wrap .u64 s.2.2.2.1) 4 (putL (IntKind.wrap .u64 (IntKind.wrap .i64 (((s.2.2.2.2.2.1.length:Nat):Int)-1))) 5 L)))
theorem coefsL_length {s:Sub} (h:s.2.2.2.2.2.1.length≤40) (L:List Int):(coefsL s L).length≤L.length+2000:=by
 unfold coefsL
 have h1:=putL_length (IntKind.wrap .u64 (IntKind.wrap .i64 (((s.2.2.2.2.2.1.length:Nat):Int)-1))) 5 L
 have h2:=putL_length (IntKind.wrap .u64 s.2.2.2.1) 4 (putL (IntKind.wrap .u64 (IntKind.wrap .i64 (((s.2.2.2.2.2.1.length:Nat):Int)-1))) 5 L)
 have h3:=putL_length ((widthN s.2.2.2.2.2.1:Nat):Int) 5 (putL (IntKind.wrap .u64 s.2.2.2.1) 4 (putL (IntKind.wrap .u64 (IntKind.wrap .i64 (((s.2.2.2.2.2.1.length:Nat):Int)-1))) 5 L))
 have h4:=putsL_length (widthN s.2.2.2.2.2.1) s.2.2.2.2.2.1 (putL ((widthN s.2.2.2.2.2.1:Nat):Int) 5 (putL (IntKind.wrap .u64 s.2.2.2.1) 4 (putL (IntKind.wrap .u64 (IntKind.wrap .i64 (((s.2.2.2.2.2.1.length:Nat):Int)-1))) 5 L)))
 have hw:=widthN_le s.2.2.2.2.2.1
 have:widthN s.2.2.2.2.2.1*s.2.2.2.2.2.1.length≤32*40:=Nat.mul_le_mul hw h
 omega
theorem putCoefs_eq {s:Sub} (h:s.2.2.2.2.2.1.length≤40) {L:List Int} (hL:L.length<900000000):F_sub_putCoefs (wL L,s)=some (wL (coefsL s L)):=by
 have h1:=putL_length (IntKind.wrap .u64 (IntKind.wrap .i64 (((s.2.2.2.2.2.1.length:Nat):Int)-1))) 5 L
 have h2:=putL_length (IntKind.wrap .u64 s.2.2.2.1) 4 (putL (IntKind.wrap .u64 (IntKind.wrap .i64 (((s.2.2.2.2.2.1.length:Nat):Int)-1))) 5 L)
 have h3:=putL_length ((widthN s.2.2.2.2.2.1:Nat):Int) 5 (putL (IntKind.wrap .u64 s.2.2.2.1) 4 (putL (IntKind.wrap .u64 (IntKind.wrap .i64 (((s.2.2.2.2.2.1.length:Nat):Int)-1))) 5 L))
 have hw:=widthN_le s.2.2.2.2.2.1
 have ew:IntKind.wrap .u64 ((widthN s.2.2.2.2.2.1:Nat):Int)=((widthN s.2.2.2.2.2.1:Nat):Int):=wrapu64 (by omega)
 have p1:F_bits_Writer_Put (wL L,(IntKind.wrap .u64 (IntKind.wrap .i64 (((s.2.2.2.2.2.1.length:Nat):Int)-1)),(5:Int)))=some (putE (IntKind.wrap .u64 (IntKind.wrap .i64 (((s.2.2.2.2.2.1.length:Nat):Int)-1))) 5,wL (putL (IntKind.wrap .u64 (IntKind.wrap .i64 (((s.2.2.2.2.2.1.length:Nat):Int)-1))) 5 L)):=Put_eq (n:=5) (by omega) (by omega)
 have p2:F_bits_Writer_Put (wL (putL (IntKind.wrap .u64 (IntKind.wrap .i64 (((s.2.2.2.2.2.1.length:Nat):Int)-1))) 5 L),(IntKind.wrap .u64 s.2.2.2.1,(4:Int)))=some (putE (IntKind.wrap .u64 s.2.2.2.1) 4,wL (putL (IntKind.wrap .u64 s.2.2.2.1) 4 (putL (IntKind.wrap .u64 (IntKind.wrap .i64 (((s.2.2.2.2.2.1.length:Nat):Int)-1))) 5 L))):=Put_eq (n:=4) (by omega) (by omega)
 have p3:F_bits_Writer_Put (wL (putL (IntKind.wrap .u64 s.2.2.2.1) 4 (putL (IntKind.wrap .u64 (IntKind.wrap .i64 (((s.2.2.2.2.2.1.length:Nat):Int)-1))) 5 L)),(((widthN s.2.2.2.2.2.1:Nat):Int),(5:Int)))=some (putE ((widthN s.2.2.2.2.2.1:Nat):Int) 5,wL (putL ((widthN s.2.2.2.2.2.1:Nat):Int) 5 (putL (IntKind.wrap .u64 s.2.2.2.1) 4 (putL (IntKind.wrap .u64 (IntKind.wrap .i64 (((s.2.2.2.2.2.1.length:Nat):Int)-1))) 5 L)))):=Put_eq (n:=5) (by omega) (by omega)
 have hlp:=coefs_loop (c:=s.2.2.2.2.2.1) hw (by omega) s.2.2.2.2.2.1.length 0 (putL ((widthN s.2.2.2.2.2.1:Nat):Int) 5 (putL (IntKind.wrap .u64 s.2.2.2.1) 4 (putL (IntKind.wrap .u64 (IntKind.wrap .i64 (((s.2.2.2.2.2.1.length:Nat):Int)-1))) 5 L))) (by omega) (by omega)
 simp only [Int.natCast_zero,List.drop_zero] at hlp
 unfold F_sub_putCoefs
 simp only [p1,p2,sample_Width_eq (show short s.2.2.2.2.2.1 by unfold short;omega),ew,p3,hlp,Option.bind_some,coefsL]
theorem ref_putLinear_eq {s:Sub} (h:s.2.2.2.2.2.1.length≤40) {L:List Int} (hL:L.length<800000000):F_r19_putLinear ((L,()),s)=some (coefsL s L,()):=by
 have h1:=putL_length (IntKind.wrap .u64 (IntKind.wrap .i64 (((s.2.2.2.2.2.1.length:Nat):Int)-1))) 5 L
 have h2:=putL_length (IntKind.wrap .u64 s.2.2.2.1) 4 (putL (IntKind.wrap .u64 (IntKind.wrap .i64 (((s.2.2.2.2.2.1.length:Nat):Int)-1))) 5 L)
 have h3:=putL_length ((widthN s.2.2.2.2.2.1:Nat):Int) 5 (putL (IntKind.wrap .u64 s.2.2.2.1) 4 (putL (IntKind.wrap .u64 (IntKind.wrap .i64 (((s.2.2.2.2.2.1.length:Nat):Int)-1))) 5 L))
 have hw:=widthN_le s.2.2.2.2.2.1
 have ew:IntKind.wrap .u64 ((widthN s.2.2.2.2.2.1:Nat):Int)=((widthN s.2.2.2.2.2.1:Nat):Int):=wrapu64 (by omega)
 have p1:F_r2_Writer_Put ((L,()),(IntKind.wrap .u64 (IntKind.wrap .i64 (((s.2.2.2.2.2.1.length:Nat):Int)-1)),(5:Int)))=some (putE (IntKind.wrap .u64 (IntKind.wrap .i64 (((s.2.2.2.2.2.1.length:Nat):Int)-1))) 5,(putL (IntKind.wrap .u64 (IntKind.wrap .i64 (((s.2.2.2.2.2.1.length:Nat):Int)-1))) 5 L,())):=ref_Put_eq (n:=5) (by omega) (by omega)
 have p2:F_r2_Writer_Put ((putL (IntKind.wrap .u64 (IntKind.wrap .i64 (((s.2.2.2.2.2.1.length:Nat):Int)-1))) 5 L,()),(IntKind.wrap .u64 s.2.2.2.1,(4:Int)))=some (putE (IntKind.wrap .u64 s.2.2.2.1) 4,(putL (IntKind.wrap .u64 s.2.2.2.1) 4 (putL (IntKind.wrap .u64 (IntKind.wrap .i64 (((s.2.2.2.2.2.1.length:Nat):Int)-1))) 5 L),())):=ref_Put_eq (n:=4) (by omega) (by omega)
 have p3:F_r2_Writer_Put ((putL (IntKind.wrap .u64 s.2.2.2.1) 4 (putL (IntKind.wrap .u64 (IntKind.wrap .i64 (((s.2.2.2.2.2.1.length:Nat):Int)-1))) 5 L),()),(((widthN s.2.2.2.2.2.1:Nat):Int),(5:Int)))=some (putE ((widthN s.2.2.2.2.2.1:Nat):Int) 5,(putL ((widthN s.2.2.2.2.2.1:Nat):Int) 5 (putL (IntKind.wrap .u64 s.2.2.2.1) 4 (putL (IntKind.wrap .u64 (IntKind.wrap .i64 (((s.2.2.2.2.2.1.length:Nat):Int)-1))) 5 L)),())):=ref_Put_eq (n:=5) (by omega) (by omega)
 have hlp:=ref_PutSigned_eq (l:=s.2.2.2.2.2.1) (n:=widthN s.2.2.2.2.2.1) (L:=putL ((widthN s.2.2.2.2.2.1:Nat):Int) 5 (putL (IntKind.wrap .u64 s.2.2.2.1) 4 (putL (IntKind.wrap .u64 (IntKind.wrap .i64 (((s.2.2.2.2.2.1.length:Nat):Int)-1))) 5 L))) (by omega) (by omega) (by omega)
 unfold F_r19_putLinear
 simp only [p1,p2,ref_Width_eq (show short s.2.2.2.2.2.1 by unfold short;omega),ew,p3,hlp,Option.bind_some,coefsL]
def headL (s:Sub) (L:List Int):List Int:=
 putL ((widthN s.2.2.2.2.2.2.2.2.1:Nat):Int) 5 (putL (IntKind.wrap .u64 s.2.1) 5 (putL (IntKind.wrap .u64 s.1) 3 L))
def kindL (s:Sub) (L:List Int):List Int:=
 if s.1=2 then putL (IntKind.wrap .u64 s.2.2.1) 3 L
 else if s.1=3 then coefsL s L
 else if s.1=4 then coefsL s (putsL 8 s.2.2.2.2.2.2.1 (putL (IntKind.wrap .u64 (IntKind.wrap .i64 (s.2.2.2.2.1-1))) 10 L))
 else if s.1=5 then stagesL s.2.2.2.2.2.2.2.1 (putL (IntKind.wrap .u64 ((s.2.2.2.2.2.2.2.1.length:Nat):Int)) 2 L)
 else L
theorem kindL_length {s:Sub} (h:SmallS s) (L:List Int):(kindL s L).length≤L.length+3000:=by
 have hc:=h.coefs
 have ht:=h.taps
 have hst:=h.stages
 unfold kindL
 split
 ·have:=putL_length (IntKind.wrap .u64 s.2.2.1) 3 L;omega
 ·split
  ·have:=coefsL_length hc L;omega
  ·split
   ·have h1:=putL_length (IntKind.wrap .u64 (IntKind.wrap .i64 (s.2.2.2.2.1-1))) 10 L
    have h2:=putsL_length 8 s.2.2.2.2.2.2.1 (putL (IntKind.wrap .u64 (IntKind.wrap .i64 (s.2.2.2.2.1-1))) 10 L)
    have h3:=coefsL_length hc (putsL 8 s.2.2.2.2.2.2.1 (putL (IntKind.wrap .u64 (IntKind.wrap .i64 (s.2.2.2.2.1-1))) 10 L))
    omega
   ·split
    ·have h1:=putL_length (IntKind.wrap .u64 ((s.2.2.2.2.2.2.2.1.length:Nat):Int)) 2 L
     have h2:=stagesL_length s.2.2.2.2.2.2.2.1 (putL (IntKind.wrap .u64 ((s.2.2.2.2.2.2.2.1.length:Nat):Int)) 2 L)
     omega
    ·omega
theorem partsL_length:∀ (zs:List Nat) (ks l L:List Int),ks.all kB=true→(partsL zs ks l L).length≤L.length+10*zs.length+100*l.length
 |z::zs,k::ks,l,L,h=>by
  simp only [List.all_cons,Bool.and_eq_true] at h
  have h1:=partL_length h.1 (l.take z) L
  have h2:=partsL_length zs ks (l.drop z) (partL k (l.take z) L) h.2
  rw [List.length_take] at h1
  rw [List.length_drop] at h2
  simp only [partsL,List.length_cons]
  omega
 | [],_,_,_,_=>by simp only [partsL];omega
 |_::_,[],_,_,_=>by simp only [partsL];omega
theorem both_Put {s:Sub} (h:SmallS s) {n:Int} {L:List Int} (hL:L.length<1000):
  ∃ (e:Int) (L':List Int),F_sub_Put (wL L,(s,n))=some (e,wL L')∧F_r19_SubPut ((L,()),(s,n))=some (e,(L',()))∧(e=0∨L'=L)∧L'.length<100000:=by
 unfold F_sub_Put F_r19_SubPut
 simp only [sub_May_eq h,ref_SubMay_eq h,Option.bind_some]
 cases hs:(subO s n).isSome with
 |false=>exact ⟨1,L,rfl,rfl,.inr rfl,by omega⟩
 |true=>
  have hp:statedP s n:=by
   unfold subO at hs
   split at hs
   ·assumption
   ·cases hs
  obtain ⟨h1,h2,hf,-,-,-,-,hlen,hww,hrw,-,hparts⟩:=hp
  have hkind:=fitP_kind hf
  have hwd:=widthN_le s.2.2.2.2.2.2.2.2.1
  have hsw:short s.2.2.2.2.2.2.2.2.1:=by have:=h.warm;unfold short;omega
  have hwarm:=h.warm
  have hrest:=h.rest
  have hst:=h.stages
  have ht:=h.taps
  have q1:=putL_length (IntKind.wrap .u64 s.1) 3 L
  have q2:=putL_length (IntKind.wrap .u64 s.2.1) 5 (putL (IntKind.wrap .u64 s.1) 3 L)
  have q3:=putL_length ((widthN s.2.2.2.2.2.2.2.2.1:Nat):Int) 5 (putL (IntKind.wrap .u64 s.2.1) 5 (putL (IntKind.wrap .u64 s.1) 3 L))
  have ew:IntKind.wrap .u64 ((widthN s.2.2.2.2.2.2.2.2.1:Nat):Int)=((widthN s.2.2.2.2.2.2.2.2.1:Nat):Int):=wrapu64 (by omega)
  have p1:F_bits_Writer_Put (wL L,(IntKind.wrap .u64 s.1,(3:Int)))=some (putE (IntKind.wrap .u64 s.1) 3,wL (putL (IntKind.wrap .u64 s.1) 3 L)):=Put_eq (n:=3) (by omega) (by omega)
  have p2:F_bits_Writer_Put (wL (putL (IntKind.wrap .u64 s.1) 3 L),(IntKind.wrap .u64 s.2.1,(5:Int)))=some (putE (IntKind.wrap .u64 s.2.1) 5,wL (putL (IntKind.wrap .u64 s.2.1) 5 (putL (IntKind.wrap .u64 s.1) 3 L))):=Put_eq (n:=5) (by omega) (by omega)
  have p3:F_bits_Writer_Put (wL (putL (IntKind.wrap .u64 s.2.1) 5 (putL (IntKind.wrap .u64 s.1) 3 L)),(((widthN s.2.2.2.2.2.2.2.2.1:Nat):Int),(5:Int)))=some (putE ((widthN s.2.2.2.2.2.2.2.2.1:Nat):Int) 5,wL (headL s L)):=Put_eq (n:=5) (by omega) (by omega)
  have r1:F_r2_Writer_Put ((L,()),(IntKind.wrap .u64 s.1,(3:Int)))=some (putE (IntKind.wrap .u64 s.1) 3,(putL (IntKind.wrap .u64 s.1) 3 L,())):=ref_Put_eq (n:=3) (by omega) (by omega)
  have r2:F_r2_Writer_Put ((putL (IntKind.wrap .u64 s.1) 3 L,()),(IntKind.wrap .u64 s.2.1,(5:Int)))=some (putE (IntKind.wrap .u64 s.2.1) 5,(putL (IntKind.wrap .u64 s.2.1) 5 (putL (IntKind.wrap .u64 s.1) 3 L),())):=ref_Put_eq (n:=5) (by omega) (by omega)
  have r3:F_r2_Writer_Put ((putL (IntKind.wrap .u64 s.2.1) 5 (putL (IntKind.wrap .u64 s.1) 3 L),()),(((widthN s.2.2.2.2.2.2.2.2.1:Nat):Int),(5:Int)))=some (putE ((widthN s.2.2.2.2.2.2.2.2.1:Nat):Int) 5,(headL s L,())):=ref_Put_eq (n:=5) (by omega) (by omega)
  have q4:(headL s L).length≤L.length+13:=by unfold headL;omega
  generalize headL s L=M at p3 r3 q4
  have q5:=kindL_length h M
  have q6:=putsL_length (widthN s.2.2.2.2.2.2.2.2.1) s.2.2.2.2.2.2.2.2.1 (kindL s M)
  have q7:widthN s.2.2.2.2.2.2.2.2.1*s.2.2.2.2.2.2.2.2.1.length≤32*200:=Nat.mul_le_mul hwd hwarm
  have hwl:=warm_loop (l:=s.2.2.2.2.2.2.2.2.1) (n:=n) (s:=s) hwd (by omega) s.2.2.2.2.2.2.2.2.1.length 0 (kindL s M) (by omega) (by omega)
  have hrl:=ref_PutSigned_eq (l:=s.2.2.2.2.2.2.2.2.1) (n:=widthN s.2.2.2.2.2.2.2.2.1) (L:=kindL s M) (by omega) (by omega) (by omega)
  simp only [Int.natCast_zero,List.drop_zero] at hwl

  have hsl:=stages_loop (st:=s.2.2.2.2.2.2.2.1) (n:=n) (wd:=((widthN s.2.2.2.2.2.2.2.2.1:Nat):Int)) (s:=s) (by omega) s.2.2.2.2.2.2.2.1.length 0 (putL (IntKind.wrap .u64 ((s.2.2.2.2.2.2.2.1.length:Nat):Int)) 2 M) (by omega) (by have:=putL_length (IntKind.wrap .u64 ((s.2.2.2.2.2.2.2.1.length:Nat):Int)) 2 M;omega)
  have hrsl:=ref_stages_loop (n:=n) (wd:=((widthN s.2.2.2.2.2.2.2.2.1:Nat):Int)) (s:=s) (by omega) s.2.2.2.2.2.2.2.1.length 0 (putL (IntKind.wrap .u64 ((s.2.2.2.2.2.2.2.1.length:Nat):Int)) 2 M) (by omega) (by have:=putL_length (IntKind.wrap .u64 ((s.2.2.2.2.2.2.2.1.length:Nat):Int)) 2 M;omega)
  have q8:=putL_length (IntKind.wrap .u64 (IntKind.wrap .i64 (s.2.2.2.2.1-1))) 10 M
  have q9:=putsL_length 8 s.2.2.2.2.2.2.1 (putL (IntKind.wrap .u64 (IntKind.wrap .i64 (s.2.2.2.2.1-1))) 10 M)
  have htl:=taps_loop (t:=s.2.2.2.2.2.2.1) (n:=n) (wd:=((widthN s.2.2.2.2.2.2.2.2.1:Nat):Int)) (s:=s) ht 3 0 (putL (IntKind.wrap .u64 (IntKind.wrap .i64 (s.2.2.2.2.1-1))) 10 M) (by omega) (by omega)
  have hrtl:F_r8_PutSigned ((putL (IntKind.wrap .u64 (IntKind.wrap .i64 (s.2.2.2.2.1-1))) 10 M,()),(s.2.2.2.2.2.2.1,(8:Int)))=some (putsL 8 s.2.2.2.2.2.2.1 (putL (IntKind.wrap .u64 (IntKind.wrap .i64 (s.2.2.2.2.1-1))) 10 M),()):=ref_PutSigned_eq (n:=8) (by omega) (by omega) (by omega)
  have etk:List.take 3 s.2.2.2.2.2.2.1=s.2.2.2.2.2.2.1:=List.take_of_length_le (by omega)
  simp only [Int.natCast_zero,List.drop_zero] at hsl hrsl htl
  have k2:F_bits_Writer_Put (wL M,(IntKind.wrap .u64 s.2.2.1,(3:Int)))=some (putE (IntKind.wrap .u64 s.2.2.1) 3,wL (putL (IntKind.wrap .u64 s.2.2.1) 3 M)):=Put_eq (n:=3) (by omega) (by omega)
  have k2r:F_r2_Writer_Put ((M,()),(IntKind.wrap .u64 s.2.2.1,(3:Int)))=some (putE (IntKind.wrap .u64 s.2.2.1) 3,(putL (IntKind.wrap .u64 s.2.2.1) 3 M,())):=ref_Put_eq (n:=3) (by omega) (by omega)
  have k4:F_bits_Writer_Put (wL M,(IntKind.wrap .u64 (IntKind.wrap .i64 (s.2.2.2.2.1-1)),(10:Int)))=some (putE (IntKind.wrap .u64 (IntKind.wrap .i64 (s.2.2.2.2.1-1))) 10,wL (putL (IntKind.wrap .u64 (IntKind.wrap .i64 (s.2.2.2.2.1-1))) 10 M)):=Put_eq (n:=10) (by omega) (by omega)
  have k4r:F_r2_Writer_Put ((M,()),(IntKind.wrap .u64 (IntKind.wrap .i64 (s.2.2.2.2.1-1)),(10:Int)))=some (putE (IntKind.wrap .u64 (IntKind.wrap .i64 (s.2.2.2.2.1-1))) 10,(putL (IntKind.wrap .u64 (IntKind.wrap .i64 (s.2.2.2.2.1-1))) 10 M,())):=ref_Put_eq (n:=10) (by omega) (by omega)
  have k5:F_bits_Writer_Put (wL M,(IntKind.wrap .u64 ((s.2.2.2.2.2.2.2.1.length:Nat):Int),(2:Int)))=some (putE (IntKind.wrap .u64 ((s.2.2.2.2.2.2.2.1.length:Nat):Int)) 2,wL (putL (IntKind.wrap .u64 ((s.2.2.2.2.2.2.2.1.length:Nat):Int)) 2 M)):=Put_eq (n:=2) (by omega) (by omega)
  have k5r:F_r2_Writer_Put ((M,()),(IntKind.wrap .u64 ((s.2.2.2.2.2.2.2.1.length:Nat):Int),(2:Int)))=some (putE (IntKind.wrap .u64 ((s.2.2.2.2.2.2.2.1.length:Nat):Int)) 2,(putL (IntKind.wrap .u64 ((s.2.2.2.2.2.2.2.1.length:Nat):Int)) 2 M,())):=ref_Put_eq (n:=2) (by omega) (by omega)
  have c3:=putCoefs_eq (s:=s) h.coefs (L:=M) (by omega)
  have c3r:=ref_putLinear_eq (s:=s) h.coefs (L:=M) (by omega)
  have c4:=putCoefs_eq (s:=s) h.coefs (L:=putsL 8 s.2.2.2.2.2.2.1 (putL (IntKind.wrap .u64 (IntKind.wrap .i64 (s.2.2.2.2.1-1))) 10 M)) (by omega)
  have c4r:=ref_putLinear_eq (s:=s) h.coefs (L:=putsL 8 s.2.2.2.2.2.2.1 (putL (IntKind.wrap .u64 (IntKind.wrap .i64 (s.2.2.2.2.1-1))) 10 M)) (by omega)
  simp only [Bool.not_true,cond_false,sample_Width_eq hsw,ref_Width_eq hsw,Option.bind_some,p1,p2,ew,p3,r1,r2,r3]
  generalize hPM:putsL (widthN s.2.2.2.2.2.2.2.2.1) s.2.2.2.2.2.2.2.2.1 (kindL s M)=PM at hwl hrl q6

  have tail:∀ (hk01:s.1≠0∧s.1≠1),∃ zn,PartsOk s.2.2.2.2.2.2.2.2.2.1 n ((s.2.2.2.2.2.2.2.2.1.length:Nat):Int) s.2.2.2.2.2.2.2.2.2.2.1 zn:=fun hk01=>by
   obtain ⟨g1,g2⟩:=hparts hk01
   rw [←hlen] at g1 g2
   exact PartsOk.of g2 g1 hrw (by omega)
  rcases hkind with k|k|k|k|k|k
  ·have kl:kindL s M=M:=by unfold kindL;simp [k]
   rw [kl] at hwl hrl
   refine ⟨0,PM,?_,?_,.inl rfl,by omega⟩
   ·simp only [k,show ((0:Int)==2)=false from rfl,show ((0:Int)==4)=false from rfl,show ((0:Int)==3)=false from rfl,show ((0:Int)==5)=false from rfl,cond_false,Option.bind_some,hwl,rested_eq]
    simp
   ·simp only [k,show ((0:Int)==2)=false from rfl,show ((0:Int)==4)=false from rfl,show ((0:Int)==3)=false from rfl,show ((0:Int)==5)=false from rfl,cond_false,Option.bind_some,hrl,guessed_eq]
    simp
  ·have kl:kindL s M=M:=by unfold kindL;simp [k]
   rw [kl] at hwl hrl
   refine ⟨0,PM,?_,?_,.inl rfl,by omega⟩
   ·simp only [k,show ((1:Int)==2)=false from rfl,show ((1:Int)==4)=false from rfl,show ((1:Int)==3)=false from rfl,show ((1:Int)==5)=false from rfl,cond_false,Option.bind_some,hwl,rested_eq]
    simp
   ·simp only [k,show ((1:Int)==2)=false from rfl,show ((1:Int)==4)=false from rfl,show ((1:Int)==3)=false from rfl,show ((1:Int)==5)=false from rfl,cond_false,Option.bind_some,hrl,guessed_eq]
    simp
  all_goals
   obtain ⟨zn,hz⟩:=tail (by omega)
   have t1:=parts_Put_eq (L:=PM) hz (by omega)
   have t2:=ref_PartsPut_eq (L:=PM) hz (by omega)
   have t3:(partsPutL s.2.2.2.2.2.2.2.2.2.1 zn s.2.2.2.2.2.2.2.2.2.2.1 PM).length<100000:=by
    have z1:=putL_length (IntKind.wrap .u64 s.2.2.2.2.2.2.2.2.2.1.1) 4 PM
    have z2:=partsL_length zn s.2.2.2.2.2.2.2.2.2.1.2.1 s.2.2.2.2.2.2.2.2.2.2.1 (putL (IntKind.wrap .u64 s.2.2.2.2.2.2.2.2.2.1.1) 4 PM) hz.all
    have z3:=hz.len
    unfold partsPutL
    omega
   refine ⟨0,partsPutL s.2.2.2.2.2.2.2.2.2.1 zn s.2.2.2.2.2.2.2.2.2.2.1 PM,?_,?_,.inl rfl,t3⟩
  ·have kl:kindL s M=putL (IntKind.wrap .u64 s.2.2.1) 3 M:=by unfold kindL;simp [k]
   rw [kl] at hwl
   simp only [k,show ((2:Int)==2)=true from rfl,cond_true,k2,Option.bind_some,hwl,rested_eq]
   simp [t1]
  ·have kl:kindL s M=putL (IntKind.wrap .u64 s.2.2.1) 3 M:=by unfold kindL;simp [k]
   rw [kl] at hrl
   simp only [k,show ((2:Int)==2)=true from rfl,cond_true,k2r,Option.bind_some,hrl,guessed_eq]
   simp [t2]
  ·have kl:kindL s M=coefsL s M:=by unfold kindL;simp [k]
   rw [kl] at hwl
   simp only [k,show ((3:Int)==2)=false from rfl,show ((3:Int)==4)=false from rfl,show ((3:Int)==3)=true from rfl,cond_true,cond_false,c3,Option.bind_some,hwl,rested_eq]
   simp [t1]
  ·have kl:kindL s M=coefsL s M:=by unfold kindL;simp [k]
   rw [kl] at hrl
   simp only [k,show ((3:Int)==2)=false from rfl,show ((3:Int)==3)=true from rfl,cond_true,cond_false,c3r,Option.bind_some,hrl,guessed_eq]
   simp [t2]
  ·have kl:kindL s M=coefsL s (putsL 8 s.2.2.2.2.2.2.1 (putL (IntKind.wrap .u64 (IntKind.wrap .i64 (s.2.2.2.2.1-1))) 10 M)):=by unfold kindL;simp [k]
   rw [kl] at hwl
   simp only [k,show ((4:Int)==2)=false from rfl,show ((4:Int)==4)=true from rfl,cond_true,cond_false,k4,htl,c4,Option.bind_some,hwl,rested_eq]
   simp [t1]
  ·have kl:kindL s M=coefsL s (putsL 8 s.2.2.2.2.2.2.1 (putL (IntKind.wrap .u64 (IntKind.wrap .i64 (s.2.2.2.2.1-1))) 10 M)):=by unfold kindL;simp [k]
   rw [kl] at hrl
   simp only [k,show ((4:Int)==2)=false from rfl,show ((4:Int)==3)=false from rfl,show ((4:Int)==4)=true from rfl,cond_true,cond_false,k4r,etk,hrtl,c4r,Option.bind_some,hrl,guessed_eq]
   simp [t2]
  ·have kl:kindL s M=stagesL s.2.2.2.2.2.2.2.1 (putL (IntKind.wrap .u64 ((s.2.2.2.2.2.2.2.1.length:Nat):Int)) 2 M):=by unfold kindL;simp [k]
   rw [kl] at hwl
   simp only [k,show ((5:Int)==2)=false from rfl,show ((5:Int)==4)=false from rfl,show ((5:Int)==3)=false from rfl,show ((5:Int)==5)=true from rfl,cond_true,cond_false,k5,hsl,Option.bind_some,hwl,rested_eq]
   simp [t1]
  ·have kl:kindL s M=stagesL s.2.2.2.2.2.2.2.1 (putL (IntKind.wrap .u64 ((s.2.2.2.2.2.2.2.1.length:Nat):Int)) 2 M):=by unfold kindL;simp [k]
   rw [kl] at hrl
   simp only [k,show ((5:Int)==2)=false from rfl,show ((5:Int)==4)=false from rfl,show ((5:Int)==3)=false from rfl,show ((5:Int)==5)=true from rfl,cond_true,cond_false,k5r,hrsl,Option.bind_some,hrl,guessed_eq]
   simp [t2]
end Go.Ab
namespace Go.Ab
set_option linter.unusedVariables false
def Le {α:Type} (a b:Option α):Prop:=∀ y,a=some y→b=some y
theorem Lr {α:Type} (a:Option α):Le a a:=fun _ h=>h
theorem Lf {α:Type} {c:Bool} {a b a' b':Option α} (h:Le a a') (h':Le b b'):Le (cond c a b) (cond c a' b'):=by cases c<;>assumption
theorem Lb {α β:Type} {a a':Option α} {k k':α→Option β} (h:Le a a') (hk:∀ x,Le (k x) (k' x)):Le (a.bind k) (a'.bind k'):=by
 intro y hy
 obtain ⟨x,hx,hkx⟩:=Option.bind_eq_some_iff.1 hy
 rw [h x hx]
 exact hk x y hkx
theorem Le.iterN {σ β:Type} {f g:σ→Option (σ ⊕ β)} (h:∀ s,Le (f s) (g s)):∀ (n:Nat) (s:σ),Le (Ab.iterN f n s) (Ab.iterN g n s)
 |0,s=>fun y hy=>by simp [Ab.iterN] at hy
 |n+1,s=>fun y hy=>by
  simp only [Ab.iterN] at hy ⊢
  split at hy
  ·cases hy
  ·rename_i s' hs
   rw [h s _ hs]
   exact Le.iterN h n s' y hy
  ·rename_i b hb
   rw [h s _ hb]
   exact hy
theorem Li {σ β:Type} {f g:σ→Option (σ ⊕ β)} {n:Nat} {s:σ} (h:∀ s,Le (f s) (g s)):Le (Ab.iterN f n s) (Ab.iter g s):=fun y hy=>iter_of (Le.iterN h n s y hy)
theorem Le.backN {α S R:Type} {f g:Int→α→S→Option (S ⊕ R)} (h:∀ k v s,Le (f k v s) (g k v s)) (l:List α):∀ (n:Nat) (s:S),Le (Ab.backN f l n s) (Ab.backN g l n s)
 |0,s=>Lr _
 |n+1,s=>fun y hy=>by
  simp only [Ab.backN] at hy ⊢
  split at hy
  ·cases hy
  ·rename_i v hv
   split at hy
   ·cases hy
   ·rename_i s' hs
    rw [h _ _ _ _ hs]
    exact Le.backN h l n s' y hy
   ·rename_i r hr
    rw [h _ _ _ _ hr]
    exact hy
def C_sub_allWide_l0 (st:Z14):Option Z74:= bif decide (st.2.2.1<st.2.1) then ((gidx st.1 st.2.2.1).bind fun x1=> (show Option Z34 from bif decide (x1<(-1073741824:Int)) then some (st.1,(st.2.1,(st.2.2.1,(true,())))) else some (st.1,(st.2.1,(st.2.2.1,(decide (x1≥(1073741824:Int)),()))))).bind fun z2=> bif z2.2.2.2.1 then some (.inr (Sum.inr ((false,())))) else some (.inl (z2.1,(z2.2.1,(IntKind.wrap .i64 (z2.2.2.1+(1:Int)),()))))) else some (.inr (Sum.inl ()))
theorem le_sub_allWide_l0 (st):Le (C_sub_allWide_l0 st) (F_sub_allWide_l0 st):=by
 unfold C_sub_allWide_l0 F_sub_allWide_l0
 try dsimp only
 repeat' (first|exact Lr _|apply Lf|refine Lb ?_ fun _=>?_|(rename_i w;cases w)|(rename_i w _;cases w))
def C_sub_allWide (x:(List Int)):Option Bool:= (iterN C_sub_allWide_l0 400 (x,(((List.length x:Nat):Int),((0:Int),())))).bind fun w3=> match w3 with |.inl a4=>some true |.inr b5=>some b5.1
theorem le_sub_allWide (x):Le (C_sub_allWide x) (F_sub_allWide x):=by
 unfold C_sub_allWide F_sub_allWide
 try dsimp only
 repeat' (first|exact Lr _|exact Li le_sub_allWide_l0|apply Lf|refine Lb ?_ fun _=>?_|(rename_i w;cases w)|(rename_i w _;cases w))
def C_sub_rested (x:Int):Option Bool:= bif x != (0:Int) then some (x != (1:Int)) else some false
theorem le_sub_rested (x):Le (C_sub_rested x) (F_sub_rested x):=by
 unfold C_sub_rested F_sub_rested
 try dsimp only
 repeat' (first|exact Lr _|apply Lf|refine Lb ?_ fun _=>?_|(rename_i w;cases w)|(rename_i w _;cases w))
def C_linear_May_l0 (st:Z14):Option Z74:= bif decide (st.2.2.1<st.2.1) then ((gidx st.1 st.2.2.1).bind fun x2=> (show Option Z34 from bif decide (x2<(-32768:Int)) then some (st.1,(st.2.1,(st.2.2.1,(true,())))) else some (st.1,(st.2.1,(st.2.2.1,(decide (x2≥(32768:Int)),()))))).bind fun z3=> bif z3.2.2.2.1 then some (.inr (Sum.inr ((false,())))) else some (.inl (z3.1,(z3.2.1,(IntKind.wrap .i64 (z3.2.2.1+(1:Int)),()))))) else some (.inr (Sum.inl ()))
theorem le_linear_May_l0 (st):Le (C_linear_May_l0 st) (F_linear_May_l0 st):=by
 unfold C_linear_May_l0 F_linear_May_l0
 try dsimp only
 repeat' (first|exact Lr _|apply Lf|refine Lb ?_ fun _=>?_|(rename_i w;cases w)|(rename_i w _;cases w))
def C_linear_May (x:((List Int)×Int)):Option Bool:= (show Option Z6 from bif decide (((List.length x.1:Nat):Int)<(1:Int)) then some (x.1,(true,())) else (bif decide (((List.length x.1:Nat):Int) > (32:Int)) then some (x.1,(true,())) else (bif decide (x.2<(0:Int)) then some (x.1,(true,())) else some (x.1,(decide (x.2 > (15:Int)),()))))).bind fun z1=> bif z1.2.1 then some false else ((iterN C_linear_May_l0 400 (z1.1,(((List.length z1.1:Nat):Int),((0:Int),())))).bind fun w4=> match w4 with |.inl a5=>some true |.inr b6=>some b6.1)
theorem le_linear_May (x):Le (C_linear_May x) (F_linear_May x):=by
 unfold C_linear_May F_linear_May
 try dsimp only
 repeat' (first|exact Lr _|exact Li le_linear_May_l0|apply Lf|refine Lb ?_ fun _=>?_|(rename_i w;cases w)|(rename_i w _;cases w))
def C_long_May_l0 (st:Z3):Option (Z3 ⊕ Z0):= bif decide (st.2.1<(3:Int)) then ((gidx st.1 st.2.1).bind fun x2=> (show Option Z18 from bif decide (x2<(-64:Int)) then some (st.1,(st.2.1,(true,()))) else some (st.1,(st.2.1,(decide (x2 > (64:Int)),())))).bind fun z3=> bif z3.2.2.1 then some (.inr (Sum.inr ((false,())))) else some (.inl (z3.1,(IntKind.wrap .i64 (z3.2.1+(1:Int)),())))) else some (.inr (Sum.inl ()))
theorem le_long_May_l0 (st):Le (C_long_May_l0 st) (F_long_May_l0 st):=by
 unfold C_long_May_l0 F_long_May_l0
 try dsimp only
 repeat' (first|exact Lr _|apply Lf|refine Lb ?_ fun _=>?_|(rename_i w;cases w)|(rename_i w _;cases w))
def C_long_May (x:(Int×(List Int))):Option Bool:= (show Option Z7 from bif decide (x.1<(2:Int)) then some (true,(x.2,())) else some (decide (x.1 > (1024:Int)),(x.2,()))).bind fun z1=> bif z1.1 then some false else ((iterN C_long_May_l0 400 (z1.2.1,((0:Int),()))).bind fun w4=> match w4 with |.inl a5=>some true |.inr b6=>some b6.1)
theorem le_long_May (x):Le (C_long_May x) (F_long_May x):=by
 unfold C_long_May F_long_May
 try dsimp only
 repeat' (first|exact Lr _|exact Li le_long_May_l0|apply Lf|refine Lb ?_ fun _=>?_|(rename_i w;cases w)|(rename_i w _;cases w))
def C_learn_valid (x:(Int×(Int×Unit))):Option Bool:= bif decide (x.1≥(1:Int)) then (bif decide (x.1≤(32:Int)) then (bif decide (x.2.1≥(0:Int)) then some (decide (x.2.1≤(8:Int))) else some false) else some false) else some false
theorem le_learn_valid (x):Le (C_learn_valid x) (F_learn_valid x):=by
 unfold C_learn_valid F_learn_valid
 try dsimp only
 repeat' (first|exact Lr _|apply Lf|refine Lb ?_ fun _=>?_|(rename_i w;cases w)|(rename_i w _;cases w))
def C_learn_May_l0 (st:Z55):Option (Z55 ⊕ Z0):= bif decide (st.2.2.1<st.2.1) then ((gidx st.1 st.2.2.1).bind fun x1=> (C_learn_valid x1).bind fun y2=> bif !y2 then some (.inr (Sum.inr ((false,())))) else some (.inl (st.1,(st.2.1,(IntKind.wrap .i64 (st.2.2.1+(1:Int)),()))))) else some (.inr (Sum.inl ()))
theorem le_learn_May_l0 (st):Le (C_learn_May_l0 st) (F_learn_May_l0 st):=by
 unfold C_learn_May_l0 F_learn_May_l0
 try dsimp only
 repeat' (first|exact Lr _|exact le_learn_valid _|apply Lf|refine Lb ?_ fun _=>?_|(rename_i w;cases w)|(rename_i w _;cases w))
def C_learn_May (x:Z4):Option Bool:= bif decide (((List.length x:Nat):Int) > (3:Int)) then some false else ((iterN C_learn_May_l0 400 (x,(((List.length x:Nat):Int),((0:Int),())))).bind fun w3=> match w3 with |.inl a4=>some true |.inr b5=>some b5.1)
theorem le_learn_May (x):Le (C_learn_May x) (F_learn_May x):=by
 unfold C_learn_May F_learn_May
 try dsimp only
 repeat' (first|exact Lr _|exact Li le_learn_May_l0|apply Lf|refine Lb ?_ fun _=>?_|(rename_i w;cases w)|(rename_i w _;cases w))
def C_sub_fit (x:(Int×Z172)):Option Bool:= (show Option Z189 from bif x.1==(0:Int) then some (x.2.2,(x.1,(x.1==(0:Int),(x.2.1,())))) else some (x.2.2,(x.1,(x.1==(1:Int),(x.2.1,()))))).bind fun z1=> bif z1.2.2.1 then some true else (bif z1.2.1==(2:Int) then (bif decide (z1.2.2.2.1.2.2.1≥(0:Int)) then (bif decide (z1.2.2.2.1.2.2.1≤(4:Int)) then some (decide (z1.2.2.2.1.2.2.1≤z1.1)) else some false) else some false) else (bif z1.2.1==(3:Int) then ((C_linear_May (z1.2.2.2.1.2.2.2.2.2.1,z1.2.2.2.1.2.2.2.1)).bind fun y2=> bif y2 then some (decide (((List.length z1.2.2.2.1.2.2.2.2.2.1:Nat):Int)≤z1.1)) else some false) else (bif z1.2.1==(4:Int) then ((C_linear_May (z1.2.2.2.1.2.2.2.2.2.1,z1.2.2.2.1.2.2.2.1)).bind fun y3=> bif y3 then (bif decide (((List.length z1.2.2.2.1.2.2.2.2.2.1:Nat):Int)≤z1.1) then ((C_long_May (z1.2.2.2.1.2.2.2.2.1,z1.2.2.2.1.2.2.2.2.2.2.1)).bind fun y4=> some y4) else some false) else some false) else (bif z1.2.1==(5:Int) then (bif decide (((List.length z1.2.2.2.1.2.2.2.2.2.2.2.1:Nat):Int) > (0:Int)) then ((C_learn_May z1.2.2.2.1.2.2.2.2.2.2.2.1).bind fun y5=> some y5) else some false) else some false))))
theorem le_sub_fit (x):Le (C_sub_fit x) (F_sub_fit x):=by
 unfold C_sub_fit F_sub_fit
 try dsimp only
 repeat' (first|exact Lr _|exact le_linear_May _|exact le_long_May _|exact le_learn_May _|apply Lf|refine Lb ?_ fun _=>?_|(rename_i w;cases w)|(rename_i w _;cases w))
def C_sub_warmth (x:Z172):Option Int:= bif x.1.1==(0:Int) then some (1:Int) else (bif x.1.1==(1:Int) then some x.2 else (bif x.1.1==(2:Int) then some x.1.2.2.1 else ((show Option Z179 from bif x.1.1==(3:Int) then some (x.1.1==(3:Int),(x.1,())) else some (x.1.1==(4:Int),(x.1,()))).bind fun z1=> bif z1.1 then some ((List.length z1.2.1.2.2.2.2.2.1:Nat):Int) else some (0:Int))))
theorem le_sub_warmth (x):Le (C_sub_warmth x) (F_sub_warmth x):=by
 unfold C_sub_warmth F_sub_warmth
 try dsimp only
 repeat' (first|exact Lr _|apply Lf|refine Lb ?_ fun _=>?_|(rename_i w;cases w)|(rename_i w _;cases w))
def C_slices_Clone___int_int_ (x:(List Int)):Option (List Int):= bif lim (0+List.length x) then some x else none
theorem le_slices_Clone___int_int_ (x):Le (C_slices_Clone___int_int_ x) (F_slices_Clone___int_int_ x):=by
 intro y hy
 unfold C_slices_Clone___int_int_ at hy
 unfold F_slices_Clone___int_int_
 cases x with
 |nil=>simp only [List.length_nil,List.isEmpty_nil,cond_true,List.append_eq,List.append_nil] at hy ⊢;rw [show lim (0+0)=true from rfl] at hy ⊢;simpa [agree_self] using hy
 |cons a l=>simpa using hy
def C_slices_Clone___int_int_v (x:(List Int)):Option (List Int):= bif lim (0+List.length x) then some x else none
theorem le_slices_Clone___int_int_v (x):Le (C_slices_Clone___int_int_v x) (F_slices_Clone___int_int_v x):=by
 intro y hy
 unfold C_slices_Clone___int_int_v at hy
 unfold F_slices_Clone___int_int_v
 cases x with
 |nil=>simp only [List.length_nil,List.isEmpty_nil,cond_true,List.append_eq,List.append_nil] at hy ⊢;rw [show lim (0+0)=true from rfl] at hy ⊢;simpa [agree_self] using hy
 |cons a l=>simpa using hy
def C_slices_Clone___api_Stage_api_Stage_v (x:Z4):Option Z4:= bif lim (0+List.length x) then some x else none
theorem le_slices_Clone___api_Stage_api_Stage_v (x):Le (C_slices_Clone___api_Stage_api_Stage_v x) (F_slices_Clone___api_Stage_api_Stage_v x):=by
 intro y hy
 unfold C_slices_Clone___api_Stage_api_Stage_v at hy
 unfold F_slices_Clone___api_Stage_api_Stage_v
 cases x with
 |nil=>simp only [List.length_nil,List.isEmpty_nil,cond_true,List.append_eq,List.append_nil] at hy ⊢;rw [show lim (0+0)=true from rfl] at hy ⊢;simpa [agree_self] using hy
 |cons a l=>simpa using hy
def C_sub_chosen (x:Z173):Option Z170:= (show Option Z206 from (show Option (Z211 ⊕ (Z206 ⊕ Z211)) from bif x.1==(2:Int) then some (Sum.inr (Sum.inl (((0:Int),((0:Int),((0:Int),((0:Int),((0:Int),(([]:(List Int)),(List.replicate 3 (0:Int),(([]:Z4),(([]:(List Int)),(((0:Int),(([]:(List Int)),())),(([]:(List Int)),()))))))))))),((x.1,((0:Int),(x.2.2.2.1,((0:Int),((0:Int),(([]:(List Int)),(List.replicate 3 (0:Int),(([]:Z4),(([]:(List Int)),(((0:Int),(([]:(List Int)),())),(([]:(List Int)),()))))))))))),())))) else (bif x.1==(4:Int) then some (Sum.inl (((0:Int),((0:Int),((0:Int),((0:Int),((0:Int),(([]:(List Int)),(List.replicate 3 (0:Int),(([]:Z4),(([]:(List Int)),(((0:Int),(([]:(List Int)),())),(([]:(List Int)),()))))))))))),((x.1,((0:Int),((0:Int),((0:Int),(x.2.2.2.2.2.1,(([]:(List Int)),(x.2.2.2.2.2.2.2.1,(([]:Z4),(([]:(List Int)),(((0:Int),(([]:(List Int)),())),(([]:(List Int)),()))))))))))),(x.2,())))) else (bif x.1==(3:Int) then some (Sum.inl (((0:Int),((0:Int),((0:Int),((0:Int),((0:Int),(([]:(List Int)),(List.replicate 3 (0:Int),(([]:Z4),(([]:(List Int)),(((0:Int),(([]:(List Int)),())),(([]:(List Int)),()))))))))))),((x.1,((0:Int),((0:Int),((0:Int),((0:Int),(([]:(List Int)),(List.replicate 3 (0:Int),(([]:Z4),(([]:(List Int)),(((0:Int),(([]:(List Int)),())),(([]:(List Int)),()))))))))))),(x.2,())))) else (bif x.1==(5:Int) then some (Sum.inr (Sum.inr ((((0:Int),((0:Int),((0:Int),((0:Int),((0:Int),(([]:(List Int)),(List.replicate 3 (0:Int),(([]:Z4),(([]:(List Int)),(((0:Int),(([]:(List Int)),())),(([]:(List Int)),()))))))))))),((x.1,((0:Int),((0:Int),((0:Int),((0:Int),(([]:(List Int)),(List.replicate 3 (0:Int),(([]:Z4),(([]:(List Int)),(((0:Int),(([]:(List Int)),())),(([]:(List Int)),()))))))))))),(x.2,())))))) else some (Sum.inr (Sum.inl (((0:Int),((0:Int),((0:Int),((0:Int),((0:Int),(([]:(List Int)),(List.replicate 3 (0:Int),(([]:Z4),(([]:(List Int)),(((0:Int),(([]:(List Int)),())),(([]:(List Int)),()))))))))))),((x.1,((0:Int),((0:Int),((0:Int),((0:Int),(([]:(List Int)),(List.replicate 3 (0:Int),(([]:Z4),(([]:(List Int)),(((0:Int),(([]:(List Int)),())),(([]:(List Int)),()))))))))))),())))))))).bind fun z1=> match z1 with |.inl a2=>((C_slices_Clone___int_int_v a2.2.2.1.2.2.2.2.2.1).bind fun y4=> some (a2.1,((a2.2.1.1,(a2.2.1.2.1,(a2.2.1.2.2.1,(a2.2.2.1.2.2.2.1,(a2.2.1.2.2.2.2.1,(y4,a2.2.1.2.2.2.2.2.2)))))),()))) |.inr b3=>(match b3 with |.inl a5=>some (a5.1,(a5.2.1,())) |.inr b6=>((C_slices_Clone___api_Stage_api_Stage_v b6.2.2.1.2.2.2.2.2.2.2.1).bind fun y7=> some (b6.1,((b6.2.1.1,(b6.2.1.2.1,(b6.2.1.2.2.1,(b6.2.1.2.2.2.1,(b6.2.1.2.2.2.2.1,(b6.2.1.2.2.2.2.2.1,(b6.2.1.2.2.2.2.2.2.1,(y7,b6.2.1.2.2.2.2.2.2.2.2)))))))),()))))).bind fun z8=> some z8.2.1
theorem le_sub_chosen (x):Le (C_sub_chosen x) (F_sub_chosen x):=by
 unfold C_sub_chosen F_sub_chosen
 try dsimp only
 repeat' (first|exact Lr _|exact le_slices_Clone___int_int_v _|exact le_slices_Clone___api_Stage_api_Stage_v _|apply Lf|refine Lb ?_ fun _=>?_|(rename_i w;cases w)|(rename_i w _;cases w))
def C_sub_alone (x:Z170):Option Bool:= (C_sub_chosen (x.1,x)).bind fun y1=> bif x.2.2.1==y1.2.2.1 then (bif x.2.2.2.1==y1.2.2.2.1 then (bif x.2.2.2.2.1==y1.2.2.2.2.1 then (bif eqT (.arr 3 (.int .i64)) x.2.2.2.2.2.2.1 y1.2.2.2.2.2.2.1 then (bif ((List.length x.2.2.2.2.2.1:Nat):Int)==((List.length y1.2.2.2.2.2.1:Nat):Int) then some (((List.length x.2.2.2.2.2.2.2.1:Nat):Int)==((List.length y1.2.2.2.2.2.2.2.1:Nat):Int)) else some false) else some false) else some false) else some false) else some false
theorem le_sub_alone (x):Le (C_sub_alone x) (F_sub_alone x):=by
 unfold C_sub_alone F_sub_alone
 try dsimp only
 repeat' (first|exact Lr _|exact le_sub_chosen _|apply Lf|refine Lb ?_ fun _=>?_|(rename_i w;cases w)|(rename_i w _;cases w))
def C_parts_row (x:(Int×Int)):Option Bool:= bif decide ((1:Int)≤x.1) then (bif decide (x.1≤(4096:Int)) then (bif decide ((0:Int)≤x.2) then some (decide (x.2≤x.1)) else some false) else some false) else some false
theorem le_parts_row (x):Le (C_parts_row x) (F_parts_row x):=by
 unfold C_parts_row F_parts_row
 try dsimp only
 repeat' (first|exact Lr _|apply Lf|refine Lb ?_ fun _=>?_|(rename_i w;cases w)|(rename_i w _;cases w))
def C_parts_Sizes_l0 (st:Z15):Option Z66:= bif decide (st.1<0) then none else (bif decide (((List.length st.2.2.1:Nat):Int)<(gshl .i64 (1:Int) st.1)) then (bif lim ((List.length st.2.2.1)+1) then some (.inl (st.1,(st.2.1,(List.append st.2.2.1 ([st.2.1]:List Int),())))) else none) else some (.inr (st.2.2.1,())))
theorem le_parts_Sizes_l0 (st):Le (C_parts_Sizes_l0 st) (F_parts_Sizes_l0 st):=by
 unfold C_parts_Sizes_l0 F_parts_Sizes_l0
 try dsimp only
 repeat' (first|exact Lr _|apply Lf|refine Lb ?_ fun _=>?_|(rename_i w;cases w)|(rename_i w _;cases w))
def C_parts_Sizes (x:(Int×(Int×Int))):Option (List Int):= (show Option Z24 from (C_parts_row (x.2.1,x.2.2)).bind fun y1=> bif !y1 then some (x.1,(x.2.1,(x.2.2,(true,())))) else (bif decide (x.1<(0:Int)) then some (x.1,(x.2.1,(x.2.2,(true,())))) else some (x.1,(x.2.1,(x.2.2,(decide (x.1 > (8:Int)),())))))).bind fun z2=> bif z2.2.2.2.1 then some ([]:(List Int)) else (bif decide (z2.1<0) then none else ((show Option Z24 from bif decide (z2.1<0) then none else (bif (gshl .i64 (gshr .i64 z2.2.1 z2.1) z2.1) != z2.2.1 then some (z2.1,(z2.2.2.1,(gshr .i64 z2.2.1 z2.1,(true,())))) else some (z2.1,(z2.2.2.1,(gshr .i64 z2.2.1 z2.1,(decide ((gshr .i64 z2.2.1 z2.1)<z2.2.2.1),())))))).bind fun z3=> bif z3.2.2.2.1 then some ([]:(List Int)) else ((iterN C_parts_Sizes_l0 400 (z3.1,(z3.2.2.1,(([IntKind.wrap .i64 (z3.2.2.1-z3.2.1)]:List Int),())))).bind fun w4=> some w4.1)))
theorem le_parts_Sizes (x):Le (C_parts_Sizes x) (F_parts_Sizes x):=by
 unfold C_parts_Sizes F_parts_Sizes
 try dsimp only
 repeat' (first|exact Lr _|exact le_parts_row _|exact Li le_parts_Sizes_l0|apply Lf|refine Lb ?_ fun _=>?_|(rename_i w;cases w)|(rename_i w _;cases w))
def C_parts_May_l0 (st:Z14):Option Z74:= bif decide (st.2.2.1<st.2.1) then ((gidx st.1 st.2.2.1).bind fun x3=> (show Option Z34 from bif decide (x3<(0:Int)) then some (st.1,(st.2.1,(st.2.2.1,(x3 != (31:Int),())))) else (bif decide (x3 > (25:Int)) then some (st.1,(st.2.1,(st.2.2.1,(x3 != (31:Int),())))) else some (st.1,(st.2.1,(st.2.2.1,(false,())))))).bind fun z4=> bif z4.2.2.2.1 then some (.inr (Sum.inr ((false,())))) else some (.inl (z4.1,(z4.2.1,(IntKind.wrap .i64 (z4.2.2.1+(1:Int)),()))))) else some (.inr (Sum.inl ()))
theorem le_parts_May_l0 (st):Le (C_parts_May_l0 st) (F_parts_May_l0 st):=by
 unfold C_parts_May_l0 F_parts_May_l0
 try dsimp only
 repeat' (first|exact Lr _|apply Lf|refine Lb ?_ fun _=>?_|(rename_i w;cases w)|(rename_i w _;cases w))
def C_parts_May (x:(Z5×(Int×Int))):Option Bool:= (C_parts_Sizes (x.1.1,(x.2.1,x.2.2))).bind fun y1=> (show Option Z40 from bif ((List.length y1:Nat):Int)==(0:Int) then some (true,(x.1,())) else some (((List.length x.1.2.1:Nat):Int) != ((List.length y1:Nat):Int),(x.1,()))).bind fun z2=> bif z2.1 then some false else ((iterN C_parts_May_l0 400 (z2.2.1.2.1,(((List.length z2.2.1.2.1:Nat):Int),((0:Int),())))).bind fun w5=> match w5 with |.inl a6=>some true |.inr b7=>some b7.1)
theorem le_parts_May (x):Le (C_parts_May x) (F_parts_May x):=by
 unfold C_parts_May F_parts_May
 try dsimp only
 repeat' (first|exact Lr _|exact le_parts_Sizes _|exact Li le_parts_May_l0|apply Lf|refine Lb ?_ fun _=>?_|(rename_i w;cases w)|(rename_i w _;cases w))
def C_sub_stated (x:Z172):Option Bool:= (show Option Z183 from bif decide (x.2<(1:Int)) then some (x.2,(true,(x.1,()))) else (bif decide (x.2 > (4096:Int)) then some (x.2,(true,(x.1,()))) else ((C_sub_fit (x.1.1,(x.1,x.2))).bind fun y1=> bif !y1 then some (x.2,(true,(x.1,()))) else ((C_sub_alone x.1).bind fun y2=> some (x.2,(!y2,(x.1,()))))))).bind fun z3=> bif z3.2.1 then some false else ((show Option Z183 from bif decide (z3.2.2.1.2.1<(0:Int)) then some (z3.1,(true,(z3.2.2.1,()))) else (bif decide (z3.2.2.1.2.1 > (30:Int)) then some (z3.1,(true,(z3.2.2.1,()))) else (bif z3.2.2.1.1==(0:Int) then some (z3.1,(z3.2.2.1.2.1 != (0:Int),(z3.2.2.1,()))) else some (z3.1,(false,(z3.2.2.1,())))))).bind fun z4=> bif z4.2.1 then some false else ((C_sub_warmth (z4.2.2.1,z4.1)).bind fun y5=> (show Option Z189 from bif ((List.length z4.2.2.1.2.2.2.2.2.2.2.2.1:Nat):Int) != y5 then some (z4.1,(y5,(true,(z4.2.2.1,())))) else ((C_sub_allWide z4.2.2.1.2.2.2.2.2.2.2.2.1).bind fun y6=> bif !y6 then some (z4.1,(y5,(true,(z4.2.2.1,())))) else ((C_sub_allWide z4.2.2.1.2.2.2.2.2.2.2.2.2.2.1).bind fun y7=> some (z4.1,(y5,(!y7,(z4.2.2.1,()))))))).bind fun z8=> bif z8.2.2.1 then some false else ((C_sub_rested z8.2.2.2.1.1).bind fun y9=> bif !y9 then (bif ((List.length z8.2.2.2.1.2.2.2.2.2.2.2.2.2.2.1:Nat):Int)==(0:Int) then (bif z8.2.2.2.1.2.2.2.2.2.2.2.2.2.1.1==(0:Int) then some (((List.length z8.2.2.2.1.2.2.2.2.2.2.2.2.2.1.2.1:Nat):Int)==(0:Int)) else some false) else some false) else (bif ((List.length z8.2.2.2.1.2.2.2.2.2.2.2.2.2.2.1:Nat):Int)==(IntKind.wrap .i64 (z8.1-z8.2.1)) then ((C_parts_May (z8.2.2.2.1.2.2.2.2.2.2.2.2.2.1,(z8.1,z8.2.1))).bind fun y10=> some y10) else some false))))
theorem le_sub_stated (x):Le (C_sub_stated x) (F_sub_stated x):=by
 unfold C_sub_stated F_sub_stated
 try dsimp only
 repeat' (first|exact Lr _|exact le_sub_fit _|exact le_sub_alone _|exact le_sub_warmth _|exact le_sub_allWide _|exact le_sub_rested _|exact le_parts_May _|apply Lf|refine Lb ?_ fun _=>?_|(rename_i w;cases w)|(rename_i w _;cases w))
def C_fixed_wide_l0 (st:Z14):Option Z74:= bif decide (st.2.2.1<st.2.1) then ((gidx st.1 st.2.2.1).bind fun x1=> (show Option Z34 from bif decide (x1<(-1073741824:Int)) then some (st.1,(st.2.1,(st.2.2.1,(true,())))) else some (st.1,(st.2.1,(st.2.2.1,(decide (x1≥(1073741824:Int)),()))))).bind fun z2=> bif z2.2.2.2.1 then some (.inr (Sum.inr ((false,())))) else some (.inl (z2.1,(z2.2.1,(IntKind.wrap .i64 (z2.2.2.1+(1:Int)),()))))) else some (.inr (Sum.inl ()))
theorem le_fixed_wide_l0 (st):Le (C_fixed_wide_l0 st) (F_fixed_wide_l0 st):=by
 unfold C_fixed_wide_l0 F_fixed_wide_l0
 try dsimp only
 repeat' (first|exact Lr _|apply Lf|refine Lb ?_ fun _=>?_|(rename_i w;cases w)|(rename_i w _;cases w))
def C_fixed_wide (x:(List Int)):Option Bool:= (iterN C_fixed_wide_l0 400 (x,(((List.length x:Nat):Int),((0:Int),())))).bind fun w3=> match w3 with |.inl a4=>some true |.inr b5=>some b5.1
theorem le_fixed_wide (x):Le (C_fixed_wide x) (F_fixed_wide x):=by
 unfold C_fixed_wide F_fixed_wide
 try dsimp only
 repeat' (first|exact Lr _|exact Li le_fixed_wide_l0|apply Lf|refine Lb ?_ fun _=>?_|(rename_i w;cases w)|(rename_i w _;cases w))
def C_fixed_guess_1 (x:(Int×(List Int))):Option (Int×(List Int)):= (gidx x.2 (IntKind.wrap .i64 (((List.length x.2:Nat):Int)-x.1))).bind fun x1=> some (x1,x.2)
theorem le_fixed_guess_1 (x):Le (C_fixed_guess_1 x) (F_fixed_guess_1 x):=by
 unfold C_fixed_guess_1 F_fixed_guess_1
 try dsimp only
 repeat' (first|exact Lr _|apply Lf|refine Lb ?_ fun _=>?_|(rename_i w;cases w)|(rename_i w _;cases w))
def C_fixed_guess (x:((List Int)×Int)):Option Int:= bif x.2==(1:Int) then ((C_fixed_guess_1 ((1:Int),x.1)).bind fun y1=> some y1.1) else (bif x.2==(2:Int) then ((C_fixed_guess_1 ((1:Int),x.1)).bind fun y2=> (C_fixed_guess_1 ((2:Int),y2.2)).bind fun y3=> some (IntKind.wrap .i64 ((IntKind.wrap .i64 ((2:Int)*y2.1))-y3.1))) else (bif x.2==(3:Int) then ((C_fixed_guess_1 ((1:Int),x.1)).bind fun y4=> (C_fixed_guess_1 ((2:Int),y4.2)).bind fun y5=> (C_fixed_guess_1 ((3:Int),y5.2)).bind fun y6=> some (IntKind.wrap .i64 ((IntKind.wrap .i64 ((IntKind.wrap .i64 ((3:Int)*y4.1))-(IntKind.wrap .i64 ((3:Int)*y5.1))))+y6.1))) else (bif x.2==(4:Int) then ((C_fixed_guess_1 ((1:Int),x.1)).bind fun y7=> (C_fixed_guess_1 ((2:Int),y7.2)).bind fun y8=> (C_fixed_guess_1 ((3:Int),y8.2)).bind fun y9=> (C_fixed_guess_1 ((4:Int),y9.2)).bind fun y10=> some (IntKind.wrap .i64 ((IntKind.wrap .i64 ((IntKind.wrap .i64 ((IntKind.wrap .i64 ((4:Int)*y7.1))-(IntKind.wrap .i64 ((6:Int)*y8.1))))+(IntKind.wrap .i64 ((4:Int)*y9.1))))-y10.1))) else some (0:Int))))
theorem le_fixed_guess (x):Le (C_fixed_guess x) (F_fixed_guess x):=by
 unfold C_fixed_guess F_fixed_guess
 try dsimp only
 repeat' (first|exact Lr _|exact le_fixed_guess_1 _|apply Lf|refine Lb ?_ fun _=>?_|(rename_i w;cases w)|(rename_i w _;cases w))
def C_fixed_Back_l0 (st:Z61):Option Z143:= bif decide (st.2.2.2.1<st.2.2.1) then ((gidx st.2.1 st.2.2.2.1).bind fun x5=> (C_fixed_guess (st.2.2.2.2.1,st.1)).bind fun y6=> (C_fixed_wide ([IntKind.wrap .i64 (x5+y6)]:List Int)).bind fun y7=> bif !y7 then some (.inr (Sum.inr (((6:Int),(([]:(List Int)),()))))) else (bif lim ((List.length st.2.2.2.2.1)+1) then some (.inl (st.1,(st.2.1,(st.2.2.1,(IntKind.wrap .i64 (st.2.2.2.1+(1:Int)),(List.append st.2.2.2.2.1 ([IntKind.wrap .i64 (x5+y6)]:List Int),())))))) else none)) else some (.inr (Sum.inl (st.2.2.2.2.1,())))
theorem le_fixed_Back_l0 (st):Le (C_fixed_Back_l0 st) (F_fixed_Back_l0 st):=by
 unfold C_fixed_Back_l0 F_fixed_Back_l0
 try dsimp only
 repeat' (first|exact Lr _|exact le_fixed_guess _|exact le_fixed_wide _|apply Lf|refine Lb ?_ fun _=>?_|(rename_i w;cases w)|(rename_i w _;cases w))
def C_fixed_Back (x:Z11):Option ((List Int)×Int):= (show Option Z50 from bif decide (x.2.2<(0:Int)) then some (x.1,(x.2.1,(x.2.2,(true,())))) else (bif decide (x.2.2 > (4:Int)) then some (x.1,(x.2.1,(x.2.2,(true,())))) else some (x.1,(x.2.1,(x.2.2,(((List.length x.1:Nat):Int) != x.2.2,())))))).bind fun z1=> bif z1.2.2.2.1 then some (([]:(List Int)),(1:Int)) else ((show Option Z50 from (C_fixed_wide z1.1).bind fun y2=> bif !y2 then some (z1.1,(z1.2.1,(z1.2.2.1,(true,())))) else ((C_fixed_wide z1.2.1).bind fun y3=> some (z1.1,(z1.2.1,(z1.2.2.1,(!y3,())))))).bind fun z4=> bif z4.2.2.2.1 then some (([]:(List Int)),(6:Int)) else (bif lim (List.length z4.1) then ((iterN C_fixed_Back_l0 400 (z4.2.2.1,(z4.2.1,(((List.length z4.2.1:Nat):Int),((0:Int),(z4.1,())))))).bind fun w8=> match w8 with |.inl a9=>some (a9.1,(0:Int)) |.inr b10=>some (b10.2.1,b10.1)) else none))
theorem le_fixed_Back (x):Le (C_fixed_Back x) (F_fixed_Back x):=by
 unfold C_fixed_Back F_fixed_Back
 try dsimp only
 repeat' (first|exact Lr _|exact le_fixed_wide _|exact Li le_fixed_Back_l0|apply Lf|refine Lb ?_ fun _=>?_|(rename_i w;cases w)|(rename_i w _;cases w))
def C_linear_wide (x:Int):Option Bool:= bif decide (x≥(-1073741824:Int)) then some (decide (x<(1073741824:Int))) else some false
theorem le_linear_wide (x):Le (C_linear_wide x) (F_linear_wide x):=by
 unfold C_linear_wide F_linear_wide
 try dsimp only
 repeat' (first|exact Lr _|apply Lf|refine Lb ?_ fun _=>?_|(rename_i w;cases w)|(rename_i w _;cases w))
def C_linear_allWide_l0 (st:Z14):Option Z74:= bif decide (st.2.2.1<st.2.1) then ((gidx st.1 st.2.2.1).bind fun x1=> (C_linear_wide x1).bind fun y2=> bif !y2 then some (.inr (Sum.inr ((false,())))) else some (.inl (st.1,(st.2.1,(IntKind.wrap .i64 (st.2.2.1+(1:Int)),()))))) else some (.inr (Sum.inl ()))
theorem le_linear_allWide_l0 (st):Le (C_linear_allWide_l0 st) (F_linear_allWide_l0 st):=by
 unfold C_linear_allWide_l0 F_linear_allWide_l0
 try dsimp only
 repeat' (first|exact Lr _|exact le_linear_wide _|apply Lf|refine Lb ?_ fun _=>?_|(rename_i w;cases w)|(rename_i w _;cases w))
def C_linear_allWide (x:(List Int)):Option Bool:= (iterN C_linear_allWide_l0 400 (x,(((List.length x:Nat):Int),((0:Int),())))).bind fun w3=> match w3 with |.inl a4=>some true |.inr b5=>some b5.1
theorem le_linear_allWide (x):Le (C_linear_allWide x) (F_linear_allWide x):=by
 unfold C_linear_allWide F_linear_allWide
 try dsimp only
 repeat' (first|exact Lr _|exact Li le_linear_allWide_l0|apply Lf|refine Lb ?_ fun _=>?_|(rename_i w;cases w)|(rename_i w _;cases w))
def C_linear_predict_l0 (st:Z81):Option (Z81 ⊕ (Int×(Int×Unit))):= bif decide (st.2.2.2.2.2.1<st.2.2.2.2.1) then ((gidx st.2.2.2.1 st.2.2.2.2.2.1).bind fun x1=> bif decide ((IntKind.wrap .i64 ((IntKind.wrap .i64 (((List.length st.1:Nat):Int)-(1:Int)))-st.2.2.2.2.2.1))<(0:Int)) then some (.inr (st.2.1,(st.2.2.1,()))) else ((gidx st.1 (IntKind.wrap .i64 ((IntKind.wrap .i64 (((List.length st.1:Nat):Int)-(1:Int)))-st.2.2.2.2.2.1))).bind fun x2=> some (.inl (st.1,(st.2.1,(IntKind.wrap .i64 (st.2.2.1+(IntKind.wrap .i64 (x1*x2))),(st.2.2.2.1,(st.2.2.2.2.1,(IntKind.wrap .i64 (st.2.2.2.2.2.1+(1:Int)),()))))))))) else some (.inr (st.2.1,(st.2.2.1,())))
theorem le_linear_predict_l0 (st):Le (C_linear_predict_l0 st) (F_linear_predict_l0 st):=by
 unfold C_linear_predict_l0 F_linear_predict_l0
 try dsimp only
 repeat' (first|exact Lr _|apply Lf|refine Lb ?_ fun _=>?_|(rename_i w;cases w)|(rename_i w _;cases w))
def C_linear_predict (x:Z11):Option Int:= (iterN C_linear_predict_l0 400 (x.1,(x.2.2,((0:Int),(x.2.1,(((List.length x.2.1:Nat):Int),((0:Int),()))))))).bind fun w3=> bif decide (w3.1<0) then none else some (gshr .i64 w3.2.1 w3.1)
theorem le_linear_predict (x):Le (C_linear_predict x) (F_linear_predict x):=by
 unfold C_linear_predict F_linear_predict
 try dsimp only
 repeat' (first|exact Lr _|exact Li le_linear_predict_l0|apply Lf|refine Lb ?_ fun _=>?_|(rename_i w;cases w)|(rename_i w _;cases w))
def C_linear_Back_l0 (st:Z96):Option (Z96 ⊕ Z49):= bif decide (st.2.2.2.2.1<st.2.2.2.1) then ((gidx st.2.2.1 st.2.2.2.2.1).bind fun x6=> (C_linear_predict (st.2.2.2.2.2.1,(st.1,st.2.1))).bind fun y7=> (C_linear_wide (IntKind.wrap .i64 (y7+x6))).bind fun y8=> bif !y8 then some (.inr (Sum.inr (((6:Int),(([]:(List Int)),()))))) else (bif lim ((List.length st.2.2.2.2.2.1)+1) then some (.inl (st.1,(st.2.1,(st.2.2.1,(st.2.2.2.1,(IntKind.wrap .i64 (st.2.2.2.2.1+(1:Int)),(List.append st.2.2.2.2.2.1 ([IntKind.wrap .i64 (y7+x6)]:List Int),()))))))) else none)) else some (.inr (Sum.inl (st.2.2.2.2.2.1,())))
theorem le_linear_Back_l0 (st):Le (C_linear_Back_l0 st) (F_linear_Back_l0 st):=by
 unfold C_linear_Back_l0 F_linear_Back_l0
 try dsimp only
 repeat' (first|exact Lr _|exact le_linear_predict _|exact le_linear_wide _|apply Lf|refine Lb ?_ fun _=>?_|(rename_i w;cases w)|(rename_i w _;cases w))
def C_linear_Back (x:((List Int)×Z11)):Option ((List Int)×Int):= (show Option Z82 from (C_linear_May (x.2.2.1,x.2.2.2)).bind fun y1=> bif !y1 then some (x.1,(x.2.1,(x.2.2.1,(x.2.2.2,(true,()))))) else some (x.1,(x.2.1,(x.2.2.1,(x.2.2.2,(((List.length x.1:Nat):Int) != ((List.length x.2.2.1:Nat):Int),())))))).bind fun z2=> bif z2.2.2.2.2.1 then some (([]:(List Int)),(1:Int)) else ((show Option Z82 from (C_linear_allWide z2.1).bind fun y3=> bif !y3 then some (z2.1,(z2.2.1,(z2.2.2.1,(z2.2.2.2.1,(true,()))))) else ((C_linear_allWide z2.2.1).bind fun y4=> some (z2.1,(z2.2.1,(z2.2.2.1,(z2.2.2.2.1,(!y4,()))))))).bind fun z5=> bif z5.2.2.2.2.1 then some (([]:(List Int)),(6:Int)) else (bif (decide ((0:Int)≤(IntKind.wrap .i64 (((List.length z5.1:Nat):Int)+((List.length z5.2.1:Nat):Int)))))&&(lim (Int.toNat (IntKind.wrap .i64 (((List.length z5.1:Nat):Int)+((List.length z5.2.1:Nat):Int))))) then (bif lim (0+(List.length z5.1)) then ((iterN C_linear_Back_l0 400 (z5.2.2.1,(z5.2.2.2.1,(z5.2.1,(((List.length z5.2.1:Nat):Int),((0:Int),(List.append ([]:(List Int)) z5.1,()))))))).bind fun w9=> match w9 with |.inl a10=>some (a10.1,(0:Int)) |.inr b11=>some (b11.2.1,b11.1)) else none) else none))
theorem le_linear_Back (x):Le (C_linear_Back x) (F_linear_Back x):=by
 unfold C_linear_Back F_linear_Back
 try dsimp only
 repeat' (first|exact Lr _|exact le_linear_May _|exact le_linear_allWide _|exact Li le_linear_Back_l0|apply Lf|refine Lb ?_ fun _=>?_|(rename_i w;cases w)|(rename_i w _;cases w))
def C_long_wide (x:Int):Option Bool:= bif decide (x≥(-1073741824:Int)) then some (decide (x<(1073741824:Int))) else some false
theorem le_long_wide (x):Le (C_long_wide x) (F_long_wide x):=by
 unfold C_long_wide F_long_wide
 try dsimp only
 repeat' (first|exact Lr _|apply Lf|refine Lb ?_ fun _=>?_|(rename_i w;cases w)|(rename_i w _;cases w))
def C_long_allWide_l0 (st:Z14):Option Z74:= bif decide (st.2.2.1<st.2.1) then ((gidx st.1 st.2.2.1).bind fun x1=> (C_long_wide x1).bind fun y2=> bif !y2 then some (.inr (Sum.inr ((false,())))) else some (.inl (st.1,(st.2.1,(IntKind.wrap .i64 (st.2.2.1+(1:Int)),()))))) else some (.inr (Sum.inl ()))
theorem le_long_allWide_l0 (st):Le (C_long_allWide_l0 st) (F_long_allWide_l0 st):=by
 unfold C_long_allWide_l0 F_long_allWide_l0
 try dsimp only
 repeat' (first|exact Lr _|exact le_long_wide _|apply Lf|refine Lb ?_ fun _=>?_|(rename_i w;cases w)|(rename_i w _;cases w))
def C_long_allWide (x:(List Int)):Option Bool:= (iterN C_long_allWide_l0 400 (x,(((List.length x:Nat):Int),((0:Int),())))).bind fun w3=> match w3 with |.inl a4=>some true |.inr b5=>some b5.1
theorem le_long_allWide (x):Le (C_long_allWide x) (F_long_allWide x):=by
 unfold C_long_allWide F_long_allWide
 try dsimp only
 repeat' (first|exact Lr _|exact Li le_long_allWide_l0|apply Lf|refine Lb ?_ fun _=>?_|(rename_i w;cases w)|(rename_i w _;cases w))
def C_long_predict_l0 (st:Z83):Option (Z83 ⊕ (Int×Unit)):= bif decide (st.2.2.2.2.2.1<(3:Int)) then ((gidx st.2.2.2.2.1 st.2.2.2.2.2.1).bind fun x1=> bif decide ((IntKind.wrap .i64 ((IntKind.wrap .i64 ((IntKind.wrap .i64 (st.2.1-st.2.2.1))-(1:Int)))+st.2.2.2.2.2.1))≥(0:Int)) then ((gidx st.1 (IntKind.wrap .i64 ((IntKind.wrap .i64 ((IntKind.wrap .i64 (st.2.1-st.2.2.1))-(1:Int)))+st.2.2.2.2.2.1))).bind fun x2=> some (.inl (st.1,(st.2.1,(st.2.2.1,(IntKind.wrap .i64 (st.2.2.2.1+(IntKind.wrap .i64 (x1*x2))),(st.2.2.2.2.1,(IntKind.wrap .i64 (st.2.2.2.2.2.1+(1:Int)),())))))))) else some (.inl (st.1,(st.2.1,(st.2.2.1,(st.2.2.2.1,(st.2.2.2.2.1,(IntKind.wrap .i64 (st.2.2.2.2.2.1+(1:Int)),())))))))) else some (.inr (st.2.2.2.1,()))
theorem le_long_predict_l0 (st):Le (C_long_predict_l0 st) (F_long_predict_l0 st):=by
 unfold C_long_predict_l0 F_long_predict_l0
 try dsimp only
 repeat' (first|exact Lr _|apply Lf|refine Lb ?_ fun _=>?_|(rename_i w;cases w)|(rename_i w _;cases w))
def C_long_predict (x:((List Int)×Z1)):Option Int:= (iterN C_long_predict_l0 400 (x.1,(x.2.1,(x.2.2.1,((0:Int),(x.2.2.2,((0:Int),()))))))).bind fun w3=> some (gshr .i64 w3.1 (6:Int))
theorem le_long_predict (x):Le (C_long_predict x) (F_long_predict x):=by
 unfold C_long_predict F_long_predict
 try dsimp only
 repeat' (first|exact Lr _|exact Li le_long_predict_l0|apply Lf|refine Lb ?_ fun _=>?_|(rename_i w;cases w)|(rename_i w _;cases w))
def C_long_Back_l0 (st:Z97):Option (Z97 ⊕ Z49):= bif decide (st.2.2.2.1<st.2.2.1) then ((gidx st.2.1 st.2.2.2.1).bind fun x3=> (C_long_predict (st.2.2.2.2.1,(st.2.2.2.1,(st.1,st.2.2.2.2.2.1)))).bind fun y4=> (C_long_wide (IntKind.wrap .i64 (x3+y4))).bind fun y5=> bif !y5 then some (.inr (Sum.inr (((6:Int),(([]:(List Int)),()))))) else (bif lim ((List.length st.2.2.2.2.1)+1) then some (.inl (st.1,(st.2.1,(st.2.2.1,(IntKind.wrap .i64 (st.2.2.2.1+(1:Int)),(List.append st.2.2.2.2.1 ([IntKind.wrap .i64 (x3+y4)]:List Int),(st.2.2.2.2.2.1,()))))))) else none)) else some (.inr (Sum.inl (st.2.2.2.2.1,())))
theorem le_long_Back_l0 (st):Le (C_long_Back_l0 st) (F_long_Back_l0 st):=by
 unfold C_long_Back_l0 F_long_Back_l0
 try dsimp only
 repeat' (first|exact Lr _|exact le_long_predict _|exact le_long_wide _|apply Lf|refine Lb ?_ fun _=>?_|(rename_i w;cases w)|(rename_i w _;cases w))
def C_long_Back (x:Z12):Option ((List Int)×Int):= (C_long_May (x.2.1,x.2.2)).bind fun y1=> bif !y1 then some (([]:(List Int)),(1:Int)) else ((C_long_allWide x.1).bind fun y2=> bif !y2 then some (([]:(List Int)),(6:Int)) else (bif (decide ((0:Int)≤((List.length x.1:Nat):Int)))&&(lim (Int.toNat ((List.length x.1:Nat):Int))) then ((iterN C_long_Back_l0 400 (x.2.1,(x.1,(((List.length x.1:Nat):Int),((0:Int),(([]:(List Int)),(x.2.2,()))))))).bind fun w6=> match w6 with |.inl a7=>some (a7.1,(0:Int)) |.inr b8=>some (b8.2.1,b8.1)) else none))
theorem le_long_Back (x):Le (C_long_Back x) (F_long_Back x):=by
 unfold C_long_Back F_long_Back
 try dsimp only
 repeat' (first|exact Lr _|exact le_long_May _|exact le_long_allWide _|exact Li le_long_Back_l0|apply Lf|refine Lb ?_ fun _=>?_|(rename_i w;cases w)|(rename_i w _;cases w))
def C_learn_wide (x:Int):Option Bool:= bif decide (x≥(-1073741824:Int)) then some (decide (x<(1073741824:Int))) else some false
theorem le_learn_wide (x):Le (C_learn_wide x) (F_learn_wide x):=by
 unfold C_learn_wide F_learn_wide
 try dsimp only
 repeat' (first|exact Lr _|apply Lf|refine Lb ?_ fun _=>?_|(rename_i w;cases w)|(rename_i w _;cases w))
def C_learn_allWide_l0 (st:Z14):Option Z74:= bif decide (st.2.2.1<st.2.1) then ((gidx st.1 st.2.2.1).bind fun x1=> (C_learn_wide x1).bind fun y2=> bif !y2 then some (.inr (Sum.inr ((false,())))) else some (.inl (st.1,(st.2.1,(IntKind.wrap .i64 (st.2.2.1+(1:Int)),()))))) else some (.inr (Sum.inl ()))
theorem le_learn_allWide_l0 (st):Le (C_learn_allWide_l0 st) (F_learn_allWide_l0 st):=by
 unfold C_learn_allWide_l0 F_learn_allWide_l0
 try dsimp only
 repeat' (first|exact Lr _|exact le_learn_wide _|apply Lf|refine Lb ?_ fun _=>?_|(rename_i w;cases w)|(rename_i w _;cases w))
def C_learn_allWide (x:(List Int)):Option Bool:= (iterN C_learn_allWide_l0 400 (x,(((List.length x:Nat):Int),((0:Int),())))).bind fun w3=> match w3 with |.inl a4=>some true |.inr b5=>some b5.1
theorem le_learn_allWide (x):Le (C_learn_allWide x) (F_learn_allWide x):=by
 unfold C_learn_allWide F_learn_allWide
 try dsimp only
 repeat' (first|exact Lr _|exact Li le_learn_allWide_l0|apply Lf|refine Lb ?_ fun _=>?_|(rename_i w;cases w)|(rename_i w _;cases w))
def C_learn_New (x:(Int×(Int×Unit))):Option Z46:= (C_learn_valid x).bind fun y1=> bif !y1 then none else (bif (decide ((0:Int)≤x.1))&&((decide (x.1≤x.1))&&(lim (Int.toNat x.1))) then (bif (decide ((0:Int)≤x.1))&&((decide (x.1≤x.1))&&(lim (Int.toNat x.1))) then some ((x.2.1,(List.replicate (Int.toNat x.1) (0:Int),(List.replicate (Int.toNat x.1) (0:Int),()))),(0:Int)) else none) else none)
theorem le_learn_New (x):Le (C_learn_New x) (F_learn_New x):=by
 unfold C_learn_New F_learn_New
 try dsimp only
 repeat' (first|exact Lr _|exact le_learn_valid _|apply Lf|refine Lb ?_ fun _=>?_|(rename_i w;cases w)|(rename_i w _;cases w))
def C_learn_nearest (x:Int):Option Int:= some (imin (imax x (-1073741824:Int)) (1073741823:Int))
theorem le_learn_nearest (x):Le (C_learn_nearest x) (F_learn_nearest x):=by
 unfold C_learn_nearest F_learn_nearest
 try dsimp only
 repeat' (first|exact Lr _|apply Lf|refine Lb ?_ fun _=>?_|(rename_i w;cases w)|(rename_i w _;cases w))
def C_learn_Filter_Guess_l0 (st:Z102):Option (Z102 ⊕ Z67):= bif decide (st.2.2.1<st.2.1) then (bif (decide ((0:Int)≤st.2.2.1))&&(decide (st.2.2.1<((List.length st.2.2.2.1.2.1:Nat):Int))) then (bif (decide ((0:Int)≤st.2.2.1))&&(decide (st.2.2.1<((List.length st.2.2.2.1.2.2.1:Nat):Int))) then some (.inl (IntKind.wrap .i64 (st.1+(IntKind.wrap .i64 ((List.getD st.2.2.2.1.2.1 (Int.toNat st.2.2.1) (0:Int))*(List.getD st.2.2.2.1.2.2.1 (Int.toNat st.2.2.1) (0:Int))))),(st.2.1,(IntKind.wrap .i64 (st.2.2.1+(1:Int)),(st.2.2.2.1,()))))) else none) else none) else some (.inr (st.1,(st.2.2.2.1,())))
theorem le_learn_Filter_Guess_l0 (st):Le (C_learn_Filter_Guess_l0 st) (F_learn_Filter_Guess_l0 st):=by
 unfold C_learn_Filter_Guess_l0 F_learn_Filter_Guess_l0
 try dsimp only
 repeat' (first|exact Lr _|apply Lf|refine Lb ?_ fun _=>?_|(rename_i w;cases w)|(rename_i w _;cases w))
def C_learn_Filter_Guess (x:Z25):Option Z45:= (iterN C_learn_Filter_Guess_l0 400 ((0:Int),(((List.length x.2.1:Nat):Int),((0:Int),(x,()))))).bind fun w1=> (C_learn_nearest (gshr .i64 w1.1 (16:Int))).bind fun y2=> some (y2,w1.2.1)
theorem le_learn_Filter_Guess (x):Le (C_learn_Filter_Guess x) (F_learn_Filter_Guess x):=by
 unfold C_learn_Filter_Guess F_learn_Filter_Guess
 try dsimp only
 repeat' (first|exact Lr _|exact le_learn_nearest _|exact Li le_learn_Filter_Guess_l0|apply Lf|refine Lb ?_ fun _=>?_|(rename_i w;cases w)|(rename_i w _;cases w))
def C_learn_Filter_Tell_l0 (st:Z113):Option (Z113 ⊕ Z67):= bif decide (st.2.2.2.1<st.2.2.1) then (bif (decide ((0:Int)≤st.2.2.2.1))&&(decide (st.2.2.2.1<((List.length st.2.2.2.2.1.2.2.1:Nat):Int))) then (bif (decide ((0:Int)≤st.2.2.2.1))&&(decide (st.2.2.2.1<((List.length st.2.2.2.2.1.2.1:Nat):Int))) then ((show Option (Int×(Int×Z113)) from bif decide ((List.getD st.2.2.2.2.1.2.2.1 (Int.toNat st.2.2.2.1) (0:Int)) > (0:Int)) then some (st.1,(st.2.1,(st.2.2.2.1,(IntKind.wrap .i64 ((List.getD st.2.2.2.2.1.2.1 (Int.toNat st.2.2.2.1) (0:Int))+st.2.1),(st.2.2.1,(st.2.2.2.1,(st.2.2.2.2.1,()))))))) else (bif decide ((List.getD st.2.2.2.2.1.2.2.1 (Int.toNat st.2.2.2.1) (0:Int))<(0:Int)) then some (st.1,(st.2.1,(st.2.2.2.1,(IntKind.wrap .i64 ((List.getD st.2.2.2.2.1.2.1 (Int.toNat st.2.2.2.1) (0:Int))-st.2.1),(st.2.2.1,(st.2.2.2.1,(st.2.2.2.2.1,()))))))) else some (st.1,(st.2.1,(st.2.2.2.1,(List.getD st.2.2.2.2.1.2.1 (Int.toNat st.2.2.2.1) (0:Int),(st.2.2.1,(st.2.2.2.1,(st.2.2.2.2.1,()))))))))).bind fun z4=> bif (decide ((0:Int)≤z4.2.2.1))&&(decide (z4.2.2.1<((List.length z4.2.2.2.2.2.2.1.2.1:Nat):Int))) then some (.inl (z4.1,(z4.2.1,(z4.2.2.2.2.1,(IntKind.wrap .i64 (z4.2.2.2.2.2.1+(1:Int)),((z4.2.2.2.2.2.2.1.1,(List.set z4.2.2.2.2.2.2.1.2.1 (Int.toNat z4.2.2.1) (imin (imax z4.2.2.2.1 (-1048576:Int)) (1048576:Int)),z4.2.2.2.2.2.2.1.2.2)),())))))) else none) else none) else none) else some (.inr (st.1,(st.2.2.2.2.1,())))
theorem le_learn_Filter_Tell_l0 (st):Le (C_learn_Filter_Tell_l0 st) (F_learn_Filter_Tell_l0 st):=by
 unfold C_learn_Filter_Tell_l0 F_learn_Filter_Tell_l0
 try dsimp only
 repeat' (first|exact Lr _|apply Lf|refine Lb ?_ fun _=>?_|(rename_i w;cases w)|(rename_i w _;cases w))
def C_learn_Filter_Tell (x:Z46):Option Z25:= (C_learn_nearest x.2).bind fun y1=> (show Option Z86 from (C_learn_Filter_Guess x.1).bind fun y2=> bif decide (y1 > y2.1) then (bif decide (y2.2.1<0) then none else some (y1,(gshl .i64 (1:Int) y2.2.1,(y2.2,())))) else (bif decide (y1<y2.1) then (bif decide (y2.2.1<0) then none else some (y1,(IntKind.wrap .i64 (0-(gshl .i64 (1:Int) y2.2.1)),(y2.2,())))) else some (y1,((0:Int),(y2.2,()))))).bind fun z3=> (iterN C_learn_Filter_Tell_l0 400 (z3.1,(z3.2.1,(((List.length z3.2.2.1.2.2.1:Nat):Int),((0:Int),(z3.2.2.1,())))))).bind fun w5=> bif decide ((1:Int)≤((List.length w5.2.1.2.2.1:Nat):Int)) then (bif decide ((0:Int)<((List.length (gcopy w5.2.1.2.2.1 1 ((List.length w5.2.1.2.2.1)-1) w5.2.1.2.2.1):Nat):Int)) then some (w5.2.1.1,(w5.2.1.2.1,(List.set (gcopy w5.2.1.2.2.1 1 ((List.length w5.2.1.2.2.1)-1) w5.2.1.2.2.1) 0 w5.1,w5.2.1.2.2.2))) else none) else none
theorem le_learn_Filter_Tell (x):Le (C_learn_Filter_Tell x) (F_learn_Filter_Tell x):=by
 unfold C_learn_Filter_Tell F_learn_Filter_Tell
 try dsimp only
 repeat' (first|exact Lr _|exact le_learn_nearest _|exact le_learn_Filter_Guess _|exact Li le_learn_Filter_Tell_l0|apply Lf|refine Lb ?_ fun _=>?_|(rename_i w;cases w)|(rename_i w _;cases w))
def C_learn_Back_l1 (st:Z137):Option (Z137 ⊕ (Z26 ⊕ Z26)):= bif decide (st.2.1<st.1) then (bif (decide ((0:Int)≤st.2.1))&&(decide (st.2.1<((List.length st.2.2.2.2.1:Nat):Int))) then ((C_learn_Filter_Guess st.2.2.2.2.2.1).bind fun y6=> (C_learn_wide (IntKind.wrap .i64 (y6.1+(List.getD st.2.2.2.2.1 (Int.toNat st.2.1) (0:Int))))).bind fun y7=> bif !y7 then some (.inr (Sum.inr ((([]:(List Int)),((6:Int),(st.2.2.2.2.1,())))))) else ((C_learn_Filter_Tell (y6.2,IntKind.wrap .i64 (y6.1+(List.getD st.2.2.2.2.1 (Int.toNat st.2.1) (0:Int))))).bind fun y8=> bif (decide ((0:Int)≤st.2.1))&&(decide (st.2.1<((List.length st.2.2.2.2.1:Nat):Int))) then some (.inl (st.1,(IntKind.wrap .i64 (st.2.1+(1:Int)),(st.2.2.1,(st.2.2.2.1,(List.set st.2.2.2.2.1 (Int.toNat st.2.1) (IntKind.wrap .i64 (y6.1+(List.getD st.2.2.2.2.1 (Int.toNat st.2.1) (0:Int)))),(y8,()))))))) else none)) else none) else some (.inr (Sum.inl (st.2.2.1,(st.2.2.2.1,(st.2.2.2.2.1,())))))
theorem le_learn_Back_l1 (st):Le (C_learn_Back_l1 st) (F_learn_Back_l1 st):=by
 unfold C_learn_Back_l1 F_learn_Back_l1
 try dsimp only
 repeat' (first|exact Lr _|exact le_learn_Filter_Guess _|exact le_learn_wide _|exact le_learn_Filter_Tell _|apply Lf|refine Lb ?_ fun _=>?_|(rename_i w;cases w)|(rename_i w _;cases w))
def C_learn_Back_l0 (k:Int) (v:(Int×(Int×Unit))) (st:Z100):Option (Z100 ⊕ (Ex×Z100)):= (C_learn_New v).bind fun y4=> bif y4.2 != (0:Int) then some (.inr (.ret,(st.1,(([]:(List Int)),(y4.2,(st.2.2.2.1,())))))) else ((iterN C_learn_Back_l1 400 (((List.length st.2.2.2.1:Nat):Int),((0:Int),(st.2.1,(st.2.2.1,(st.2.2.2.1,(y4.1,()))))))).bind fun w9=> match w9 with |.inl a10=>some (.inl (st.1,(a10.1,(a10.2.1,(a10.2.2.1,()))))) |.inr b11=>some (.inr (.ret,(st.1,(b11.1,(b11.2.1,(b11.2.2.1,())))))))
theorem le_learn_Back_l0 (k) (v) (st):Le (C_learn_Back_l0 k v st) (F_learn_Back_l0 k v st):=by
 unfold C_learn_Back_l0 F_learn_Back_l0
 try dsimp only
 repeat' (first|exact Lr _|exact le_learn_New _|exact Li le_learn_Back_l1|apply Lf|refine Lb ?_ fun _=>?_|(rename_i w;cases w)|(rename_i w _;cases w))
def C_learn_Back (x:Z27):Option ((List Int)×Int):= (C_learn_May x.2).bind fun y1=> bif !y1 then some (([]:(List Int)),(1:Int)) else ((C_learn_allWide x.1).bind fun y2=> bif !y2 then some (([]:(List Int)),(6:Int)) else ((C_slices_Clone___int_int_ x.1).bind fun y3=> bif lim (List.length x.2) then ((backN C_learn_Back_l0 x.2 (List.length x.2) (x.2,(([]:(List Int)),((0:Int),(y3,()))))).bind fun w12=> match w12 with |.inl a13=>some (a13.2.2.2.1,(0:Int)) |.inr (.normal,a14)=>some (a14.2.2.2.1,(0:Int)) |.inr (.exit e15,a14)=>(bif e15==0 then some (a14.2.2.2.1,(0:Int)) else none) |.inr (.ret,a14)=>some (a14.2.1,a14.2.2.1)) else none))
theorem le_learn_Back (x):Le (C_learn_Back x) (F_learn_Back x):=by
 unfold C_learn_Back F_learn_Back
 try dsimp only
 repeat' (first|exact Lr _|exact le_learn_May _|exact le_learn_allWide _|exact le_slices_Clone___int_int_ _|exact Le.backN le_learn_Back_l0 _ _ _|apply Lf|refine Lb ?_ fun _=>?_|(rename_i w;cases w)|(rename_i w _;cases w))
def C_sample_wide (x:Int):Option Bool:= bif decide ((-1073741824:Int)≤x) then some (decide (x<(1073741824:Int))) else some false
theorem le_sample_wide (x):Le (C_sample_wide x) (F_sample_wide x):=by
 unfold C_sample_wide F_sample_wide
 try dsimp only
 repeat' (first|exact Lr _|apply Lf|refine Lb ?_ fun _=>?_|(rename_i w;cases w)|(rename_i w _;cases w))
def C_sample_Up_l0 (st:Z61):Option Z143:= bif decide (st.2.2.2.1<st.2.2.1) then ((gidx st.2.1 st.2.2.2.1).bind fun x2=> (show Option Z103 from (C_sample_wide x2).bind fun y3=> bif !y3 then some (st.1,(x2,(st.2.1,(st.2.2.1,(st.2.2.2.1,(true,(st.2.2.2.2.1,()))))))) else (bif decide (st.1<0) then none else ((C_sample_wide (gshl .i64 x2 st.1)).bind fun y4=> some (st.1,(x2,(st.2.1,(st.2.2.1,(st.2.2.2.1,(!y4,(st.2.2.2.2.1,())))))))))).bind fun z5=> bif z5.2.2.2.2.2.1 then some (.inr (Sum.inr (((6:Int),(([]:(List Int)),()))))) else (bif decide (z5.1<0) then none else (bif lim ((List.length z5.2.2.2.2.2.2.1)+1) then some (.inl (z5.1,(z5.2.2.1,(z5.2.2.2.1,(IntKind.wrap .i64 (z5.2.2.2.2.1+(1:Int)),(List.append z5.2.2.2.2.2.2.1 ([gshl .i64 z5.2.1 z5.1]:List Int),())))))) else none))) else some (.inr (Sum.inl (st.2.2.2.2.1,())))
theorem le_sample_Up_l0 (st):Le (C_sample_Up_l0 st) (F_sample_Up_l0 st):=by
 unfold C_sample_Up_l0 F_sample_Up_l0
 try dsimp only
 repeat' (first|exact Lr _|exact le_sample_wide _|apply Lf|refine Lb ?_ fun _=>?_|(rename_i w;cases w)|(rename_i w _;cases w))
def C_sample_Up (x:((List Int)×Int)):Option ((List Int)×Int):= (show Option Z18 from bif decide (x.2<(0:Int)) then some (x.1,(x.2,(true,()))) else some (x.1,(x.2,(decide (x.2 > (30:Int)),())))).bind fun z1=> bif z1.2.2.1 then some (([]:(List Int)),(1:Int)) else ((iterN C_sample_Up_l0 400 (z1.2.1,(z1.1,(((List.length z1.1:Nat):Int),((0:Int),(([]:(List Int)),())))))).bind fun w6=> match w6 with |.inl a7=>some (a7.1,(0:Int)) |.inr b8=>some (b8.2.1,b8.1))
theorem le_sample_Up (x):Le (C_sample_Up x) (F_sample_Up x):=by
 unfold C_sample_Up F_sample_Up
 try dsimp only
 repeat' (first|exact Lr _|exact Li le_sample_Up_l0|apply Lf|refine Lb ?_ fun _=>?_|(rename_i w;cases w)|(rename_i w _;cases w))
def C_sub_back_l0 (st:Z191):Option (Z191 ⊕ ((List Int)×Unit)):= bif decide (st.2.1<st.1) then ((gidx st.2.2.2.1.2.2.2.2.2.2.2.2.1 (0:Int)).bind fun x1=> bif lim ((List.length st.2.2.1)+1) then some (.inl (st.1,(IntKind.wrap .i64 (st.2.1+(1:Int)),(List.append st.2.2.1 ([x1]:List Int),(st.2.2.2.1,()))))) else none) else some (.inr (st.2.2.1,()))
theorem le_sub_back_l0 (st):Le (C_sub_back_l0 st) (F_sub_back_l0 st):=by
 unfold C_sub_back_l0 F_sub_back_l0
 try dsimp only
 repeat' (first|exact Lr _|apply Lf|refine Lb ?_ fun _=>?_|(rename_i w;cases w)|(rename_i w _;cases w))
def C_sub_back (x:Z172):Option ((List Int)×Int):= (show Option (Z186 ⊕ Z5) from bif x.1.1==(0:Int) then ((iterN C_sub_back_l0 400 (x.2,((0:Int),(([]:(List Int)),(x.1,()))))).bind fun w2=> some (Sum.inr (((0:Int),(w2.1,()))))) else (bif x.1.1==(1:Int) then some (Sum.inl (x.1.2.2.2.2.2.2.2.2.1,((0:Int),(x.1,())))) else (bif x.1.1==(2:Int) then ((C_fixed_Back (x.1.2.2.2.2.2.2.2.2.1,(x.1.2.2.2.2.2.2.2.2.2.2.1,x.1.2.2.1))).bind fun y3=> some (Sum.inl (y3.1,(y3.2,(x.1,()))))) else (bif x.1.1==(3:Int) then ((C_linear_Back (x.1.2.2.2.2.2.2.2.2.1,(x.1.2.2.2.2.2.2.2.2.2.2.1,(x.1.2.2.2.2.2.1,x.1.2.2.2.1)))).bind fun y4=> some (Sum.inl (y4.1,(y4.2,(x.1,()))))) else (bif x.1.1==(4:Int) then ((C_linear_Back (x.1.2.2.2.2.2.2.2.2.1,(x.1.2.2.2.2.2.2.2.2.2.2.1,(x.1.2.2.2.2.2.1,x.1.2.2.2.1)))).bind fun y5=> bif y5.2==(0:Int) then ((C_long_Back (y5.1,(x.1.2.2.2.2.1,x.1.2.2.2.2.2.2.1))).bind fun y6=> some (Sum.inl (y6.1,(y6.2,(x.1,()))))) else some (Sum.inl (y5.1,(y5.2,(x.1,()))))) else (bif x.1.1==(5:Int) then ((C_learn_Back (x.1.2.2.2.2.2.2.2.2.2.2.1,x.1.2.2.2.2.2.2.2.1)).bind fun y7=> some (Sum.inl (y7.1,(y7.2,(x.1,()))))) else some (Sum.inl (([]:(List Int)),((0:Int),(x.1,())))))))))).bind fun z8=> match z8 with |.inl a9=>(bif a9.2.1 != (0:Int) then some (([]:(List Int)),a9.2.1) else ((C_sample_Up (a9.1,a9.2.2.1.2.1)).bind fun y11=> some (y11.1,y11.2))) |.inr b10=>some (b10.2.1,b10.1)
theorem le_sub_back (x):Le (C_sub_back x) (F_sub_back x):=by
 unfold C_sub_back F_sub_back
 try dsimp only
 repeat' (first|exact Lr _|exact le_fixed_Back _|exact le_linear_Back _|exact le_long_Back _|exact le_learn_Back _|exact le_sample_Up _|exact Li le_sub_back_l0|apply Lf|refine Lb ?_ fun _=>?_|(rename_i w;cases w)|(rename_i w _;cases w))
def C_sub_Row (x:Z172):Option ((List Int)×Int):= (C_sub_stated (x.1,x.2)).bind fun y1=> bif !y1 then some (([]:(List Int)),(1:Int)) else ((C_sub_back (x.1,x.2)).bind fun y2=> bif y2.2 != (0:Int) then some (([]:(List Int)),(1:Int)) else some (y2.1,(0:Int)))
theorem le_sub_Row (x):Le (C_sub_Row x) (F_sub_Row x):=by
 unfold C_sub_Row F_sub_Row
 try dsimp only
 repeat' (first|exact Lr _|exact le_sub_stated _|exact le_sub_back _|apply Lf|refine Lb ?_ fun _=>?_|(rename_i w;cases w)|(rename_i w _;cases w))
def C_sub_May (x:Z172):Option Bool:= (C_sub_Row (x.1,x.2)).bind fun y1=> some (y1.2==(0:Int))
theorem le_sub_May (x):Le (C_sub_May x) (F_sub_May x):=by
 unfold C_sub_May F_sub_May
 try dsimp only
 repeat' (first|exact Lr _|exact le_sub_Row _|apply Lf|refine Lb ?_ fun _=>?_|(rename_i w;cases w)|(rename_i w _;cases w))
def C_bits_Writer_bit (x:Z17):Option Z3:= (show Option Z36 from bif (Int.tmod x.1.2.1 (8:Int))==(0:Int) then (bif lim ((List.length x.1.1)+1) then some (x.2,((List.append x.1.1 ([(0:Int)]:List Int),x.1.2),())) else none) else some (x.2,(x.1,()))).bind fun z1=> bif (decide ((0:Int)≤(IntKind.wrap .i64 (Int.tdiv z1.2.1.2.1 (8:Int)))))&&(decide ((IntKind.wrap .i64 (Int.tdiv z1.2.1.2.1 (8:Int)))<((List.length z1.2.1.1:Nat):Int))) then (bif decide ((IntKind.wrap .i64 ((7:Int)-(Int.tmod z1.2.1.2.1 (8:Int))))<0) then none else (bif (decide ((0:Int)≤(IntKind.wrap .i64 (Int.tdiv z1.2.1.2.1 (8:Int)))))&&(decide ((IntKind.wrap .i64 (Int.tdiv z1.2.1.2.1 (8:Int)))<((List.length z1.2.1.1:Nat):Int))) then some (List.set z1.2.1.1 (Int.toNat (IntKind.wrap .i64 (Int.tdiv z1.2.1.2.1 (8:Int)))) (bits .u8 .or (List.getD z1.2.1.1 (Int.toNat (IntKind.wrap .i64 (Int.tdiv z1.2.1.2.1 (8:Int)))) (0:Int)) (gshl .u8 z1.1 (IntKind.wrap .i64 ((7:Int)-(Int.tmod z1.2.1.2.1 (8:Int)))))),(IntKind.wrap .i64 (z1.2.1.2.1+(1:Int)),z1.2.1.2.2)) else none)) else none
theorem le_bits_Writer_bit (x):Le (C_bits_Writer_bit x) (F_bits_Writer_bit x):=by
 unfold C_bits_Writer_bit F_bits_Writer_bit
 try dsimp only
 repeat' (first|exact Lr _|apply Lf|refine Lb ?_ fun _=>?_|(rename_i w;cases w)|(rename_i w _;cases w))
def C_bits_Writer_Put_l0 (st:Z56):Option Z126:= bif decide (st.2.1≥(0:Int)) then (bif decide (st.2.1<0) then none else ((C_bits_Writer_bit (st.2.2.1,IntKind.wrap .u8 (bits .u64 .and (gshr .u64 st.1 st.2.1) (1:Int)))).bind fun y2=> some (.inl (st.1,(IntKind.wrap .i64 (st.2.1-(1:Int)),(y2,())))))) else some (.inr (st.2.2.1,()))
theorem le_bits_Writer_Put_l0 (st):Le (C_bits_Writer_Put_l0 st) (F_bits_Writer_Put_l0 st):=by
 unfold C_bits_Writer_Put_l0 F_bits_Writer_Put_l0
 try dsimp only
 repeat' (first|exact Lr _|exact le_bits_Writer_bit _|apply Lf|refine Lb ?_ fun _=>?_|(rename_i w;cases w)|(rename_i w _;cases w))
def C_bits_Writer_Put (x:Z31):Option Z16:= (show Option (Int×Z58) from bif decide (x.2.2<(0:Int)) then some (x.2.1,(x.2.2,(true,(x.1,())))) else (bif decide (x.2.2 > (64:Int)) then some (x.2.1,(x.2.2,(true,(x.1,())))) else (bif decide (x.2.2<0) then none else some (x.2.1,(x.2.2,((gshr .u64 x.2.1 x.2.2) != (0:Int),(x.1,()))))))).bind fun z1=> bif z1.2.2.1 then some ((1:Int),z1.2.2.2.1) else ((iterN C_bits_Writer_Put_l0 400 (z1.1,(IntKind.wrap .i64 (z1.2.1-(1:Int)),(z1.2.2.2.1,())))).bind fun w3=> some ((0:Int),w3.1))
theorem le_bits_Writer_Put (x):Le (C_bits_Writer_Put x) (F_bits_Writer_Put x):=by
 unfold C_bits_Writer_Put F_bits_Writer_Put
 try dsimp only
 repeat' (first|exact Lr _|exact Li le_bits_Writer_Put_l0|apply Lf|refine Lb ?_ fun _=>?_|(rename_i w;cases w)|(rename_i w _;cases w))
def C_sample_Low (x:Int):Option Int:= (show Option (Int×(Bool×Unit)) from bif decide (x<(1:Int)) then some (x,(true,())) else some (x,(decide (x > (31:Int)),()))).bind fun z1=> bif z1.2.1 then some (0:Int) else (bif decide ((IntKind.wrap .i64 (z1.1-(1:Int)))<0) then none else some (gshl .i64 (-1:Int) (IntKind.wrap .i64 (z1.1-(1:Int)))))
theorem le_sample_Low (x):Le (C_sample_Low x) (F_sample_Low x):=by
 unfold C_sample_Low F_sample_Low
 try dsimp only
 repeat' (first|exact Lr _|apply Lf|refine Lb ?_ fun _=>?_|(rename_i w;cases w)|(rename_i w _;cases w))
def C_sample_High (x:Int):Option Int:= (show Option (Int×(Bool×Unit)) from bif decide (x<(1:Int)) then some (x,(true,())) else some (x,(decide (x > (31:Int)),()))).bind fun z1=> bif z1.2.1 then some (0:Int) else (bif decide ((IntKind.wrap .i64 (z1.1-(1:Int)))<0) then none else some (IntKind.wrap .i64 ((gshl .i64 (1:Int) (IntKind.wrap .i64 (z1.1-(1:Int))))-(1:Int))))
theorem le_sample_High (x):Le (C_sample_High x) (F_sample_High x):=by
 unfold C_sample_High F_sample_High
 try dsimp only
 repeat' (first|exact Lr _|apply Lf|refine Lb ?_ fun _=>?_|(rename_i w;cases w)|(rename_i w _;cases w))
def C_sample_Fits (x:(Int×Int)):Option Bool:= bif decide (x.2≥(1:Int)) then (bif decide (x.2≤(31:Int)) then ((C_sample_Low x.2).bind fun y1=> bif decide (y1≤x.1) then ((C_sample_High x.2).bind fun y2=> some (decide (x.1≤y2))) else some false) else some false) else some false
theorem le_sample_Fits (x):Le (C_sample_Fits x) (F_sample_Fits x):=by
 unfold C_sample_Fits F_sample_Fits
 try dsimp only
 repeat' (first|exact Lr _|exact le_sample_Low _|exact le_sample_High _|apply Lf|refine Lb ?_ fun _=>?_|(rename_i w;cases w)|(rename_i w _;cases w))
def C_sample_Width_l0 (st:Z51):Option (Z51 ⊕ Z29):= bif st.2.1 != (0:Int) then (bif decide (st.1<(32:Int)) then ((C_sample_Fits (st.2.1,st.1)).bind fun y2=> bif !y2 then some (.inl (IntKind.wrap .i64 (st.1+(1:Int)),(st.2.1,(st.2.2.1,(st.2.2.2.1,(st.2.2.2.2.1,())))))) else some (.inr (st.1,(st.2.2.1,(st.2.2.2.1,(st.2.2.2.2.1,())))))) else some (.inr (st.1,(st.2.2.1,(st.2.2.2.1,(st.2.2.2.2.1,())))))) else some (.inr (st.1,(st.2.2.1,(st.2.2.2.1,(st.2.2.2.2.1,())))))
theorem le_sample_Width_l0 (st):Le (C_sample_Width_l0 st) (F_sample_Width_l0 st):=by
 unfold C_sample_Width_l0 F_sample_Width_l0
 try dsimp only
 repeat' (first|exact Lr _|exact le_sample_Fits _|apply Lf|refine Lb ?_ fun _=>?_|(rename_i w;cases w)|(rename_i w _;cases w))
def C_sample_Width_l1 (st:Z29):Option Z71:= bif decide (st.2.2.2.1<st.2.2.1) then ((gidx st.2.1 st.2.2.2.1).bind fun x1=> (iterN C_sample_Width_l0 400 (st.1,(x1,(st.2.1,(st.2.2.1,(st.2.2.2.1,())))))).bind fun w3=> some (.inl (w3.1,(w3.2.1,(w3.2.2.1,(IntKind.wrap .i64 (w3.2.2.2.1+(1:Int)),())))))) else some (.inr (st.1,()))
theorem le_sample_Width_l1 (st):Le (C_sample_Width_l1 st) (F_sample_Width_l1 st):=by
 unfold C_sample_Width_l1 F_sample_Width_l1
 try dsimp only
 repeat' (first|exact Lr _|exact Li le_sample_Width_l0|apply Lf|refine Lb ?_ fun _=>?_|(rename_i w;cases w)|(rename_i w _;cases w))
def C_sample_Width (x:(List Int)):Option Int:= (iterN C_sample_Width_l1 400 ((0:Int),(x,(((List.length x:Nat):Int),((0:Int),()))))).bind fun w4=> some w4.1
theorem le_sample_Width (x):Le (C_sample_Width x) (F_sample_Width x):=by
 unfold C_sample_Width F_sample_Width
 try dsimp only
 repeat' (first|exact Lr _|exact Li le_sample_Width_l1|apply Lf|refine Lb ?_ fun _=>?_|(rename_i w;cases w)|(rename_i w _;cases w))
def C_sub_putSigned (x:Z31):Option Z3:= bif decide (x.2.2<0) then none else ((C_bits_Writer_Put (x.1,(bits .u64 .and (IntKind.wrap .u64 x.2.1) (IntKind.wrap .u64 ((gshl .u64 (1:Int) x.2.2)-(1:Int))),x.2.2))).bind fun y1=> some y1.2)
theorem le_sub_putSigned (x):Le (C_sub_putSigned x) (F_sub_putSigned x):=by
 unfold C_sub_putSigned F_sub_putSigned
 try dsimp only
 repeat' (first|exact Lr _|exact le_bits_Writer_Put _|apply Lf|refine Lb ?_ fun _=>?_|(rename_i w;cases w)|(rename_i w _;cases w))
def C_sub_putCoefs_l0 (st:Z104):Option Z147:= bif decide (st.2.2.2.1<st.2.2.1) then ((gidx st.2.1 st.2.2.2.1).bind fun x6=> (C_sub_putSigned (st.2.2.2.2.1,(x6,st.1))).bind fun y7=> some (.inl (st.1,(st.2.1,(st.2.2.1,(IntKind.wrap .i64 (st.2.2.2.1+(1:Int)),(y7,()))))))) else some (.inr (st.2.2.2.2.1,()))
theorem le_sub_putCoefs_l0 (st):Le (C_sub_putCoefs_l0 st) (F_sub_putCoefs_l0 st):=by
 unfold C_sub_putCoefs_l0 F_sub_putCoefs_l0
 try dsimp only
 repeat' (first|exact Lr _|exact le_sub_putSigned _|apply Lf|refine Lb ?_ fun _=>?_|(rename_i w;cases w)|(rename_i w _;cases w))
def C_sub_putCoefs (x:(Z3×Z170)):Option Z3:= (C_bits_Writer_Put (x.1,(IntKind.wrap .u64 (IntKind.wrap .i64 (((List.length x.2.2.2.2.2.2.1:Nat):Int)-(1:Int))),(5:Int)))).bind fun y1=> (C_bits_Writer_Put (y1.2,(IntKind.wrap .u64 x.2.2.2.2.1,(4:Int)))).bind fun y2=> (C_sample_Width x.2.2.2.2.2.2.1).bind fun y3=> (C_bits_Writer_Put (y2.2,(IntKind.wrap .u64 y3,(5:Int)))).bind fun y4=> (iterN C_sub_putCoefs_l0 400 (y3,(x.2.2.2.2.2.2.1,(((List.length x.2.2.2.2.2.2.1:Nat):Int),((0:Int),(y4.2,())))))).bind fun w8=> some w8.1
theorem le_sub_putCoefs (x):Le (C_sub_putCoefs x) (F_sub_putCoefs x):=by
 unfold C_sub_putCoefs F_sub_putCoefs
 try dsimp only
 repeat' (first|exact Lr _|exact le_bits_Writer_Put _|exact le_sample_Width _|exact Li le_sub_putCoefs_l0|apply Lf|refine Lb ?_ fun _=>?_|(rename_i w;cases w)|(rename_i w _;cases w))
def C_parts_right_l0 (st:Z14):Option Z74:= bif decide (st.2.2.1<st.2.1) then ((gidx st.1 st.2.2.1).bind fun x3=> (show Option Z34 from bif decide (x3<(-1073741824:Int)) then some (st.1,(st.2.1,(st.2.2.1,(true,())))) else some (st.1,(st.2.1,(st.2.2.1,(decide (x3≥(1073741824:Int)),()))))).bind fun z4=> bif z4.2.2.2.1 then some (.inr (Sum.inr ((false,())))) else some (.inl (z4.1,(z4.2.1,(IntKind.wrap .i64 (z4.2.2.1+(1:Int)),()))))) else some (.inr (Sum.inl ()))
theorem le_parts_right_l0 (st):Le (C_parts_right_l0 st) (F_parts_right_l0 st):=by
 unfold C_parts_right_l0 F_parts_right_l0
 try dsimp only
 repeat' (first|exact Lr _|apply Lf|refine Lb ?_ fun _=>?_|(rename_i w;cases w)|(rename_i w _;cases w))
def C_parts_right (x:Z1):Option Bool:= (show Option Z6 from (C_parts_row (x.1,x.2.1)).bind fun y1=> bif !y1 then some (x.2.2,(true,())) else some (x.2.2,(((List.length x.2.2:Nat):Int) != (IntKind.wrap .i64 (x.1-x.2.1)),()))).bind fun z2=> bif z2.2.1 then some false else ((iterN C_parts_right_l0 400 (z2.1,(((List.length z2.1:Nat):Int),((0:Int),())))).bind fun w5=> match w5 with |.inl a6=>some true |.inr b7=>some b7.1)
theorem le_parts_right (x):Le (C_parts_right x) (F_parts_right x):=by
 unfold C_parts_right F_parts_right
 try dsimp only
 repeat' (first|exact Lr _|exact le_parts_row _|exact Li le_parts_right_l0|apply Lf|refine Lb ?_ fun _=>?_|(rename_i w;cases w)|(rename_i w _;cases w))
def C_parts_raw (x:(List Int)):Option Int:= (C_sample_Width x).bind fun y1=> some (IntKind.wrap .i64 ((5:Int)+(IntKind.wrap .i64 (y1*((List.length x:Nat):Int)))))
theorem le_parts_raw (x):Le (C_parts_raw x) (F_parts_raw x):=by
 unfold C_parts_raw F_parts_raw
 try dsimp only
 repeat' (first|exact Lr _|exact le_sample_Width _|apply Lf|refine Lb ?_ fun _=>?_|(rename_i w;cases w)|(rename_i w _;cases w))
def C_rice_parameter (x:Int):Option Bool:= bif decide ((0:Int)≤x) then some (decide (x≤(25:Int))) else some false
theorem le_rice_parameter (x):Le (C_rice_parameter x) (F_rice_parameter x):=by
 unfold C_rice_parameter F_rice_parameter
 try dsimp only
 repeat' (first|exact Lr _|apply Lf|refine Lb ?_ fun _=>?_|(rename_i w;cases w)|(rename_i w _;cases w))
def C_rice_wide (x:Int):Option Bool:= bif decide ((-1073741824:Int)≤x) then some (decide (x<(1073741824:Int))) else some false
theorem le_rice_wide (x):Le (C_rice_wide x) (F_rice_wide x):=by
 unfold C_rice_wide F_rice_wide
 try dsimp only
 repeat' (first|exact Lr _|apply Lf|refine Lb ?_ fun _=>?_|(rename_i w;cases w)|(rename_i w _;cases w))
def C_rice_Fold (x:Int):Option Int:= (C_rice_wide x).bind fun y1=> bif !y1 then some (0:Int) else (bif decide (x≥(0:Int)) then some (IntKind.wrap .u64 (IntKind.wrap .i64 ((2:Int)*x))) else some (IntKind.wrap .u64 (IntKind.wrap .i64 ((IntKind.wrap .i64 ((-2:Int)*x))-(1:Int)))))
theorem le_rice_Fold (x):Le (C_rice_Fold x) (F_rice_Fold x):=by
 unfold C_rice_Fold F_rice_Fold
 try dsimp only
 repeat' (first|exact Lr _|exact le_rice_wide _|apply Lf|refine Lb ?_ fun _=>?_|(rename_i w;cases w)|(rename_i w _;cases w))
def C_rice_Cost (x:(Int×Int)):Option Int:= (show Option Z10 from (C_rice_parameter x.1).bind fun y1=> bif !y1 then some (x.1,(x.2,(true,()))) else ((C_rice_wide x.2).bind fun y2=> some (x.1,(x.2,(!y2,()))))).bind fun z3=> bif z3.2.2.1 then some (0:Int) else ((C_rice_Fold z3.2.1).bind fun y4=> bif decide (z3.1<0) then none else (bif decide ((IntKind.wrap .i64 (gshr .u64 y4 z3.1))<(32:Int)) then some (IntKind.wrap .i64 ((IntKind.wrap .i64 ((IntKind.wrap .i64 (gshr .u64 y4 z3.1))+(1:Int)))+z3.1)) else some (65:Int)))
theorem le_rice_Cost (x):Le (C_rice_Cost x) (F_rice_Cost x):=by
 unfold C_rice_Cost F_rice_Cost
 try dsimp only
 repeat' (first|exact Lr _|exact le_rice_parameter _|exact le_rice_wide _|exact le_rice_Fold _|apply Lf|refine Lb ?_ fun _=>?_|(rename_i w;cases w)|(rename_i w _;cases w))
def C_rice_Sum_l0 (st:Z51):Option Z91:= bif decide (st.2.2.2.2.1<st.2.2.2.1) then ((gidx st.2.2.1 st.2.2.2.2.1).bind fun x1=> (C_rice_Cost (st.1,x1)).bind fun y2=> some (.inl (st.1,(IntKind.wrap .i64 (st.2.1+y2),(st.2.2.1,(st.2.2.2.1,(IntKind.wrap .i64 (st.2.2.2.2.1+(1:Int)),()))))))) else some (.inr (st.2.1,()))
theorem le_rice_Sum_l0 (st):Le (C_rice_Sum_l0 st) (F_rice_Sum_l0 st):=by
 unfold C_rice_Sum_l0 F_rice_Sum_l0
 try dsimp only
 repeat' (first|exact Lr _|exact le_rice_Cost _|apply Lf|refine Lb ?_ fun _=>?_|(rename_i w;cases w)|(rename_i w _;cases w))
def C_rice_Sum (x:(Int×(List Int))):Option Int:= (iterN C_rice_Sum_l0 400 (x.1,((0:Int),(x.2,(((List.length x.2:Nat):Int),((0:Int),())))))).bind fun w3=> some w3.1
theorem le_rice_Sum (x):Le (C_rice_Sum x) (F_rice_Sum x):=by
 unfold C_rice_Sum F_rice_Sum
 try dsimp only
 repeat' (first|exact Lr _|exact Li le_rice_Sum_l0|apply Lf|refine Lb ?_ fun _=>?_|(rename_i w;cases w)|(rename_i w _;cases w))
def C_parts_Cost_l0 (st:Z122):Option (Z122 ⊕ (Int×Unit)):= bif decide (st.2.2.2.1<st.2.2.1) then (bif (decide ((0:Int)≤st.2.2.2.1))&&(decide (st.2.2.2.1<((List.length st.2.2.2.2.1:Nat):Int))) then (bif (decide ((0:Int)≤(List.getD st.2.2.2.2.1 (Int.toNat st.2.2.2.1) (0:Int))))&&(decide ((List.getD st.2.2.2.2.1 (Int.toNat st.2.2.2.1) (0:Int))≤((List.length st.1:Nat):Int))) then (bif (decide ((0:Int)≤(List.getD st.2.2.2.2.1 (Int.toNat st.2.2.2.1) (0:Int))))&&(decide ((List.getD st.2.2.2.2.1 (Int.toNat st.2.2.2.1) (0:Int))≤((List.length st.1:Nat):Int))) then ((gidx st.2.2.2.2.2.1.2.1 st.2.2.2.1).bind fun x5=> bif x5==(31:Int) then ((C_parts_raw (List.take (Int.toNat (List.getD st.2.2.2.2.1 (Int.toNat st.2.2.2.1) (0:Int))) st.1)).bind fun y6=> some (.inl (List.drop (Int.toNat (List.getD st.2.2.2.2.1 (Int.toNat st.2.2.2.1) (0:Int))) (List.take (List.length st.1) st.1),(IntKind.wrap .i64 (st.2.1+(IntKind.wrap .i64 ((5:Int)+y6))),(st.2.2.1,(IntKind.wrap .i64 (st.2.2.2.1+(1:Int)),(st.2.2.2.2.1,(st.2.2.2.2.2.1,())))))))) else ((gidx st.2.2.2.2.2.1.2.1 st.2.2.2.1).bind fun x7=> (C_rice_Sum (x7,List.take (Int.toNat (List.getD st.2.2.2.2.1 (Int.toNat st.2.2.2.1) (0:Int))) st.1)).bind fun y8=> some (.inl (List.drop (Int.toNat (List.getD st.2.2.2.2.1 (Int.toNat st.2.2.2.1) (0:Int))) (List.take (List.length st.1) st.1),(IntKind.wrap .i64 (st.2.1+(IntKind.wrap .i64 ((5:Int)+y8))),(st.2.2.1,(IntKind.wrap .i64 (st.2.2.2.1+(1:Int)),(st.2.2.2.2.1,(st.2.2.2.2.2.1,()))))))))) else none) else none) else none) else some (.inr (st.2.1,()))
theorem le_parts_Cost_l0 (st):Le (C_parts_Cost_l0 st) (F_parts_Cost_l0 st):=by
 unfold C_parts_Cost_l0 F_parts_Cost_l0
 try dsimp only
 repeat' (first|exact Lr _|exact le_parts_raw _|exact le_rice_Sum _|apply Lf|refine Lb ?_ fun _=>?_|(rename_i w;cases w)|(rename_i w _;cases w))
def C_parts_Cost (x:Z62):Option Int:= (show Option (Int×(Int×((List Int)×Z40))) from (C_parts_May (x.1,(x.2.1,x.2.2.1))).bind fun y1=> bif !y1 then some (x.2.1,(x.2.2.1,(x.2.2.2,(true,(x.1,()))))) else ((C_parts_right (x.2.1,(x.2.2.1,x.2.2.2))).bind fun y2=> some (x.2.1,(x.2.2.1,(x.2.2.2,(!y2,(x.1,()))))))).bind fun z3=> bif z3.2.2.2.1 then some (0:Int) else ((C_parts_Sizes (z3.2.2.2.2.1.1,(z3.1,z3.2.1))).bind fun y4=> (iterN C_parts_Cost_l0 400 (z3.2.2.1,((4:Int),(((List.length y4:Nat):Int),((0:Int),(y4,(z3.2.2.2.2.1,()))))))).bind fun w9=> some w9.1)
theorem le_parts_Cost (x):Le (C_parts_Cost x) (F_parts_Cost x):=by
 unfold C_parts_Cost F_parts_Cost
 try dsimp only
 repeat' (first|exact Lr _|exact le_parts_May _|exact le_parts_right _|exact le_parts_Sizes _|exact Li le_parts_Cost_l0|apply Lf|refine Lb ?_ fun _=>?_|(rename_i w;cases w)|(rename_i w _;cases w))
def C_bits_Writer_Unary_l0 (st:Z56):Option Z126:= bif decide (st.2.1<st.1) then ((C_bits_Writer_bit (st.2.2.1,(0:Int))).bind fun y2=> some (.inl (st.1,(IntKind.wrap .i64 (st.2.1+(1:Int)),(y2,()))))) else some (.inr (st.2.2.1,()))
theorem le_bits_Writer_Unary_l0 (st):Le (C_bits_Writer_Unary_l0 st) (F_bits_Writer_Unary_l0 st):=by
 unfold C_bits_Writer_Unary_l0 F_bits_Writer_Unary_l0
 try dsimp only
 repeat' (first|exact Lr _|exact le_bits_Writer_bit _|apply Lf|refine Lb ?_ fun _=>?_|(rename_i w;cases w)|(rename_i w _;cases w))
def C_bits_Writer_Unary (x:Z17):Option Z16:= (show Option Z58 from bif decide (x.2<(0:Int)) then some (x.2,(true,(x.1,()))) else some (x.2,(decide (x.2 > (4096:Int)),(x.1,())))).bind fun z1=> bif z1.2.1 then some ((1:Int),z1.2.2.1) else ((iterN C_bits_Writer_Unary_l0 400 (z1.1,((0:Int),(z1.2.2.1,())))).bind fun w3=> (C_bits_Writer_bit (w3.1,(1:Int))).bind fun y4=> some ((0:Int),y4))
theorem le_bits_Writer_Unary (x):Le (C_bits_Writer_Unary x) (F_bits_Writer_Unary x):=by
 unfold C_bits_Writer_Unary F_bits_Writer_Unary
 try dsimp only
 repeat' (first|exact Lr _|exact le_bits_Writer_bit _|exact Li le_bits_Writer_Unary_l0|apply Lf|refine Lb ?_ fun _=>?_|(rename_i w;cases w)|(rename_i w _;cases w))
def C_rice_Put_l0 (st:Z123):Option (Z123 ⊕ ((Int×((List Int)×Z21)) ⊕ Z36)):= bif decide (st.2.2.2.2.1<st.2.2.2.1) then ((gidx st.2.2.1 st.2.2.2.2.1).bind fun x2=> (C_rice_wide x2).bind fun y3=> bif !y3 then some (.inr (Sum.inr (((1:Int),(st.2.2.2.2.2.1,()))))) else some (.inl (st.1,(st.2.1,(st.2.2.1,(st.2.2.2.1,(IntKind.wrap .i64 (st.2.2.2.2.1+(1:Int)),(st.2.2.2.2.2.1,())))))))) else some (.inr (Sum.inl (st.1,(st.2.1,(st.2.2.2.2.2.1,())))))
theorem le_rice_Put_l0 (st):Le (C_rice_Put_l0 st) (F_rice_Put_l0 st):=by
 unfold C_rice_Put_l0 F_rice_Put_l0
 try dsimp only
 repeat' (first|exact Lr _|exact le_rice_wide _|apply Lf|refine Lb ?_ fun _=>?_|(rename_i w;cases w)|(rename_i w _;cases w))
def C_rice_Put_l1 (st:Z104):Option Z147:= bif decide (st.2.2.2.1<st.2.2.1) then ((gidx st.2.1 st.2.2.2.1).bind fun x7=> (C_rice_Fold x7).bind fun y8=> bif decide (st.1<0) then none else (bif decide ((gshr .u64 y8 st.1)<(32:Int)) then ((C_bits_Writer_Unary (st.2.2.2.2.1,IntKind.wrap .i64 (gshr .u64 y8 st.1))).bind fun y9=> bif decide (st.1<0) then none else ((C_bits_Writer_Put (y9.2,(IntKind.wrap .u64 (y8-(gshl .u64 (gshr .u64 y8 st.1) st.1)),st.1))).bind fun y10=> some (.inl (st.1,(st.2.1,(st.2.2.1,(IntKind.wrap .i64 (st.2.2.2.1+(1:Int)),(y10.2,())))))))) else ((C_bits_Writer_Unary (st.2.2.2.2.1,(32:Int))).bind fun y11=> (C_bits_Writer_Put (y11.2,(y8,(32:Int)))).bind fun y12=> some (.inl (st.1,(st.2.1,(st.2.2.1,(IntKind.wrap .i64 (st.2.2.2.1+(1:Int)),(y12.2,()))))))))) else some (.inr (st.2.2.2.2.1,()))
theorem le_rice_Put_l1 (st):Le (C_rice_Put_l1 st) (F_rice_Put_l1 st):=by
 unfold C_rice_Put_l1 F_rice_Put_l1
 try dsimp only
 repeat' (first|exact Lr _|exact le_rice_Fold _|exact le_bits_Writer_Unary _|exact le_bits_Writer_Put _|apply Lf|refine Lb ?_ fun _=>?_|(rename_i w;cases w)|(rename_i w _;cases w))
def C_rice_Put (x:(Z3×(Int×(List Int)))):Option Z16:= (C_rice_parameter x.2.1).bind fun y1=> bif !y1 then some ((1:Int),x.1) else ((iterN C_rice_Put_l0 400 (x.2.1,(x.2.2,(x.2.2,(((List.length x.2.2:Nat):Int),((0:Int),(x.1,()))))))).bind fun w4=> match w4 with |.inl a5=>((iterN C_rice_Put_l1 400 (a5.1,(a5.2.1,(((List.length a5.2.1:Nat):Int),((0:Int),(a5.2.2.1,())))))).bind fun w13=> some ((0:Int),w13.1)) |.inr b6=>some (b6.1,b6.2.1))
theorem le_rice_Put (x):Le (C_rice_Put x) (F_rice_Put x):=by
 unfold C_rice_Put F_rice_Put
 try dsimp only
 repeat' (first|exact Lr _|exact le_rice_parameter _|exact Li le_rice_Put_l0|exact Li le_rice_Put_l1|apply Lf|refine Lb ?_ fun _=>?_|(rename_i w;cases w)|(rename_i w _;cases w))
def C_parts_Put_l0 (st:Z165):Option (Z165 ⊕ Z144):= bif decide (st.2.2.2.2.2.2.1<st.2.2.2.2.2.1) then ((gidx st.2.2.2.2.1 st.2.2.2.2.2.2.1).bind fun x11=> bif decide (st.2.1<0) then none else ((C_bits_Writer_Put (st.2.2.2.2.2.2.2.2.1,(bits .u64 .and (IntKind.wrap .u64 x11) (IntKind.wrap .u64 ((gshl .u64 (1:Int) st.2.1)-(1:Int))),st.2.1))).bind fun y12=> some (.inl (st.1,(st.2.1,(st.2.2.1,(st.2.2.2.1,(st.2.2.2.2.1,(st.2.2.2.2.2.1,(IntKind.wrap .i64 (st.2.2.2.2.2.2.1+(1:Int)),(st.2.2.2.2.2.2.2.1,(y12.2,(st.2.2.2.2.2.2.2.2.2.1,()))))))))))))) else some (.inr (st.1,(st.2.2.1,(st.2.2.2.1,(st.2.2.2.2.2.2.2.1,(st.2.2.2.2.2.2.2.2.1,(st.2.2.2.2.2.2.2.2.2.1,())))))))
theorem le_parts_Put_l0 (st):Le (C_parts_Put_l0 st) (F_parts_Put_l0 st):=by
 unfold C_parts_Put_l0 F_parts_Put_l0
 try dsimp only
 repeat' (first|exact Lr _|exact le_bits_Writer_Put _|apply Lf|refine Lb ?_ fun _=>?_|(rename_i w;cases w)|(rename_i w _;cases w))
def C_parts_Put_l1 (st:Z144):Option (Z144 ⊕ Z21):= bif decide (st.2.2.1<st.2.1) then (bif (decide ((0:Int)≤st.2.2.1))&&(decide (st.2.2.1<((List.length st.2.2.2.1:Nat):Int))) then (bif (decide ((0:Int)≤(List.getD st.2.2.2.1 (Int.toNat st.2.2.1) (0:Int))))&&(decide ((List.getD st.2.2.2.1 (Int.toNat st.2.2.1) (0:Int))≤((List.length st.1:Nat):Int))) then (bif (decide ((0:Int)≤(List.getD st.2.2.2.1 (Int.toNat st.2.2.1) (0:Int))))&&(decide ((List.getD st.2.2.2.1 (Int.toNat st.2.2.1) (0:Int))≤((List.length st.1:Nat):Int))) then ((gidx st.2.2.2.2.2.1.2.1 st.2.2.1).bind fun x4=> (C_bits_Writer_Put (st.2.2.2.2.1,(IntKind.wrap .u64 x4,(5:Int)))).bind fun y5=> (gidx st.2.2.2.2.2.1.2.1 st.2.2.1).bind fun x6=> bif x6 != (31:Int) then ((gidx st.2.2.2.2.2.1.2.1 st.2.2.1).bind fun x7=> (C_rice_Put (y5.2,(x7,List.take (Int.toNat (List.getD st.2.2.2.1 (Int.toNat st.2.2.1) (0:Int))) st.1))).bind fun y8=> some (.inl (List.drop (Int.toNat (List.getD st.2.2.2.1 (Int.toNat st.2.2.1) (0:Int))) (List.take (List.length st.1) st.1),(st.2.1,(IntKind.wrap .i64 (st.2.2.1+(1:Int)),(st.2.2.2.1,(y8.2,(st.2.2.2.2.2.1,())))))))) else ((C_sample_Width (List.take (Int.toNat (List.getD st.2.2.2.1 (Int.toNat st.2.2.1) (0:Int))) st.1)).bind fun y9=> (C_bits_Writer_Put (y5.2,(IntKind.wrap .u64 y9,(5:Int)))).bind fun y10=> (iterN C_parts_Put_l0 400 (List.drop (Int.toNat (List.getD st.2.2.2.1 (Int.toNat st.2.2.1) (0:Int))) (List.take (List.length st.1) st.1),(y9,(st.2.1,(st.2.2.1,(List.take (Int.toNat (List.getD st.2.2.2.1 (Int.toNat st.2.2.1) (0:Int))) st.1,(((List.length (List.take (Int.toNat (List.getD st.2.2.2.1 (Int.toNat st.2.2.1) (0:Int))) st.1):Nat):Int),((0:Int),(st.2.2.2.1,(y10.2,(st.2.2.2.2.2.1,()))))))))))).bind fun w13=> some (.inl (w13.1,(w13.2.1,(IntKind.wrap .i64 (w13.2.2.1+(1:Int)),(w13.2.2.2.1,(w13.2.2.2.2.1,(w13.2.2.2.2.2.1,()))))))))) else none) else none) else none) else some (.inr (st.2.2.2.2.1,()))
theorem le_parts_Put_l1 (st):Le (C_parts_Put_l1 st) (F_parts_Put_l1 st):=by
 unfold C_parts_Put_l1 F_parts_Put_l1
 try dsimp only
 repeat' (first|exact Lr _|exact le_bits_Writer_Put _|exact le_rice_Put _|exact le_sample_Width _|exact Li le_parts_Put_l0|apply Lf|refine Lb ?_ fun _=>?_|(rename_i w;cases w)|(rename_i w _;cases w))
def C_parts_Put (x:(Z3×Z62)):Option Z16:= (C_parts_Cost (x.2.1,(x.2.2.1,(x.2.2.2.1,x.2.2.2.2)))).bind fun y1=> bif y1==(0:Int) then some ((1:Int),x.1) else ((C_bits_Writer_Put (x.1,(IntKind.wrap .u64 x.2.1.1,(4:Int)))).bind fun y2=> (C_parts_Sizes (x.2.1.1,(x.2.2.1,x.2.2.2.1))).bind fun y3=> (iterN C_parts_Put_l1 400 (x.2.2.2.2,(((List.length y3:Nat):Int),((0:Int),(y3,(y2.2,(x.2.1,()))))))).bind fun w14=> some ((0:Int),w14.1))
theorem le_parts_Put (x):Le (C_parts_Put x) (F_parts_Put x):=by
 unfold C_parts_Put F_parts_Put
 try dsimp only
 repeat' (first|exact Lr _|exact le_parts_Cost _|exact le_bits_Writer_Put _|exact le_parts_Sizes _|exact Li le_parts_Put_l1|apply Lf|refine Lb ?_ fun _=>?_|(rename_i w;cases w)|(rename_i w _;cases w))
def C_sub_Put_l0 (st:Z200):Option (Z200 ⊕ Z196):= bif decide (st.2.2.2.1<(3:Int)) then ((gidx st.2.2.1 st.2.2.2.1).bind fun x8=> (C_sub_putSigned (st.2.2.2.2.1,(x8,(8:Int)))).bind fun y9=> some (.inl (st.1,(st.2.1,(st.2.2.1,(IntKind.wrap .i64 (st.2.2.2.1+(1:Int)),(y9,(st.2.2.2.2.2.1,())))))))) else some (.inr (st.1,(st.2.1,(st.2.2.2.2.1,(st.2.2.2.2.2.1,())))))
theorem le_sub_Put_l0 (st):Le (C_sub_Put_l0 st) (F_sub_Put_l0 st):=by
 unfold C_sub_Put_l0 F_sub_Put_l0
 try dsimp only
 repeat' (first|exact Lr _|exact le_sub_putSigned _|apply Lf|refine Lb ?_ fun _=>?_|(rename_i w;cases w)|(rename_i w _;cases w))
def C_sub_Put_l1 (st:Z205):Option (Z205 ⊕ Z196):= bif decide (st.2.2.2.2.1<st.2.2.2.1) then ((gidx st.2.2.1 st.2.2.2.2.1).bind fun x18=> (C_bits_Writer_Put (st.2.2.2.2.2.1,(IntKind.wrap .u64 (IntKind.wrap .i64 (x18.1-(1:Int))),(5:Int)))).bind fun y19=> (C_bits_Writer_Put (y19.2,(IntKind.wrap .u64 x18.2.1,(4:Int)))).bind fun y20=> some (.inl (st.1,(st.2.1,(st.2.2.1,(st.2.2.2.1,(IntKind.wrap .i64 (st.2.2.2.2.1+(1:Int)),(y20.2,(st.2.2.2.2.2.2.1,()))))))))) else some (.inr (st.1,(st.2.1,(st.2.2.2.2.2.1,(st.2.2.2.2.2.2.1,())))))
theorem le_sub_Put_l1 (st):Le (C_sub_Put_l1 st) (F_sub_Put_l1 st):=by
 unfold C_sub_Put_l1 F_sub_Put_l1
 try dsimp only
 repeat' (first|exact Lr _|exact le_bits_Writer_Put _|apply Lf|refine Lb ?_ fun _=>?_|(rename_i w;cases w)|(rename_i w _;cases w))
def C_sub_Put_l2 (st:Z202):Option (Z202 ⊕ Z194):= bif decide (st.2.2.2.2.1<st.2.2.2.1) then ((gidx st.2.2.1 st.2.2.2.2.1).bind fun x23=> (C_sub_putSigned (st.2.2.2.2.2.1,(x23,st.2.1))).bind fun y24=> some (.inl (st.1,(st.2.1,(st.2.2.1,(st.2.2.2.1,(IntKind.wrap .i64 (st.2.2.2.2.1+(1:Int)),(y24,(st.2.2.2.2.2.2.1,()))))))))) else some (.inr (st.1,(st.2.2.2.2.2.1,(st.2.2.2.2.2.2.1,()))))
theorem le_sub_Put_l2 (st):Le (C_sub_Put_l2 st) (F_sub_Put_l2 st):=by
 unfold C_sub_Put_l2 F_sub_Put_l2
 try dsimp only
 repeat' (first|exact Lr _|exact le_sub_putSigned _|apply Lf|refine Lb ?_ fun _=>?_|(rename_i w;cases w)|(rename_i w _;cases w))
def C_sub_Put (x:(Z3×Z172)):Option Z16:= (C_sub_May (x.2.1,x.2.2)).bind fun y1=> bif !y1 then some ((1:Int),x.1) else ((C_sample_Width x.2.1.2.2.2.2.2.2.2.2.1).bind fun y2=> (C_bits_Writer_Put (x.1,(IntKind.wrap .u64 x.2.1.1,(3:Int)))).bind fun y3=> (C_bits_Writer_Put (y3.2,(IntKind.wrap .u64 x.2.1.2.1,(5:Int)))).bind fun y4=> (C_bits_Writer_Put (y4.2,(IntKind.wrap .u64 y2,(5:Int)))).bind fun y5=> (show Option Z196 from (show Option (Z196 ⊕ (Z196 ⊕ Z196)) from bif x.2.1.1==(2:Int) then ((C_bits_Writer_Put (y5.2,(IntKind.wrap .u64 x.2.1.2.2.1,(3:Int)))).bind fun y6=> some (Sum.inr (Sum.inl (x.2.2,(y2,(y6.2,(x.2.1,()))))))) else (bif x.2.1.1==(4:Int) then ((C_bits_Writer_Put (y5.2,(IntKind.wrap .u64 (IntKind.wrap .i64 (x.2.1.2.2.2.2.1-(1:Int))),(10:Int)))).bind fun y7=> (iterN C_sub_Put_l0 400 (x.2.2,(y2,(x.2.1.2.2.2.2.2.2.1,((0:Int),(y7.2,(x.2.1,()))))))).bind fun w10=> some (Sum.inl (w10.1,(w10.2.1,(w10.2.2.1,(w10.2.2.2.1,())))))) else (bif x.2.1.1==(3:Int) then some (Sum.inl (x.2.2,(y2,(y5.2,(x.2.1,()))))) else (bif x.2.1.1==(5:Int) then some (Sum.inr (Sum.inr ((x.2.2,(y2,(y5.2,(x.2.1,()))))))) else some (Sum.inr (Sum.inl (x.2.2,(y2,(y5.2,(x.2.1,())))))))))).bind fun z11=> match z11 with |.inl a12=>((C_sub_putCoefs (a12.2.2.1,a12.2.2.2.1)).bind fun y14=> some (a12.1,(a12.2.1,(y14,(a12.2.2.2.1,()))))) |.inr b13=>(match b13 with |.inl a15=>some (a15.1,(a15.2.1,(a15.2.2.1,(a15.2.2.2.1,())))) |.inr b16=>((C_bits_Writer_Put (b16.2.2.1,(IntKind.wrap .u64 ((List.length b16.2.2.2.1.2.2.2.2.2.2.2.1:Nat):Int),(2:Int)))).bind fun y17=> (iterN C_sub_Put_l1 400 (b16.1,(b16.2.1,(b16.2.2.2.1.2.2.2.2.2.2.2.1,(((List.length b16.2.2.2.1.2.2.2.2.2.2.2.1:Nat):Int),((0:Int),(y17.2,(b16.2.2.2.1,())))))))).bind fun w21=> some (w21.1,(w21.2.1,(w21.2.2.1,(w21.2.2.2.1,()))))))).bind fun z22=> (iterN C_sub_Put_l2 400 (z22.1,(z22.2.1,(z22.2.2.2.1.2.2.2.2.2.2.2.2.1,(((List.length z22.2.2.2.1.2.2.2.2.2.2.2.2.1:Nat):Int),((0:Int),(z22.2.2.1,(z22.2.2.2.1,())))))))).bind fun w25=> (C_sub_rested w25.2.2.1.1).bind fun y26=> bif !y26 then some ((0:Int),w25.2.1) else ((C_parts_Put (w25.2.1,(w25.2.2.1.2.2.2.2.2.2.2.2.2.1,(w25.1,(((List.length w25.2.2.1.2.2.2.2.2.2.2.2.1:Nat):Int),w25.2.2.1.2.2.2.2.2.2.2.2.2.2.1))))).bind fun y27=> some (y27.1,y27.2)))
theorem le_sub_Put (x):Le (C_sub_Put x) (F_sub_Put x):=by
 unfold C_sub_Put F_sub_Put
 refine Lb (le_sub_May _) fun y1=>Lf (Lr _) ?_
 refine Lb (le_sample_Width _) fun y2=>?_
 refine Lb (le_bits_Writer_Put _) fun y3=>?_
 refine Lb (le_bits_Writer_Put _) fun y4=>?_
 refine Lb (le_bits_Writer_Put _) fun y5=>?_
 refine Lb ?_ fun z22=>?_
 ·refine Lb ?_ fun z11=>?_
  ·exact Lf (Lb (le_bits_Writer_Put _) fun _=>Lr _) (Lf (Lb (le_bits_Writer_Put _) fun _=>Lb (Li le_sub_Put_l0) fun _=>Lr _) (Lf (Lr _) (Lf (Lr _) (Lr _))))
  ·cases z11 with
   |inl a=>exact Lb (le_sub_putCoefs _) fun _=>Lr _
   |inr b=>cases b with
    |inl a=>exact Lr _
    |inr b=>exact Lb (le_bits_Writer_Put _) fun _=>Lb (Li le_sub_Put_l1) fun _=>Lr _
 ·exact Lb (Li le_sub_Put_l2) fun _=>Lb (le_sub_rested _) fun _=>Lf (Lr _) (Lb (le_parts_Put _) fun _=>Lr _)
def C_bits_Writer_Len (x:Z3):Option Z16:= some (x.2.1,x)
theorem le_bits_Writer_Len (x):Le (C_bits_Writer_Len x) (F_bits_Writer_Len x):=by
 unfold C_bits_Writer_Len F_bits_Writer_Len
 try dsimp only
 repeat' (first|exact Lr _|apply Lf|refine Lb ?_ fun _=>?_|(rename_i w;cases w)|(rename_i w _;cases w))
def C_sub_Cost (x:Z172):Option Int:= (C_sub_Put ((([]:(List Int)),((0:Int),())),(x.1,x.2))).bind fun y1=> bif y1.1 != (0:Int) then some (0:Int) else ((C_bits_Writer_Len y1.2).bind fun y2=> some y2.1)
theorem le_sub_Cost (x):Le (C_sub_Cost x) (F_sub_Cost x):=by
 unfold C_sub_Cost F_sub_Cost
 try dsimp only
 repeat' (first|exact Lr _|exact le_sub_Put _|exact le_bits_Writer_Len _|apply Lf|refine Lb ?_ fun _=>?_|(rename_i w;cases w)|(rename_i w _;cases w))
def C_r2_SameInts_l0 (st:Z28):Option (Z28 ⊕ Z0):= bif decide (st.2.2.1<((List.length st.1:Nat):Int)) then ((gidx st.1 st.2.2.1).bind fun x1=> (gidx st.2.1 st.2.2.1).bind fun x2=> bif x1 != x2 then some (.inr (Sum.inr ((false,())))) else some (.inl (st.1,(st.2.1,(IntKind.wrap .i64 (st.2.2.1+(1:Int)),()))))) else some (.inr (Sum.inl ()))
theorem le_r2_SameInts_l0 (st):Le (C_r2_SameInts_l0 st) (F_r2_SameInts_l0 st):=by
 unfold C_r2_SameInts_l0 F_r2_SameInts_l0
 try dsimp only
 repeat' (first|exact Lr _|apply Lf|refine Lb ?_ fun _=>?_|(rename_i w;cases w)|(rename_i w _;cases w))
def C_r2_SameInts (x:((List Int)×(List Int))):Option Bool:= bif ((List.length x.1:Nat):Int) != ((List.length x.2:Nat):Int) then some false else ((iterN C_r2_SameInts_l0 400 (x.1,(x.2,((0:Int),())))).bind fun w3=> match w3 with |.inl a4=>some true |.inr b5=>some b5.1)
theorem le_r2_SameInts (x):Le (C_r2_SameInts x) (F_r2_SameInts x):=by
 unfold C_r2_SameInts F_r2_SameInts
 try dsimp only
 repeat' (first|exact Lr _|exact Li le_r2_SameInts_l0|apply Lf|refine Lb ?_ fun _=>?_|(rename_i w;cases w)|(rename_i w _;cases w))
def C_sample_Down_l0 (st:Z61):Option Z143:= bif decide (st.2.2.2.1<st.2.2.1) then ((gidx st.2.1 st.2.2.2.1).bind fun x2=> (show Option Z103 from (C_sample_wide x2).bind fun y3=> bif !y3 then some (st.1,(x2,(st.2.1,(st.2.2.1,(st.2.2.2.1,(true,(st.2.2.2.2.1,()))))))) else (bif decide (st.1<0) then none else (bif (gshl .i64 (1:Int) st.1)==0 then none else some (st.1,(x2,(st.2.1,(st.2.2.1,(st.2.2.2.1,((Int.tmod x2 (gshl .i64 (1:Int) st.1)) != (0:Int),(st.2.2.2.2.1,())))))))))).bind fun z4=> bif z4.2.2.2.2.2.1 then some (.inr (Sum.inr (((6:Int),(([]:(List Int)),()))))) else (bif decide (z4.1<0) then none else (bif lim ((List.length z4.2.2.2.2.2.2.1)+1) then some (.inl (z4.1,(z4.2.2.1,(z4.2.2.2.1,(IntKind.wrap .i64 (z4.2.2.2.2.1+(1:Int)),(List.append z4.2.2.2.2.2.2.1 ([gshr .i64 z4.2.1 z4.1]:List Int),())))))) else none))) else some (.inr (Sum.inl (st.2.2.2.2.1,())))
theorem le_sample_Down_l0 (st):Le (C_sample_Down_l0 st) (F_sample_Down_l0 st):=by
 unfold C_sample_Down_l0 F_sample_Down_l0
 try dsimp only
 repeat' (first|exact Lr _|exact le_sample_wide _|apply Lf|refine Lb ?_ fun _=>?_|(rename_i w;cases w)|(rename_i w _;cases w))
def C_sample_Down (x:((List Int)×Int)):Option ((List Int)×Int):= (show Option Z18 from bif decide (x.2<(0:Int)) then some (x.1,(x.2,(true,()))) else some (x.1,(x.2,(decide (x.2 > (30:Int)),())))).bind fun z1=> bif z1.2.2.1 then some (([]:(List Int)),(1:Int)) else ((iterN C_sample_Down_l0 400 (z1.2.1,(z1.1,(((List.length z1.1:Nat):Int),((0:Int),(([]:(List Int)),())))))).bind fun w5=> match w5 with |.inl a6=>some (a6.1,(0:Int)) |.inr b7=>some (b7.2.1,b7.1))
theorem le_sample_Down (x):Le (C_sample_Down x) (F_sample_Down x):=by
 unfold C_sample_Down F_sample_Down
 try dsimp only
 repeat' (first|exact Lr _|exact Li le_sample_Down_l0|apply Lf|refine Lb ?_ fun _=>?_|(rename_i w;cases w)|(rename_i w _;cases w))
def C_math_bits_TrailingZeros64 (x:Int):Option Int:= bif x==(0:Int) then some (64:Int) else ((gidx glob0 (gshr .u64 (IntKind.wrap .u64 ((bits .u64 .and x (IntKind.wrap .u64 (0-x)))*(285870213051353865:Int))) (58:Int))).bind fun x1=> some (IntKind.wrap .i64 x1))
theorem le_math_bits_TrailingZeros64 (x):Le (C_math_bits_TrailingZeros64 x) (F_math_bits_TrailingZeros64 x):=by
 unfold C_math_bits_TrailingZeros64 F_math_bits_TrailingZeros64
 try dsimp only
 repeat' (first|exact Lr _|apply Lf|refine Lb ?_ fun _=>?_|(rename_i w;cases w)|(rename_i w _;cases w))
def C_sample_Wasted_l0 (st:Z29):Option Z71:= bif decide (st.2.2.2.1<st.2.2.1) then ((gidx st.2.1 st.2.2.2.1).bind fun x1=> some (.inl (bits .i64 .or st.1 x1,(st.2.1,(st.2.2.1,(IntKind.wrap .i64 (st.2.2.2.1+(1:Int)),())))))) else some (.inr (st.1,()))
theorem le_sample_Wasted_l0 (st):Le (C_sample_Wasted_l0 st) (F_sample_Wasted_l0 st):=by
 unfold C_sample_Wasted_l0 F_sample_Wasted_l0
 try dsimp only
 repeat' (first|exact Lr _|apply Lf|refine Lb ?_ fun _=>?_|(rename_i w;cases w)|(rename_i w _;cases w))
def C_sample_Wasted (x:(List Int)):Option Int:= (iterN C_sample_Wasted_l0 400 ((0:Int),(x,(((List.length x:Nat):Int),((0:Int),()))))).bind fun w2=> bif w2.1==(0:Int) then some (0:Int) else ((C_math_bits_TrailingZeros64 (IntKind.wrap .u64 w2.1)).bind fun y3=> some (imin y3 (30:Int)))
theorem le_sample_Wasted (x):Le (C_sample_Wasted x) (F_sample_Wasted x):=by
 unfold C_sample_Wasted F_sample_Wasted
 try dsimp only
 repeat' (first|exact Lr _|exact le_math_bits_TrailingZeros64 _|exact Li le_sample_Wasted_l0|apply Lf|refine Lb ?_ fun _=>?_|(rename_i w;cases w)|(rename_i w _;cases w))
def C_fixed_Rest_l0 (st:Z32):Option (Z32 ⊕ Z15):= bif decide ((IntKind.wrap .i64 (st.1+(1:Int)))<((List.length st.2.2.2.1:Nat):Int)) then (bif (decide ((0:Int)≤(IntKind.wrap .i64 (st.1+(1:Int)))))&&(decide ((IntKind.wrap .i64 (st.1+(1:Int)))<((List.length st.2.2.2.1:Nat):Int))) then (bif (decide ((0:Int)≤st.1))&&(decide (st.1<((List.length st.2.2.2.1:Nat):Int))) then (bif (decide ((0:Int)≤st.1))&&(decide (st.1<((List.length st.2.2.2.1:Nat):Int))) then some (.inl (IntKind.wrap .i64 (st.1+(1:Int)),(st.2.1,(st.2.2.1,(List.set st.2.2.2.1 (Int.toNat st.1) (IntKind.wrap .i64 ((List.getD st.2.2.2.1 (Int.toNat (IntKind.wrap .i64 (st.1+(1:Int)))) (0:Int))-(List.getD st.2.2.2.1 (Int.toNat st.1) (0:Int)))),()))))) else none) else none) else none) else some (.inr (st.2.1,(st.2.2.1,(st.2.2.2.1,()))))
theorem le_fixed_Rest_l0 (st):Le (C_fixed_Rest_l0 st) (F_fixed_Rest_l0 st):=by
 unfold C_fixed_Rest_l0 F_fixed_Rest_l0
 try dsimp only
 repeat' (first|exact Lr _|apply Lf|refine Lb ?_ fun _=>?_|(rename_i w;cases w)|(rename_i w _;cases w))
def C_fixed_Rest_l1 (st:Z15):Option Z66:= bif decide (st.2.1<st.1) then ((iterN C_fixed_Rest_l0 400 ((0:Int),(st.1,(st.2.1,(st.2.2.1,()))))).bind fun w3=> bif (decide ((0:Int)≤(IntKind.wrap .i64 (((List.length w3.2.2.1:Nat):Int)-(1:Int)))))&&(decide ((IntKind.wrap .i64 (((List.length w3.2.2.1:Nat):Int)-(1:Int)))≤((List.length w3.2.2.1:Nat):Int))) then (bif decide ((Int.toNat (IntKind.wrap .i64 (((List.length w3.2.2.1:Nat):Int)-(1:Int))))≤(List.length w3.2.2.1)) then some (.inl (w3.1,(IntKind.wrap .i64 (w3.2.1+(1:Int)),(List.take (Int.toNat (IntKind.wrap .i64 (((List.length w3.2.2.1:Nat):Int)-(1:Int)))) w3.2.2.1,())))) else none) else none) else some (.inr (st.2.2.1,()))
theorem le_fixed_Rest_l1 (st):Le (C_fixed_Rest_l1 st) (F_fixed_Rest_l1 st):=by
 unfold C_fixed_Rest_l1 F_fixed_Rest_l1
 try dsimp only
 repeat' (first|exact Lr _|exact Li le_fixed_Rest_l0|apply Lf|refine Lb ?_ fun _=>?_|(rename_i w;cases w)|(rename_i w _;cases w))
end Go.Ab
