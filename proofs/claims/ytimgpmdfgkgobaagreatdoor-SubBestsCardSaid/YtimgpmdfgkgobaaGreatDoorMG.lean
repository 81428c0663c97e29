/- Part of the proof: QSB, QSC, QSD, QSE, QSF, QSG, QSH, QSI, QSJ, R. Conditions: as each statement tells. -/
import Derived.Test.YtimgpmdfgkgobaaGreatDoorRows
import Derived.ProofKit
import Derived.LaidMore
import Derived.LaidLaws
import Derived.LaidHandle
import Derived.LaidByTextLater
import Derived.OpenShut
import Derived.Handed
import Derived.KernelRfl
import Derived.Test.YtimgpmdfgkgobaaGreatDoorMF
noncomputable section
set_option linter.unusedSimpArgs false
set_option linter.unusedVariables false
open Bool renaming and_self→a03,and_eq_false_iff→a09,not_false→a20,false_and→a33
open Int renaming cast_ofNat_Int→a02
open List renaming take_succ_eq_append_getElem→a00,length_map→a01,append_eq→a04,replicate→a05,append_nil→a06,drop_eq_getElem_cons→a07,length_take→a08,take_length→a16,nil_append→a17,all_append→a19,drop_length→a21,drop_zero→a22,take_zero→a23,all_cons→a24,map_congr_left→a25,mem_singleton→a26,map_nil→a27,all_map→a28,length_drop→a29,getElem_mem→a30,ext_getElem→a31,range_succ→a32
open Nat renaming le_refl→a18
namespace Go.Ab
open IntKind(wrap)
def c5D(c:List Int)(k:Int)(j:Nat):Int:=wrap .i64 (c.getD j 0-a0l .i64 (wrap .i64 (k*c.getD (c.length-1-j) 0)) 14)
def a3K(c:List Int)(k:Int)(j:Nat):List Int:=(List.range j).map (c5D c k)
theorem c3q(c:List Int)(k:Int)(j:Nat):a3K c k (j+1)=a3K c k j++[c5D c k j]:=by simp[a3K,a32]
theorem a6N(c:List Int)(k:Int)(j:Nat):(a3K c k j).length=j:=by simp[a3K]
def c2b(c:List Int)(k:Int):List Int:=a3K c k c.length++[k]
def a8c(ks:List Int)(i:Nat):List Int:=(ks.take i).foldl c2b []
theorem b8n{ks:List Int}{i:Nat}(hi:i<ks.length):a8c ks (i+1)=c2b (a8c ks i) ks[i]:=by
 unfold a8c;rw[a00 hi,List.foldl_append];rfl
theorem b5b{ks:List Int}:∀i,i≤ks.length→(a8c ks i).length=i
 |0,_=>rfl
 |i+1,h=>by
  rw[b8n (by omega),c2b,lN,a6N,b5b i (by omega)];rfl
def b0C(x:Int):Bool:=decide (-16383≤x)&&decide (x≤16383)
theorem b6N{ks:List Int}(hl:ks.length≤32):a0e a1d (ks,ks,(ks.length:Int),(0:Int),())=some (bif ks.all b0C then .inl (ks,())else .inr (([]:List Int),(1:Int),())):=by
 refine a1U (f:=a1d) ks (fun i=>(ks,ks,(ks.length:Int),(i:Int),())) b0C (bt:=.inl (ks,())) (bf:=.inr (([]:List Int),(1:Int),())) (fun i hi hp=>?_) (fun i hi hp=>?_) (by simp[a1d]);simp only[b0C,bA,dT]at hp;have h1:decide (ks[i]<(-16383:Int))=false:=by simp;omega
 have h2:decide (ks[i] > (16383:Int))=false:=by simp;omega
 simp only[a1d,dlt hi,cT,cF,a0d hi,oB,h1,h2,a0c (show i<1000000 by omega)]
 ·simp only[b0C,a09,decide_eq_false_iff_not]at hp;cases h1:decide (ks[i]<(-16383:Int))with
  |true=>simp only[a1d,dlt hi,cT,a0d hi,oB,h1]
  |false=>
   have h2:decide (ks[i] > (16383:Int))=true:=by simp at h1⊢;omega
   simp only[a1d,dlt hi,cT,cF,a0d hi,oB,h1,h2]
theorem b7F{ks:List Int}(hl:ks.length≤32):a0e a2t (ks,(0:Int),())=some (bif ks.all b0C then .inl (ks,())else .inr ((1:Int),([]:List Int),())):=by
 refine a1U (f:=a2t) ks (fun i=>(ks,(i:Int),())) b0C (bt:=.inl (ks,())) (bf:=.inr ((1:Int),([]:List Int),())) (fun i hi hp=>?_) (fun i hi hp=>?_) (by simp[a2t]);simp only[b0C,bA,dT]at hp;have h1:decide (ks[i]≤(-16384:Int))=false:=by simp;omega
 have h2:decide (ks[i]≥(16384:Int))=false:=by simp;omega
 simp only[a2t,dlt hi,cT,cF,a0d hi,oB,h1,h2,a0c (show i<1000000 by omega)]
 ·simp only[b0C,a09,decide_eq_false_iff_not]at hp;cases h1:decide (ks[i]≤(-16384:Int))with
  |true=>simp only[a2t,dlt hi,cT,a0d hi,oB,h1]
  |false=>
   have h2:decide (ks[i]≥(16384:Int))=true:=by simp at h1⊢;omega
   simp only[a2t,dlt hi,cT,cF,a0d hi,oB,h1,h2]
theorem a8A{l:List Int}{i:Nat}(h:i<l.length):l[i]=l.getD i 0:=by simp[lD,h]
theorem c4a{c a:List Int}{k n:Int}(hc:c.length≤32):
  a0e a2f (c,(c.length:Int),k,a,n,(c.length:Int),c,(c.length:Int),(0:Int),([]:List Int),())=some (k,a,n,(c.length:Int),a3K c k c.length,()):=by
 have:=a0I (f:=a2f) (fun j:Nat=>(c,(c.length:Int),k,a,n,(c.length:Int),c,(c.length:Int),(j:Int),a3K c k j,())) c.length (b:=(k,a,n,(c.length:Int),a3K c k c.length,()))
  (fun j hj=>by
   have e1:wrap .i64 ((c.length:Int)-1)=(c.length:Int)-1:=a0k (by omega);have e2:wrap .i64 ((c.length:Int)-1-(j:Int))=((c.length-1-j:Nat):Int):=by rw[a0k (by omega)];omega
   have hlim:lim ((a3K c k j).length+1)=true:=a0q (by rw[a6N];omega);simp only[a2f,dlt hj,cT,a0d hj,oB,e1,e2,a0d (show c.length-1-j<c.length by omega),hlim,a0c (show j<1000000 by omega),a04,c3q];rw[a8A hj,a8A (show c.length-1-j<c.length by omega)];rfl)
  (by simp[a2f])
 exact this
theorem c4b{A B:List Int}{x y:Int}:(A++x::B).set A.length y=A++y::B:=by simp
theorem c5E{c ks:List Int}(hc:c.length≤32)(hi:c.length<ks.length):
  a0e a4a (ks,(c.length:Int),(0:Int),c,c,())=some (ks,(c.length:Int),a3K c ks[c.length] c.length,()):=by
 have:=a0I (f:=a4a) (fun j:Nat=>(ks,(c.length:Int),(j:Int),a3K c ks[c.length] j++c.drop j,c,())) c.length (b:=(ks,(c.length:Int),a3K c ks[c.length] c.length,()))
  (fun j hj=>by
   have e1:wrap .i64 ((c.length:Int)-1)=(c.length:Int)-1:=a0k (by omega);have e2:wrap .i64 ((c.length:Int)-1-(j:Int))=((c.length-1-j:Nat):Int):=by rw[a0k (by omega)];omega
   have d0:decide ((0:Int)≤(j:Int))=true:=by simp
   have d1:decide ((0:Int)≤((c.length-1-j:Nat):Int))=true:=by simp
   have d2:decide (((c.length-1-j:Nat):Int)<(c.length:Int))=true:=by simp;omega
   have hlen:(a3K c ks[c.length] j++c.drop j).length=c.length:=by rw[lN,a6N,a29];omega
   have d3:decide ((j:Int)<(((a3K c ks[c.length] j++c.drop j).length:Nat):Int))=true:=by rw[hlen];exact dlt hj
   have hset:(a3K c ks[c.length] j++c.drop j).set j (c5D c ks[c.length] j)=a3K c ks[c.length] (j+1)++c.drop (j+1):=by
    rw[a07 hj,c3q]
    have:=c4b (A:=a3K c ks[c.length] j) (B:=c.drop (j+1)) (x:=c[j]) (y:=c5D c ks[c.length] j)
    rw[a6N]at this;rw[this]
    simp
   simp only[a4a,dlt hj,d0,cT,a03,a0d hi,oB,e1,e2,d1,d2,d3,tN,a0c (show j<1000000 by omega)];rw[←hset];rfl)
  (by
   have d:decide ((c.length:Int)<(c.length:Int))=false:=by simp
   simp only[a4a,d,cF,a21,a06])
 simp only[nZ,a22,a02]at this;exact this
theorem d3a{ks:List Int}(h1:1≤ks.length)(hl:ks.length≤32):∃r,a4H ks=some r∧a5A ks=some r:=by
 have c1:decide (((ks.length:Nat):Int)<1)=false:=decide_eq_false (by omega);have c2:decide (((ks.length:Nat):Int) > 32)=false:=decide_eq_false (by omega);cases hall:ks.all b0C with
 |false=>
  refine⟨([],1),?_,?_⟩;unfold a4H;simp only[c1,c2,cF,oB,b6N hl,hall];unfold a5A;simp only[c1,c2,cF,oB,b7F hl,hall]
 |true=>
  have p2:=a0I (f:=a2Z) (fun i:Nat=>(a8c ks i,ks,(ks.length:Int),(i:Int),())) ks.length (b:=(a8c ks ks.length,()))
   (fun i hi=>by
    have hlen:=b5b i (Nat.le_of_lt hi);have e1:wrap .i64 ((i:Int)+1)=((i+1:Nat):Int):=a0c (by omega);have d1:decide ((0:Int)≤((i+1:Nat):Int))=true:=by simp;omega
    have l1:lim (i+1)=true:=a0q (by omega);have hin:=c4a (c:=a8c ks i) (a:=ks) (k:=ks[i]) (n:=(ks.length:Int)) (by omega);have l2:lim ((a3K (a8c ks i) ks[i] i).length+1)=true:=a0q (by rw[a6N];omega);rw[hlen]at hin;simp only[a2Z,dlt hi,cT,a0d hi,oB,e1,d1,tN,l1,a03,hlen,hin,l2,a04,b8n hi,c2b])
   (by simp[a2Z])
  have r2:=a0I (f:=a5M) (fun i:Nat=>(ks,(i:Int),a8c ks i,())) ks.length (b:=(a8c ks ks.length,()))
   (fun i hi=>by
    have hlen:=b5b i (Nat.le_of_lt hi);have l0:lim (0+i)=true:=a0q (by omega);have hin:=c5E (c:=a8c ks i) (ks:=ks) (by omega) (by omega);simp only[hlen]at hin;have l2:lim ((a3K (a8c ks i) ks[i] i).length+1)=true:=a0q (by rw[a6N];omega);simp only[a5M,dlt hi,cT,l0,a04,a17,hin,oB,a0d hi,l2,a0c (show i<1000000 by omega),b8n hi,c2b,hlen])
   (by simp[a5M])
  refine⟨(a8c ks ks.length,0),?_,?_⟩;unfold a4H;simp only[c1,c2,cF,oB,b6N hl,hall,cT];exact(congrArg (fun z=>Option.bind z fun w11=>some (w11.1,(0:Int))) p2).trans rfl;unfold a5A;simp only[c1,c2,cF,oB,b7F hl,hall,cT];exact(congrArg (fun z=>Option.bind z fun w11=>some (w11.1,(0:Int))) r2).trans rfl
end Go.Ab
namespace Go.Ab
open IntKind(wrap)
def b0D(x:Int):Bool:=decide (-35184372088832≤x)&&decide (x≤35184372088832)
@[reducible] def e3d:Type:=Int×(Int×((List Int)×Unit))
def d3b:e3d:=((0:Int),(1:Int),([]:List Int),())
theorem c4c{c:List Int}{w:Int}(hl:c.length≤32):a0e a1e (c,w,c,(c.length:Int),(0:Int),())=some (bif c.all b0D then .inl (c,w,())else .inr d3b):=by
 refine a1U (f:=a1e) c (fun i=>(c,w,c,(c.length:Int),(i:Int),())) b0D (bt:=.inl (c,w,())) (bf:=.inr d3b) (fun i hi hp=>?_) (fun i hi hp=>?_) (by simp[a1e]);simp only[b0D,bA,dT]at hp;have h1:decide (c[i]<(-35184372088832:Int))=false:=by simp;omega
 have h2:decide (c[i] > (35184372088832:Int))=false:=by simp;omega
 simp only[a1e,dlt hi,cT,cF,a0d hi,oB,h1,h2,a0c (show i<1000000 by omega)]
 ·simp only[b0D,a09,decide_eq_false_iff_not]at hp;cases h1:decide (c[i]<(-35184372088832:Int))with
  |true=>simp only[a1e,dlt hi,cT,a0d hi,oB,h1];rfl
  |false=>
   have h2:decide (c[i] > (35184372088832:Int))=true:=by simp at h1⊢;omega
   simp only[a1e,dlt hi,cT,cF,a0d hi,oB,h1,h2];rfl
theorem c5F{c:List Int}{w:Int}(hl:c.length≤32):a0e a2u (c,w,(0:Int),())=some (bif c.all b0D then .inl (c,w,())else .inr d3b):=by
 refine a1U (f:=a2u) c (fun i=>(c,w,(i:Int),())) b0D (bt:=.inl (c,w,())) (bf:=.inr d3b) (fun i hi hp=>?_) (fun i hi hp=>?_) (by simp[a2u]);simp only[b0D,bA,dT]at hp;have h1:decide (c[i]<(-35184372088832:Int))=false:=by simp;omega
 have h2:decide (c[i] > (35184372088832:Int))=false:=by simp;omega
 simp only[a2u,dlt hi,cT,cF,a0d hi,oB,h1,h2,a0c (show i<1000000 by omega)]
 ·simp only[b0D,a09,decide_eq_false_iff_not]at hp;cases h1:decide (c[i]<(-35184372088832:Int))with
  |true=>simp only[a2u,dlt hi,cT,a0d hi,oB,h1];rfl
  |false=>
   have h2:decide (c[i] > (35184372088832:Int))=true:=by simp at h1⊢;omega
   simp only[a2u,dlt hi,cT,cF,a0d hi,oB,h1,h2];rfl
def a6z(s:Nat)(half x:Int):Int:=a0l .i64 (wrap .i64 (x+half)) (s:Int)
theorem b6O{c:List Int}{w s:Nat}{half:Int}(hc:c.length≤32)(hw:w≤32):∀(m j:Nat),j+m=c.length→
  ∃nx:List Int,a0e a1z (c,(w:Int),(s:Int),half,c,(c.length:Int),(j:Int),(c.take j).map (a6z s half),())=some (c,(w:Int),(s:Int),nx,())∧
   ((c.drop j).all (fun x=>a2G (a6z s half x) (w:Int))=true→nx=c.map (a6z s half))∧((c.drop j).all (fun x=>a2G (a6z s half x) (w:Int))=false→nx.length≠c.length)
 |0,j,hj=>by
  obtain rfl:j=c.length:=by omega
  refine⟨(c.take c.length).map (a6z s half),a0j (by simp[a1z]),fun _=>by rw[a16],fun h=>?_⟩;rw[a21]at h;cases h
 |m+1,j,hj=>by
  have hi:j<c.length:=by omega
  have d0:decide ((s:Int)<0)=false:=by simp
  have hfit:a6G (a0l .i64 (wrap .i64 (c[j]+half)) (s:Int),(w:Int))=some (a2G (a6z s half c[j]) (w:Int)):=a8a hw;rw[a07 hi,a24];cases hf:a2G (a6z s half c[j]) (w:Int)with
  |false=>
   rw[hf]at hfit;refine⟨(c.take j).map (a6z s half),a0j (by simp only[a1z,dlt hi,cT,a0d hi,oB,d0,cF,hfit,a20]),fun h=>(by simp at h),fun _=>?_⟩;rw[a01,a08];omega
  |true=>
   rw[hf]at hfit;have hlim:lim (((c.take j).map (a6z s half)).length+1)=true:=a0q (by rw[a01,a08];omega);obtain⟨nx,h1,h2,h3⟩:=b6O (s:=s) (half:=half) hc hw m (j+1) (by omega);refine⟨nx,?_,fun h=>h2 (by simpa using h),fun h=>h3 (by simpa using h)⟩;rw[a0p (s':=(c,(w:Int),(s:Int),half,c,(c.length:Int),((j+1:Nat):Int),(c.take (j+1)).map (a6z s half),())) (by
    simp only[a1z,dlt hi,cT,a0d hi,oB,d0,cF,hfit,bT,hlim,a04,a0c (show j<1000000 by omega)];rw[a00 hi,pA];rfl)]
   exact h1
theorem c5G{c:List Int}{w s:Nat}{half:Int}(hc:c.length≤32)(hw:w≤32)(hs:s≤14):
  a0e a2S (c,(w:Int),(s:Int),half,true,(0:Int),([]:List Int),())=some (c,(w:Int),(s:Int),c.all (fun x=>a2G (a6z s half x) (w:Int)),c.map (a6z s half),()):=by
 have eu:wrap .u64 (s:Int)=(s:Int):=a1p (by omega);have d0:decide ((s:Int)<0)=false:=by simp
 have:=a0I (f:=a2S) (fun j:Nat=>(c,(w:Int),(s:Int),half,(c.take j).all (fun x=>a2G (a6z s half x) (w:Int)),(j:Int),(c.take j).map (a6z s half),())) c.length
  (b:=(c,(w:Int),(s:Int),c.all (fun x=>a2G (a6z s half x) (w:Int)),c.map (a6z s half),()))
  (fun j hj=>by
   have hfit:b2a (a0l .i64 (wrap .i64 (c[j]+half)) (s:Int),(w:Int))=some (a2G (a6z s half c[j]) (w:Int)):=b8i hw;have hlim:lim (((c.take j).map (a6z s half)).length+1)=true:=a0q (by rw[a01,a08];omega);have et:c.take (j+1)=c.take j++[c[j]]:=a00 hj;cases ha:(c.take j).all (fun x=>a2G (a6z s half x) (w:Int))with
   |true=>
    simp only[a2S,dlt hj,cT,a0d hj,oB,eu,d0,cF,hlim,ha,hfit,a04,a0c (show j<1000000 by omega),et,a19,pA,Bool.true_and,a24,List.all_nil,Bool.and_true];rfl
   |false=>
    simp only[a2S,dlt hj,cT,a0d hj,oB,eu,d0,cF,hlim,ha,a04,a0c (show j<1000000 by omega),et,a19,pA,a33];rfl)
  (by
   have d:decide ((c.length:Int)<(c.length:Int))=false:=by simp
   simp only[a2S,d,cF,a16])
 exact this
theorem c5H{c:List Int}{w:Nat}(hc:c.length≤32)(hw:w≤32):∀(m s:Nat),s+m=15→
  ∃b,a0e a1A (c,(w:Int),(s:Int),())=some b∧a0e a4b (c,(w:Int),(s:Int),())=some b
 |0,s,hs=>by
  obtain rfl:s=15:=by omega
  exact⟨.inl (),a0j (by simp[a1A]),a0j (by simp[a4b])⟩
 |m+1,s,hs=>by
  have d:decide ((s:Int)≤14)=true:=by simp;omega
  have dl:decide ((0:Int)≤(c.length:Int))=true:=by simp
  have ll:lim c.length=true:=a0q (by omega);have hwi:wrap .i64 ((s:Int)+1)=((s+1:Nat):Int):=a0c (by omega);obtain⟨half,hp,hr⟩:∃half:Int,
    ((show Option ((List Int)×(Int×Int×Int×Unit))from
     bif decide ((s:Int) > (0:Int))then(
     bif decide ((wrap .i64 ((s:Int)-(1:Int)))<0)then none
     else some (c,(w:Int),(s:Int),a0F .i64 (1:Int) (wrap .i64 ((s:Int)-(1:Int))),()))
     else some (c,(w:Int),(s:Int),(0:Int),()))=some (c,(w:Int),(s:Int),half,()))∧
    ((show Option ((List Int)×(Int×Int×Int×Unit))from
     bif decide ((s:Int) > (0:Int))then(
     bif decide ((wrap .u64 (wrap .i64 ((s:Int)-(1:Int))))<0)then none
     else some (c,(w:Int),(s:Int),a0F .i64 (1:Int) (wrap .u64 (wrap .i64 ((s:Int)-(1:Int)))),()))
     else some (c,(w:Int),(s:Int),(0:Int),()))=some (c,(w:Int),(s:Int),half,())):=by
   by_cases h0:s=0
   subst h0;exact⟨0,rfl,rfl⟩;have e0:decide ((s:Int) > 0)=true:=by simp;omega
   have e1:wrap .i64 ((s:Int)-1)=(s:Int)-1:=a0k (by omega);have e2:wrap .u64 ((s:Int)-1)=(s:Int)-1:=a1p (by omega);have e3:decide ((s:Int)-1<0)=false:=by simp;omega
   exact⟨a0F .i64 1 ((s:Int)-1),by simp only[e0,e1,e3,cT,cF],by simp only[e0,e1,e2,e3,cT,cF]⟩
  obtain⟨nx,h1,h2,h3⟩:=b6O (c:=c) (w:=w) (s:=s) (half:=half) hc hw c.length 0 (by omega);simp only[nZ,a23,a27,a22,a02]at h1 h2 h3;have hri:=c5G (c:=c) (w:=w) (s:=s) (half:=half) hc hw (by omega);have hp':=hp;have hr':=hr;simp only[]at hp' hr';cases hall:c.all (fun x=>a2G (a6z s half x) (w:Int))with
  |true=>
   have hnx:=h2 hall;subst hnx;rw[hall]at hri;have hlen:((((c.map (a6z s half)).length:Nat):Int)==(c.length:Int))=true:=by rw[a01];simp
   refine⟨.inr (wrap .i64 ((14:Int)-(s:Int)),(0:Int),c.map (a6z s half),()),a0j ?_,a0j ?_⟩;simp only[a1A,d,cT];rw[hp'];simp only[oB,dl,tN,ll,a03,cT]
   erw[h1]
   simp only[oB,hlen,cT];simp only[a4b,d,cT];rw[hr'];simp only[oB]
   erw[hri]
   simp only[oB,cT]
  |false=>
   have hnx:=h3 hall;rw[hall]at hri;have hlen:(((nx.length:Nat):Int)==(c.length:Int))=false:=by simp only[beq_eq_false_iff_ne];omega
   obtain⟨b,g1,g2⟩:=c5H hc hw m (s+1) (by omega);refine⟨b,?_,?_⟩;rw[a0p (s':=(c,(w:Int),((s+1:Nat):Int),())) (by
    simp only[a1A,d,cT];rw[hp'];simp only[oB,dl,tN,ll,a03,cT]
    erw[h1]
    simp only[oB,hlen,cF,hwi])]
   exact g1;rw[a0p (s':=(c,(w:Int),((s+1:Nat):Int),())) (by
    simp only[a4b,d,cT];rw[hr'];simp only[oB]
    erw[hri]
    simp only[oB,cF,hwi])]
   exact g2
theorem d3c{c:List Int}{w:Nat}(h1:1≤c.length)(hl:c.length≤32)(hw:2≤w∧w≤16):∃r,a6c (c,(w:Int))=some r∧a7D (c,(w:Int))=some r:=by
 have c1:decide (((c.length:Nat):Int)<1)=false:=decide_eq_false (by omega);have c2:decide (((c.length:Nat):Int) > 32)=false:=decide_eq_false (by omega);have c3:decide ((w:Int)<2)=false:=decide_eq_false (by omega);have c4:decide ((w:Int) > 16)=false:=decide_eq_false (by omega);have hp:=c4c (c:=c) (w:=(w:Int)) hl;have hr:=c5F (c:=c) (w:=(w:Int)) hl;obtain⟨b,g1,g2⟩:=c5H (c:=c) (w:=w) hl (by omega) 15 0 rfl;simp only[nZ,a02]at g1 g2;unfold a6c a7D;cases hall:c.all b0D with
 |false=>
  rw[hall]at hp hr;refine⟨([],0,1),?_,?_⟩;simp only[c1,c2,c3,c4,cF,oB,hp];rfl;simp only[c1,c2,c3,c4,cF,oB,hr];rfl
 |true=>
  rw[hall]at hp hr;cases b with
  |inl u=>
   refine⟨([],0,6),?_,?_⟩;simp only[c1,c2,c3,c4,cF,oB,hp,cT]
   erw[g1];rfl
   simp only[c1,c2,c3,c4,cF,oB,hr,cT]
   erw[g2];rfl
  |inr b=>
   refine⟨(b.2.2.1,b.1,b.2.1),?_,?_⟩;simp only[c1,c2,c3,c4,cF,oB,hp,cT]
   erw[g1];rfl
   simp only[c1,c2,c3,c4,cF,oB,hr,cT]
   erw[g2];rfl
end Go.Ab
namespace Go.Ab
def f20(x:Int):Bool:=decide (-1048576≤x)&&decide (x≤1048575)
theorem b9b{x:Int}:f20 x=true↔-1048576≤x∧x≤1048575:=by simp[f20]
theorem c4d(x:Int):(a2v (a1D x (-1048576)) 1048575==x)=f20 x:=by
 rw[Bool.eq_iff_iff,beq_iff_eq,b9b];unfold a2v a1D;cases h1:decide ((-1048576:Int) > x)with
 |true=>
  have h1:x < -1048576:=by simpa using h1
  show(-1048576:Int)=x↔_;omega
 |false=>
  have h1:¬ x < -1048576:=by simpa using h1
  simp only[cF];cases h2:decide ((1048575:Int)<x)with
  |true=>
   have h2:1048575<x:=by simpa using h2
   show(1048575:Int)=x↔_;omega
  |false=>
   have h2:¬ 1048575<x:=by simpa using h2
   show x=x↔_;simp only[true_iff];omega
theorem c2c(x:Int){s:Nat}(hs:s≤64):a0l .i64 x (s:Int)=x / ((2^s:Nat):Int):=by
 show Int.fdiv x (2^(min (s:Int).toNat 64))=_;rw[tN,Nat.min_eq_left hs,Int.fdiv_eq_ediv_of_nonneg _ (Int.le_of_lt (Int.pow_pos (by decide)))]
 simp
theorem d1f(x:Int){s:Nat}(hs:s≤63):a0l .i64 (a0l .i64 x (s:Int)) 1=a0l .i64 x ((s+1:Nat):Int):=by
 have h1:a0l .i64 (a0l .i64 x (s:Int)) ((1:Nat):Int)=a0l .i64 x (s:Int) / ((2^1:Nat):Int):=c2c _ (by omega);have h1':a0l .i64 (a0l .i64 x (s:Int)) 1=a0l .i64 x (s:Int) / ((2^1:Nat):Int):=h1;rw[h1',c2c x (by omega),c2c x (by omega),Int.ediv_ediv_of_nonneg (Int.natCast_nonneg _),←Int.natCast_mul,←Nat.pow_succ]
theorem d5u{x:Int}(h:f20 x=true):f20 (a0l .i64 x 1)=true:=by
 have e:a0l .i64 x 1=x / ((2^1:Nat):Int):=c2c x (s:=1) (by omega);rw[b9b]at h⊢;rw[e];omega
theorem c9K{x:Int}{s:Nat}:∀(d:Nat),s+d≤60→f20 (a0l .i64 x (s:Int))=true→f20 (a0l .i64 x ((s+d:Nat):Int))=true
 |0,_,h=>h
 |d+1,hd,h=>by
  have:=d5u (c9K d (by omega) h)
  rw[d1f x (by omega)]at this;exact this
def b4I(l:List Int)(s:Nat):Prop:=s≤10∧(∀x∈l,f20 (a0l .i64 x (s:Int))=true)∧∀t,t<s→∃x∈l,f20 (a0l .i64 x (t:Int))=false
theorem d4n{l:List Int}{s s':Nat}(h:b4I l s)(h':b4I l s'):s=s':=by
 rcases Nat.lt_trichotomy s s' with g|g|g;obtain⟨x,hx,hf⟩:=h'.2.2 s g;rw[h.2.1 x hx]at hf;cases hf;exact g;obtain⟨x,hx,hf⟩:=h.2.2 s' g;rw[h'.2.1 x hx]at hf;cases hf
theorem b9c{x:Int}(hx:a0b x=true){a l:List Int}{n i:Int}:∀(k s:Nat),s+k=10→
  ∃s':Nat,s≤s'∧s'≤10∧f20 (a0l .i64 x (s':Int))=true∧(∀t,s≤t→t<s'→f20 (a0l .i64 x (t:Int))=false)∧
   a0e a2n (a,(s:Int),x,l,n,i,())=some (a,(s':Int),l,n,i,())
 |k,s,hk=>by
  have d0:decide ((s:Int)<0)=false:=by simp
  cases hf:f20 (a0l .i64 x (s:Int))with
  |true=>
   refine⟨s,a18 _,by omega,hf,fun t h1 h2=>by omega,a0j ?_⟩;have hne:(a2v (a1D (a0l .i64 x (s:Int)) (-1048576)) 1048575 != a0l .i64 x (s:Int))=false:=by
    rw[bne,c4d,hf];rfl
   simp only[a2n,d0,cF,a2i,oB,hne]
  |false=>
   cases k with
   |zero=>
    obtain rfl:s=10:=by omega
    have:=c8h hx
    rw[b9b.2 this]at hf;cases hf
   |succ k=>
    obtain⟨s',h1,h2,h3,h4,h5⟩:=b9c hx (a:=a) (l:=l) (n:=n) (i:=i) k (s+1) (by omega);refine⟨s',by omega,h2,h3,fun t ht ht'=>?_,?_⟩
    by_cases e:t=s
    subst e;exact hf;exact h4 t (by omega) ht';have hne:(a2v (a1D (a0l .i64 x (s:Int)) (-1048576)) 1048575 != a0l .i64 x (s:Int))=true:=by
     rw[bne,c4d,hf];rfl
    rw[a0p (s':=(a,((s+1:Nat):Int),x,l,n,i,())) (by
     simp only[a2n,d0,cF,a2i,oB,hne,cT,a0c (show s<1000000 by omega)])]
    exact h5
theorem d0E{l:List Int}(hw:l.all a0b=true)(hl:l.length<100000):∃s,b4I l s∧a3Y l=some (l.map fun x=>a0l .i64 x (s:Int)):=by
 have main:∀(m i s:Nat),i+m=l.length→b4I (l.take i) s→∃s',b4I l s'∧a0e a2J (l,(s:Int),l,(l.length:Int),(i:Int),())=some (l,(s':Int),()):=by
  intro m
  induction m with
  |zero=>
   intro i s hi hs;obtain rfl:i=l.length:=by omega
   rw[a16]at hs;exact⟨s,hs,a0j (by simp[a2J])⟩
  |succ m ih=>
   intro i s hi hs;have hlt:i<l.length:=by omega
   obtain⟨s',h1,h2,h3,h4,h5⟩:=b9c (lA.1 hw l[i] (a30 hlt)) (a:=l) (l:=l) (n:=(l.length:Int)) (i:=(i:Int)) (10-s) s (by have:=hs.1;omega);have hs':b4I (l.take (i+1)) s':=by
    rw[a00 hlt];refine⟨h2,fun x hx=>?_,fun t ht=>?_⟩;rcases mA.1 hx with hx|hx
    have:=c9K (s'-s) (by omega) (hs.2.1 x hx)
    rwa [Nat.add_sub_cancel' h1]at this
    rw[a26.1 hx];exact h3
    by_cases hts:t<s
    obtain⟨x,hx,hf⟩:=hs.2.2 t hts;exact⟨x,List.mem_append_left _ hx,hf⟩;exact⟨l[i],List.mem_append_right _ (a26.2 rfl),h4 t (by omega) ht⟩
   obtain⟨s2,g1,g2⟩:=ih (i+1) s' (by omega) hs';refine⟨s2,g1,?_⟩;rw[a0p (s':=(l,(s':Int),l,(l.length:Int),((i+1:Nat):Int),())) (by
    simp only[a2J,dlt hlt,cT,a0d hlt,oB,h5,a0c (show i<1000000 by omega)])]
   exact g2
 obtain⟨s,h1,h2⟩:=main l.length 0 0 (by omega) ⟨by omega,fun x hx=>by simp at hx,fun t ht=>by omega⟩;simp only[nZ,a02]at h2;refine⟨s,h1,?_⟩;have d1:decide ((0:Int)≤(l.length:Int))=true:=by simp
 have d2:decide ((l.length:Int)≤(l.length:Int))=true:=by simp
 have ll:lim l.length=true:=a0q (by omega);have hfill:=a0I (f:=a2K) (fun i:Nat=>((s:Int),l,(l.length:Int),(i:Int),(l.take i).map (fun x=>a0l .i64 x (s:Int))++a05 (l.length-i) 0,())) l.length (b:=(l.map (fun x=>a0l .i64 x (s:Int)),()))
  (fun i hi=>by
   have e0:decide ((s:Int)<0)=false:=by simp
   have e1:decide ((0:Int)≤(i:Int))=true:=by simp
   have e2:decide ((i:Int)<((((l.take i).map (fun x=>a0l .i64 x (s:Int))++a05 (l.length-i) 0).length:Nat):Int))=true:=by
    rw[lN,a01,a08,List.length_replicate];simp;omega
   have hlen:((l.take i).map (fun x=>a0l .i64 x (s:Int))).length=i:=by rw[a01,a08];omega
   have hset:=c4b (A:=(l.take i).map (fun x=>a0l .i64 x (s:Int))) (B:=a05 (l.length-(i+1)) 0) (x:=0) (y:=a0l .i64 l[i] (s:Int));rw[hlen]at hset;have hrep:a05 (l.length-i) (0:Int)=0::a05 (l.length-(i+1)) 0:=by rw[←List.replicate_succ];congr 1;omega
   simp only[a2K,dlt hi,cT,a0d hi,oB,e0,cF,e1,e2,a03,tN,a0c (show i<1000000 by omega)];rw[hrep,hset,a00 hi,pA,aA];rfl)
  (by simp[a2K])
 simp only[nZ,a23,a27,a17,Nat.sub_zero,a02]at hfill;unfold a3Y;simp only[h2,oB,d1,d2,tN,ll,a03,cT,hfill]
end Go.Ab
namespace Go.Ab
theorem d4o(P:List Int)(b:Int)(R:List Int):(P++b::R).getD P.length 0=b:=by
 simp[lD]
theorem b6P{l:List Int}(hl:l.length<100000):a0e a5l (true,(0:Int),l,())=some (l.all f20,l,()):=by
 have:=a0I (f:=a5l) (fun i:Nat=>((l.take i).all f20,(i:Int),l,())) l.length (b:=(l.all f20,l,()))
  (fun i hi=>by
   have e0:decide ((0:Int)≤(i:Int))=true:=by simp
   have et:l.take (i+1)=l.take i++[l[i]]:=a00 hi;have hg:l.getD i 0=l[i]:=(a8A hi).symm;cases ha:(l.take i).all f20 with
   |true=>
    simp only[a5l,dlt hi,cT,ha,e0,a03,tN,b0m,oB,a0c (show i<1000000 by omega),hg,c4d,et,a19,Bool.true_and,a24,List.all_nil,Bool.and_true]
   |false=>
    simp only[a5l,dlt hi,cT,ha,cF,a0c (show i<1000000 by omega),et,a19,a33])
  (by
   have d:decide ((l.length:Int)<(l.length:Int))=false:=by simp
   simp only[a5l,d,cF,a16])
 exact this
theorem c4e{l:List Int}(hl:l.length<100000):a0e a7d ((0:Int),l,())=some (l.map (fun x=>a0l .i64 x 1),()):=by
 have:=a0I (f:=a7d) (fun i:Nat=>((i:Int),(l.take i).map (fun x=>a0l .i64 x 1)++l.drop i,())) l.length (b:=(l.map (fun x=>a0l .i64 x 1),()))
  (fun i hi=>by
   have e0:decide ((0:Int)≤(i:Int))=true:=by simp
   have hlen:((l.take i).map (fun x=>a0l .i64 x 1)).length=i:=by rw[a01,a08];omega
   have hlen2:((l.take i).map (fun x=>a0l .i64 x 1)++l.drop i).length=l.length:=by rw[lN,hlen,a29];omega
   have hset:=c4b (A:=(l.take i).map (fun x=>a0l .i64 x 1)) (B:=l.drop (i+1)) (x:=l[i]) (y:=a0l .i64 l[i] 1);rw[hlen]at hset;have hget:((l.take i).map (fun x=>a0l .i64 x 1)++l.drop i).getD i 0=l[i]:=by
    rw[a07 hi]
    have:=d4o ((l.take i).map (fun x=>a0l .i64 x 1)) l[i] (l.drop (i+1))
    rwa [hlen]at this
   have d1:decide ((i:Int)<((((l.take i).map (fun x=>a0l .i64 x 1)++l.drop i).length:Nat):Int))=true:=by rw[hlen2];exact dlt hi
   simp only[a7d,d1,cT,e0,a03,tN,hget,a0c (show i<1000000 by omega)];rw[a07 hi,hset,a00 hi,pA,aA];rfl)
  (by
   have d:decide ((l.length:Int)<(l.length:Int))=false:=by simp
   simp only[a7d,a16,a21,a06,a01,d,cF])
 simp only[nZ,a23,a27,a17,a22,a02]at this;exact this
theorem d3d{l:List Int}(hw:l.all a0b=true)(hl:l.length<100000):∃s,b4I l s∧a7W l=some (l.map fun x=>a0l .i64 x (s:Int)):=by
 have main:∀(m k:Nat),k+m=10→(∀t,t<k→∃x∈l,f20 (a0l .i64 x (t:Int))=false)→
   ∃s,b4I l s∧a0e a7e (l.map (fun x=>a0l .i64 x (k:Int)),())=some (l.map (fun x=>a0l .i64 x (s:Int)),()):=by
  intro m
  induction m with
  |zero=>
   intro k hk hlow;obtain rfl:k=10:=by omega
   have hall:(l.map (fun x=>a0l .i64 x ((10:Nat):Int))).all f20=true:=by
    rw[a28];exact lA.2 fun x hx=>b9b.2 (c8h (lA.1 hw x hx))
   refine⟨10,⟨a18 _,fun x hx=>b9b.2 (c8h (lA.1 hw x hx)),hlow⟩,a0j ?_⟩;simp only[a7e,b6P (l:=l.map (fun x=>a0l .i64 x ((10:Nat):Int))) (by rw[a01];exact hl),oB,hall,cT]
  |succ m ih=>
   intro k hk hlow;have hck:=b6P (l:=l.map (fun x=>a0l .i64 x (k:Int))) (by rw[a01];exact hl);cases hall:(l.map (fun x=>a0l .i64 x (k:Int))).all f20 with
   |true=>
    rw[hall]at hck;have hall':=hall;rw[a28]at hall';refine⟨k,⟨by omega,fun x hx=>lA.1 hall' x hx,hlow⟩,a0j ?_⟩;simp only[a7e,hck,oB,cT]
   |false=>
    rw[hall]at hck;have hex:∃x∈l,f20 (a0l .i64 x (k:Int))=false:=by
     rw[a28]at hall;obtain⟨x,hx,hf⟩:=List.all_eq_false.1 hall;exact⟨x,hx,by simpa using hf⟩
    obtain⟨s,h1,h2⟩:=ih (k+1) (by omega) (fun t ht=>by
     by_cases e:t=k
     subst e;exact hex;exact hlow t (by omega))
    refine⟨s,h1,?_⟩;have hhalf:=c4e (l:=l.map (fun x=>a0l .i64 x (k:Int))) (by rw[a01];exact hl);have hmm:(l.map (fun x=>a0l .i64 x (k:Int))).map (fun x=>a0l .i64 x 1)=l.map (fun x=>a0l .i64 x ((k+1:Nat):Int)):=by
     rw[List.map_map];exact a25 fun x _=>d1f x (by omega)
    rw[hmm]at hhalf;rw[a0p (s':=(l.map (fun x=>a0l .i64 x ((k+1:Nat):Int)),())) (by
     simp only[a7e,hck,oB,cF,hhalf])]
    exact h2
 obtain⟨s,h1,h2⟩:=main 10 0 rfl (fun t ht=>by omega);have h0:l.map (fun x=>a0l .i64 x ((0:Nat):Int))=l:=by
  refine(a25 fun x _=>?_).trans (List.map_id _);rw[c2c x (by omega)]
  simp
 rw[h0]at h2;refine⟨s,h1,?_⟩;have ll:lim (0+l.length)=true:=a0q (by omega);unfold a7W;simp only[ll,cT,a04,a17,h2,oB]
theorem d0F{l:List Int}(hw:l.all a0b=true)(hl:l.length<100000):∃r,a3Y l=some r∧a7W l=some r∧r.length=l.length:=by
 obtain⟨s,h1,h2⟩:=d0E hw hl;obtain⟨s',g1,g2⟩:=d3d hw hl
 have:=d4n h1 g1
 subst this;exact⟨_,h2,g2,by rw[a01]⟩
end Go.Ab
namespace Go.Ab
open IntKind(wrap)
theorem c4f(n:Int):wrap .i64 n=if 9223372036854775808≤n%18446744073709551616 then n%18446744073709551616-18446744073709551616 else n%18446744073709551616:=by
 simp[wrap,IntKind.bits,IntKind.signed]
theorem c5I(a b:Int):wrap .i64 (a+wrap .i64 b)=wrap .i64 (a+b):=by
 rw[c4f b,c4f,c4f];have e:(a+if 9223372036854775808≤b%18446744073709551616 then b%18446744073709551616-18446744073709551616 else b%18446744073709551616)%18446744073709551616=(a+b)%18446744073709551616:=by
  split<;>omega
 rw[e]
theorem d4p(a b:Int):wrap .i64 (wrap .i64 a+b)=wrap .i64 (a+b):=by
 rw[Int.add_comm,c5I,Int.add_comm]
theorem d4q:a2A=a9g:=by
 funext st;unfold a2A a9g;have e:∀d a b:Int,wrap .i64 (d+wrap .i64 (wrap .i64 a+wrap .i64 b))=wrap .i64 (wrap .i64 (d+wrap .i64 a)+wrap .i64 b):=fun d a b=>by
  rw[c5I,d4p,Int.add_assoc]
 simp only[e]
theorem d3e:a3l=b3n:=rfl
theorem c5J(x:(List Int)×((List Int)×Int)):a3i x=a6o x:=by
 unfold a3i a6o b9z;rw[d4q,d3e];congr 1;funext w7;congr 1;funext w8;have e:a0F .i64 w8.1 15=wrap .i64 (w8.1*32768):=rfl;rw[e];cases h:(w8.2.1==(0:Int))with
 |true=>rfl
 |false=>
  simp only[h,cF];cases decide (Int.tmod (wrap .i64 (w8.1*32768)) w8.2.1<0)<;>rfl
end Go.Ab
namespace Go.Ab
open IntKind(wrap)
def c20(x:Int):Int:=a2v (a1D x (-1048576)) 1048575
def a4s(f b:List Int)(k:Int)(i:Nat):Int:=c20 (wrap .i64 (f.getD i 0-a0l .i64 (wrap .i64 (k*b.getD (i-1) 0)) 14))
def a4N(f b:List Int)(k:Int)(i:Nat):Int:=c20 (wrap .i64 (b.getD (i-1) 0-a0l .i64 (wrap .i64 (k*f.getD i 0)) 14))
def upd(g:Nat→Int)(f:List Int)(lo hi:Nat):List Int:=(List.range f.length).map fun i=>if lo≤i∧i<hi then g i else f.getD i 0
theorem a2V(g:Nat→Int)(f:List Int)(lo hi:Nat):(upd g f lo hi).length=f.length:=by simp[upd]
theorem b1S(g:Nat→Int)(f:List Int)(lo hi:Nat){i:Nat}(h:i<f.length):(upd g f lo hi).getD i 0=if lo≤i∧i<hi then g i else f.getD i 0:=by
 simp[upd,lD,h]
theorem a9V(g:Nat→Int)(f:List Int){lo hi:Nat}(h:hi≤lo∨f.length≤lo):upd g f lo hi=f:=by
 refine a31 (a2V _ _ _ _) fun i h1 h2=>?_
 rw[a8A h1,a8A h2,b1S g f lo hi h2,if_neg (by omega)]
theorem c2u{g:Nat→Int}{f:List Int}{lo hi lo' hi' i:Nat}(hi0:i<f.length)(h:∀j,j<f.length→((lo'≤j∧j<hi')↔(j=i∨(lo≤j∧j<hi)))):(upd g f lo hi).set i (g i)=upd g f lo' hi':=by
 refine a31 (by rw[List.length_set,a2V,a2V]) fun j h1 h2=>?_
 have hj:j<f.length:=by rw[a2V]at h2;exact h2
 rw[List.getElem_set]
 by_cases e:i=j
 subst e;rw[if_pos rfl,a8A h2,b1S g f _ _ hj,if_pos ((h i hj).2 (.inl rfl))];rw[if_neg e,a8A (by rw[a2V];exact hj),a8A h2,b1S g f _ _ hj,b1S g f _ _ hj]
 have:=h j hj
 by_cases hc:lo≤j∧j<hi
 rw[if_pos hc,if_pos (this.2 (.inr hc))];rw[if_neg hc,if_neg (fun g'=>(this.1 g').elim (fun g''=>e g''.symm) hc)]
theorem b7G{f b ks:List Int}{o m:Nat}{k:Int}(hm:1≤m)(hm2:m≤40)(hb:b.length=f.length)(hf:f.length<100000):∀(j i:Nat),i+1=m+j→i<f.length→
  a0e a1x ((o:Int),(m:Int),k,(i:Int),upd (a4s f b k) f (i+1) f.length,upd (a4N f b k) b (i+1) f.length,ks,()) =
   some ((o:Int),(m:Int),upd (a4s f b k) f m f.length,upd (a4N f b k) b m f.length,ks,())
 |0,i,hj,hi=>by
  obtain rfl:m=i+1:=by omega
  have d:decide ((i:Int)≥((i+1:Nat):Int))=false:=decide_eq_false (by omega);exact a0j (by simp only[a1x,d,cF])
 |j+1,i,hj,hi=>by
  have d:decide ((i:Int)≥(m:Int))=true:=by simp;omega
  have e1:wrap .i64 ((i:Int)-1)=((i-1:Nat):Int):=by rw[a0k (by omega)];omega
  have d0:decide ((0:Int)≤(i:Int))=true:=by simp
  have d1:decide ((0:Int)≤((i-1:Nat):Int))=true:=by simp
  have l1:=a2V (a4s f b k) f (i+1) f.length;have l2:=a2V (a4N f b k) b (i+1) f.length;have d2:decide ((i:Int)<(((upd (a4s f b k) f (i+1) f.length).length:Nat):Int))=true:=by rw[l1];exact dlt hi
  have d3:decide (((i-1:Nat):Int)<(((upd (a4N f b k) b (i+1) f.length).length:Nat):Int))=true:=by rw[l2,hb];exact dlt (by omega)
  have d4:decide ((i:Int)<(((upd (a4N f b k) b (i+1) f.length).length:Nat):Int))=true:=by rw[l2,hb];exact dlt hi
  have g1:(upd (a4s f b k) f (i+1) f.length).getD i 0=f.getD i 0:=by rw[b1S _ _ _ _ hi,if_neg (by omega)]
  have g2:(upd (a4N f b k) b (i+1) f.length).getD (i-1) 0=b.getD (i-1) 0:=by rw[b1S _ _ _ _ (by omega),if_neg (by omega)]
  have s1:(upd (a4s f b k) f (i+1) f.length).set i (a4s f b k i)=upd (a4s f b k) f i f.length:=c2u hi fun j' hj'=>by omega
  have s2:(upd (a4N f b k) b (i+1) f.length).set i (a4N f b k i)=upd (a4N f b k) b i f.length:=c2u (by omega) fun j' hj'=>by omega
  have hi1:i-1+1=i:=by omega
  rw[a0p (s':=((o:Int),(m:Int),k,((i-1:Nat):Int),upd (a4s f b k) f i f.length,upd (a4N f b k) b i f.length,ks,())) (by
   simp only[a1x,d,cT,d0,d2,a03,e1,d1,d3,tN,a2i,oB,d4,g1,g2];rw[←s1,←s2];rfl)]
  have:=b7G (ks:=ks) (o:=o) (k:=k) hm hm2 hb hf j (i-1) (by omega) (by omega)
  rw[hi1]at this;exact this
theorem b9d{f b ks:List Int}{o m:Nat}{k:Int}(hm:1≤m)(hm2:m≤40)(hb:b.length=f.length)(hf:f.length<100000):∀(j i:Nat),i+j=f.length→m≤i→
  a0e a2B ((o:Int),b,(m:Int),k,(i:Int),upd (a4s f b k) f m i,ks,upd (a4N f b k) b m i,()) =
   some ((o:Int),(m:Int),k,upd (a4s f b k) f m f.length,ks,upd (a4N f b k) b m f.length,())
 |0,i,hj,hi=>by
  obtain rfl:i=f.length:=by omega
  have d:decide ((f.length:Int)<(((upd (a4s f b k) f m f.length).length:Nat):Int))=false:=by rw[a2V];simp
  exact a0j (by simp only[a2B,d,cF])
 |j+1,i,hj,hi=>by
  have hlt:i<f.length:=by omega
  have e1:wrap .i64 ((i:Int)-1)=((i-1:Nat):Int):=by rw[a0k (by omega)];omega
  have d0:decide ((0:Int)≤(i:Int))=true:=by simp
  have l1:=a2V (a4s f b k) f m i;have l2:=a2V (a4N f b k) b m i;have d2:decide ((i:Int)<(((upd (a4s f b k) f m i).length:Nat):Int))=true:=by rw[l1];exact dlt hlt
  have d4:decide ((i:Int)<(((upd (a4N f b k) b m i).length:Nat):Int))=true:=by rw[l2,hb];exact dlt hlt
  have gb:a0r b ((i-1:Nat):Int)=some (b.getD (i-1) 0):=by rw[a0d (show i-1<b.length by omega),a8A (show i-1<b.length by omega)]
  have g1:(upd (a4s f b k) f m i).getD i 0=f.getD i 0:=by rw[b1S _ _ _ _ hlt,if_neg (by omega)]
  have s1:(upd (a4s f b k) f m i).set i (a4s f b k i)=upd (a4s f b k) f m (i+1):=c2u hlt fun j' hj'=>by omega
  have s2:(upd (a4N f b k) b m i).set i (a4N f b k i)=upd (a4N f b k) b m (i+1):=c2u (by omega) fun j' hj'=>by omega
  rw[a0p (s':=((o:Int),b,(m:Int),k,((i+1:Nat):Int),upd (a4s f b k) f m (i+1),ks,upd (a4N f b k) b m (i+1),())) (by
   simp only[a2B,d2,cT,d0,a03,e1,gb,oB,tN,b0m,g1,d4,a0c (show i<1000000 by omega)];rw[←s1,←s2];rfl)]
  exact b9d (ks:=ks) (o:=o) (k:=k) hm hm2 hb hf j (i+1) (by omega) (by omega)
end Go.Ab
namespace Go.Ab
open IntKind(wrap)
theorem c7Q{f b ks:List Int}{o m:Nat}{k:Int}(hm:1≤m)(hm2:m≤40)(hb:b.length=f.length)(hf:f.length<100000):
  a0e a1x ((o:Int),(m:Int),k,wrap .i64 ((f.length:Int)-1),f,b,ks,()) =
   some ((o:Int),(m:Int),upd (a4s f b k) f m f.length,upd (a4N f b k) b m f.length,ks,()):=by
 rw[a0k (n:=(f.length:Int)-1) (by omega)]
 by_cases h:m<f.length
 have:=b7G (ks:=ks) (o:=o) (k:=k) hm hm2 hb hf (f.length-m) (f.length-1) (by omega) (by omega)
 rw[show f.length-1+1=f.length from by omega,a9V (a4s f b k) f (.inl (a18 _)),a9V (a4N f b k) b (.inl (a18 _)),show((f.length-1:Nat):Int)=(f.length:Int)-1 from by omega]at this;exact this;rw[a9V (a4s f b k) f (.inl (by omega)),a9V (a4N f b k) b (.inl (by omega))];have d:decide ((f.length:Int)-1≥(m:Int))=false:=by simp only[decide_eq_false_iff_not];omega
 exact a0j (by simp only[a1x,d,cF])
theorem c9L{f b ks:List Int}{o m:Nat}{k:Int}(hm:1≤m)(hm2:m≤40)(hb:b.length=f.length)(hf:f.length<100000):
  a0e a2B ((o:Int),b,(m:Int),k,(m:Int),f,ks,b,()) =
   some ((o:Int),(m:Int),k,upd (a4s f b k) f m f.length,ks,upd (a4N f b k) b m f.length,()):=by
 by_cases h:m<f.length
 have:=b9d (ks:=ks) (o:=o) (k:=k) hm hm2 hb hf (f.length-m) m (by omega) (a18 _)
 rw[a9V (a4s f b k) f (.inl (a18 _)),a9V (a4N f b k) b (.inl (a18 _))]at this;exact this;rw[a9V (a4s f b k) f (.inl (by omega)),a9V (a4N f b k) b (.inl (by omega))];have d:decide ((m:Int)<(f.length:Int))=false:=by simp only[decide_eq_false_iff_not];omega
 exact a0j (by simp only[a2B,d,cF])
theorem b9e{o:Nat}(ho:o≤32):∀(j m:Nat)(f b ks:List Int),m+j=o+1→1≤m→b.length=f.length→f.length<100000→ks.length+1=m→
  ∃r,a0e a2d ((o:Int),(m:Int),f,b,ks,())=some (r,())∧a0e a4S ((o:Int),b,(m:Int),f,ks,())=some (r,())
 |0,m,f,b,ks,hj,_,_,_,_=>by
  have d:decide ((m:Int)≤(o:Int))=false:=by simp only[decide_eq_false_iff_not];omega
  exact⟨ks,a0j (by simp only[a2d,d,cF]),a0j (by simp only[a4S,d,cF])⟩
 |j+1,m,f,b,ks,hj,hm,hb,hf,hk=>by
  have d:decide ((m:Int)≤(o:Int))=true:=by simp only[dT];omega
  obtain⟨k,h1⟩:=b7w hm hb hf (show m<1000 by omega);have h2:a6o (f,b,(m:Int))=some k:=by rw[←c5J];exact h1
  have w:=a0c (show m<1000000 by omega);have hl1:=b0X (show ks.length+1<2147483648 by omega);have hl2:=b0X (show 0+b.length<2147483648 by omega);obtain⟨r,g1,g2⟩:=b9e ho j (m+1) (upd (a4s f b k) f m f.length) (upd (a4N f b k) b m f.length) (ks++[k]) (by omega) (by omega) (by rw[a2V,a2V,hb]) (by rw[a2V];exact hf) (by rw[lN,List.length_singleton];omega);refine⟨r,?_,?_⟩;rw[a0p (s':=((o:Int),((m+1:Nat):Int),upd (a4s f b k) f m f.length,upd (a4N f b k) b m f.length,ks++[k],())) (by
   simp only[a2d,d,cT,h1,oB,hl1,a04];rw[c7Q hm (by omega) hb hf];simp only[oB,w])]
  exact g1;rw[a0p (s':=((o:Int),upd (a4N f b k) b m f.length,((m+1:Nat):Int),upd (a4s f b k) f m f.length,ks++[k],())) (by
   simp only[a4S,d,cT,h2,oB,hl2,a04,a17];rw[c9L hm (by omega) hb hf];simp only[oB,hl1,cT,w])]
  exact g2
theorem c9M{l:List Int}(hw:l.all a0b=true)(hl:l.length≤4096){o:Nat}(h1:1≤o)(h2:o≤32):∃ks:List Int,a3u (l,(o:Int))=some (ks,0)∧a6v (l,(o:Int))=some (ks,0)∧ks.length=o:=by
 obtain⟨ks,hks,hkl⟩:=c1T hw hl h1 h2;refine⟨ks,hks,?_,hkl⟩;obtain⟨f,s1,s2,s3⟩:=d0F hw (by omega);obtain⟨r,g1,g2⟩:=b9e h2 o 1 f f [] (by omega) (by omega) rfl (by omega) rfl;have hsh:short l:=by unfold short;omega
 have d1:decide ((o:Int)<1)=false:=by simp only[decide_eq_false_iff_not];omega
 have d2:decide ((o:Int) > 32)=false:=by simp only[decide_eq_false_iff_not];omega
 have d3:decide (((l.length:Nat):Int) > 4096)=false:=by simp only[decide_eq_false_iff_not];omega
 have d4:decide ((0:Int)≤(o:Int))=true:=by simp
 have e1:a3u (l,(o:Int))=some (r,0):=by
  unfold a3u;simp only[d1,d2,d3,cF,oB,a5F hsh,hw,bT,s1,a8t (show short f by unfold short;omega),d4,tN,b0X (show o<2147483648 by omega),a03,cT];simp only[a02]at g1
  erw[g1]
  rfl
 rw[e1]at hks;simp only[sj,pJ,and_true]at hks;subst hks;unfold a6v;simp only[d1,d2,d3,cF,oB,a0A hsh,hw,bT,s2];simp only[a02]at g2
 erw[g2]
 rfl
theorem d4r{l:List Int}(hw:l.all a0b=true)(hl:l.length≤4096){o w:Nat}(h1:1≤o)(h2:o≤32)(h3:2≤w∧w≤16):
  ∃c sh e,a3m (l,(o:Int),(w:Int))=some (c,sh,e)∧a8n (l,(o:Int),(w:Int))=some (c,sh,e)∧(e=0→c.length=o):=by
 obtain⟨c,sh,e,hf,hc⟩:=c7k hw hl h1 h2 h3;refine⟨c,sh,e,hf,?_,hc⟩;rw[←hf];obtain⟨ks,r1,r2,r3⟩:=c9M hw hl h1 h2;unfold a3m a8n;have z0:((0:Int) != 0)=false:=rfl;simp only[r1,r2,oB,z0,cF];obtain⟨r,c1,c2⟩:=d3a (ks:=ks) (by omega) (by omega);obtain⟨c',e',k1,k2⟩:=c5p (ks:=ks) (by omega) (by omega);rw[c1]at k1;simp only[sj]at k1;subst k1;simp only[c1,c2,oB]
 by_cases he:e'=0
 subst he;have hl':=k2 rfl;obtain⟨q,q1,q2⟩:=d3c (c:=c') (by omega) (by omega) h3;simp only[z0,cF,q1,q2,oB]
 have:(e' != 0)=true:=by simpa using he
 simp only[this,cT]
end Go.Ab
namespace Go.Ab
theorem c7R{d:List Int}(hw:d.all a0b=true)(hl:d.length≤4096){o w:Nat}(h1:1≤o)(h2:o≤32)(h3:2≤w∧w≤16):
  a9K (d,(o:Int),(w:Int))=some (cS 3 0 (a7J d o w).2.1 (a7J d o w).1 [],(a7J d o w).2.2==0):=by
 obtain⟨c,sh,e,g1,g2,-⟩:=d4r hw hl h1 h2 h3;have hf:a7J d o w=(c,sh,e):=by unfold a7J;rw[g1];rfl
 unfold a9K;simp only[g2,oB,hf];rfl
theorem b3N{d:List Int}(hw:d.all a0b=true)(hl:d.length≤4096){o w:Nat}(h1:1≤o)(h2:o≤32)(h3:2≤w∧w≤16){L:List Sub}(hL:L.length<1000):
  a1o (L,d,(o:Int),(w:Int))=some (L++b0L d o w,[]):=by
 have hlim:lim (L.length+1)=true:=a0q (by omega);unfold a1o b0L;simp only[c7R hw hl h1 h2 h3,oB];cases (a7J d o w).2.2==0 with
 |true=>simp only[cT,hlim];rfl
 |false=>simp only[cF,a06]
theorem d0G{d:List Int}{L:List Sub}(hL:L.length<1000):a0e a4J (d,(0:Int),L,())=some (d,L++a5Q 5,()):=by
 have:=a0I (f:=a4J) (fun i:Nat=>(d,(i:Int),L++a5Q i,())) 5 (b:=(d,L++a5Q 5,()))
  (fun i hi=>by
   have d0:decide ((i:Int)<5)=true:=decide_eq_true (by omega);have hlim:lim ((L++a5Q i).length+1)=true:=a0q (by simp[a5Q];omega);have e:(L++a5Q i)++[cS 2 (i:Int) 0 [] []]=L++a5Q (i+1):=by simp[a5Q,a32]
   rw[←e];simp only[a4J,d0,cT,hlim,a0c (show i<1000000 by omega)];rfl)
  (by
   have d0:decide (((5:Nat):Int)<5)=false:=by decide
   simp only[a4J,d0,cF])
 simp only[nZ]at this;rw[show a5Q 0=[]from rfl,a06]at this;exact this
def c6u(d:List Int):Prop:=∃r,b0p d=some r∧r.2=(a9U d).2∧(r.2=true→r.1=(a9U d).1)
theorem d5v{d:List Int}(hw:d.all a0b=true)(hl:d.length≤4096)(hlag:c6u d)(k:Int):b4f (d,k)=some (a3r d k):=by
 obtain⟨o,ho',ho⟩:=c5C (show d.length<100000 by omega) hw;have hb:c5B d=o:=by unfold c5B;rw[ho'];rfl
 obtain⟨rl,hr1,hr2,hr3⟩:=hlag;have hlc:(b5a d).length≤1:=by unfold b5a;cases (a9U d).2<;>simp
 have l4:=a5v d 4 12;have l8:=a5v d 8 12;have l1:=a5v d 1 12;have l2:=a5v d 2 12;have l12:=a5v d 12 14;have c4:=fun L (hL:L.length<1000)=>b3N (L:=L) hw hl (o:=4) (w:=12) (by omega) (by omega) (by omega) hL;have c8:=fun L (hL:L.length<1000)=>b3N (L:=L) hw hl (o:=8) (w:=12) (by omega) (by omega) (by omega) hL;have c1:=fun L (hL:L.length<1000)=>b3N (L:=L) hw hl (o:=1) (w:=12) (by omega) (by omega) (by omega) hL;have c2:=fun L (hL:L.length<1000)=>b3N (L:=L) hw hl (o:=2) (w:=12) (by omega) (by omega) (by omega) hL;have c12:=fun L (hL:L.length<1000)=>b3N (L:=L) hw hl (o:=12) (w:=14) (by omega) (by omega) (by omega) hL;have c16:=fun L (hL:L.length<1000)=>b3N (L:=L) hw hl (o:=16) (w:=14) (by omega) (by omega) (by omega) hL;simp only[a02]at c4 c8 c1 c2 c12 c16;have n0:(a1g d).length=3:=rfl;have n1:(a1S d k).length≤2:=by unfold a1S;split<;>simp<;>omega
 have n2:(a6y d k).length≤3:=by unfold a6y;split<;>simp<;>omega
 have n5:(a5Q 5).length=5:=rfl;have hF:b4f (d,k)=(a7c d).bind fun y1=>
   (show Option ((List Int)×(Int×((List Sub)×Unit)))from bif decide (k≥1)then((a1o ([cS 0 0 0 [] [],cS 1 0 0 [] [],cS 2 y1 0 [] []],d,(4:Int),(12:Int))).bind fun y2=>(a1o (y2.1,d,(8:Int),(12:Int))).bind fun y3=>some (d,k,y3.1,()))else some (d,k,[cS 0 0 0 [] [],cS 1 0 0 [] [],cS 2 y1 0 [] []],())).bind fun z4=>
   (show Option ((List Int)×(Int×((List Sub)×Unit)))from bif decide (z4.2.1≥2)then(bif lim (z4.2.2.1.length+2)then((b0p z4.1).bind fun y5=>
    bif y5.2 then(bif lim ((z4.2.2.1++[cS 5 0 0 [] [((16:Int),(4:Int),())],cS 5 0 0 [] [((32:Int),(3:Int),()),((16:Int),(5:Int),())]]).length+1)then some (z4.1,z4.2.1,z4.2.2.1++[cS 5 0 0 [] [((16:Int),(4:Int),())],cS 5 0 0 [] [((32:Int),(3:Int),()),((16:Int),(5:Int),())]]++[y5.1],())else none)
    else some (z4.1,z4.2.1,z4.2.2.1++[cS 5 0 0 [] [((16:Int),(4:Int),())],cS 5 0 0 [] [((32:Int),(3:Int),()),((16:Int),(5:Int),())]],()))else none)else some (z4.1,z4.2.1,z4.2.2.1,())).bind fun z6=>
   (show Option ((List Sub)×Unit)from bif decide (z6.2.1≥3)then((a0e a4J (z6.1,(0:Int),z6.2.2.1,())).bind fun w7=>(a1o (w7.2.1,w7.1,(1:Int),(12:Int))).bind fun y8=>(a1o (y8.1,w7.1,(2:Int),(12:Int))).bind fun y9=>
    (a1o (y9.1,w7.1,(12:Int),(14:Int))).bind fun y10=>(a1o (y10.1,w7.1,(16:Int),(14:Int))).bind fun y11=>some (y11.1,()))else some (z6.2.2.1,())).bind fun z12=>some z12.1:=rfl
 have e0:[cS 0 0 0 [] [],cS 1 0 0 [] [],cS 2 o 0 [] []]=a1g d:=by unfold a1g;rw[hb]
 have s1:(bif decide (k≥1)then((a1o (a1g d,d,(4:Int),(12:Int))).bind fun y2=>(a1o (y2.1,d,(8:Int),(12:Int))).bind fun y3=>some (d,k,y3.1,()))else some (d,k,a1g d,()):Option ((List Int)×(Int×((List Sub)×Unit))))=some (d,k,a1g d++a1S d k,()):=by
  unfold a1S
  by_cases h:1≤k
  have e:decide (k≥1)=true:=decide_eq_true h;simp only[e,cT,c4 (a1g d) (by omega),oB,c8 (a1g d++b0L d 4 12) (by simp;omega),if_pos h,aA];have e:decide (k≥1)=false:=decide_eq_false h;simp only[e,cF,if_neg h,a06]
 have s2:(bif decide (k≥2)then(bif lim ((a1g d++a1S d k).length+2)then((b0p d).bind fun y5=>
    bif y5.2 then(bif lim ((a1g d++a1S d k++[cS 5 0 0 [] [((16:Int),(4:Int),())],cS 5 0 0 [] [((32:Int),(3:Int),()),((16:Int),(5:Int),())]]).length+1)then some (d,k,a1g d++a1S d k++[cS 5 0 0 [] [((16:Int),(4:Int),())],cS 5 0 0 [] [((32:Int),(3:Int),()),((16:Int),(5:Int),())]]++[y5.1],())else none)
    else some (d,k,a1g d++a1S d k++[cS 5 0 0 [] [((16:Int),(4:Int),())],cS 5 0 0 [] [((32:Int),(3:Int),()),((16:Int),(5:Int),())]],()))else none)else some (d,k,a1g d++a1S d k,()):Option ((List Int)×(Int×((List Sub)×Unit))))=some (d,k,a1g d++(a1S d k++a6y d k),()):=by
  unfold a6y
  by_cases h:2≤k
  ·have e:decide (k≥2)=true:=decide_eq_true h;have q1:lim ((a1g d++a1S d k).length+2)=true:=a0q (by simp;omega);have q3:lim ((a1g d++a1S d k++[cS 5 0 0 [] [((16:Int),(4:Int),())],cS 5 0 0 [] [((32:Int),(3:Int),()),((16:Int),(5:Int),())]]).length+1)=true:=a0q (by simp;omega);simp only[e,q1,q3,cT,hr1,oB,if_pos h,b5a];cases hg:rl.2 with
   |true=>
    rw[←hr2,←hr3 hg,hg];simp
   |false=>rw[←hr2,hg];simp
  have e:decide (k≥2)=false:=decide_eq_false h;simp only[e,cF,if_neg h,a06]
 have s3:(bif decide (k≥3)then((a0e a4J (d,(0:Int),a1g d++(a1S d k++a6y d k),())).bind fun w7=>(a1o (w7.2.1,w7.1,(1:Int),(12:Int))).bind fun y8=>(a1o (y8.1,w7.1,(2:Int),(12:Int))).bind fun y9=>
    (a1o (y9.1,w7.1,(12:Int),(14:Int))).bind fun y10=>(a1o (y10.1,w7.1,(16:Int),(14:Int))).bind fun y11=>some (y11.1,()))else some (a1g d++(a1S d k++a6y d k),()):Option ((List Sub)×Unit))=some (a3r d k,()):=by
  unfold a3r c2s
  by_cases h:3≤k
  have e:decide (k≥3)=true:=decide_eq_true h;simp only[e,cT,d0G (L:=a1g d++(a1S d k++a6y d k)) (by simp;omega),oB,if_pos h];rw[c1 _ (by simp;omega)];simp only[oB];rw[c2 _ (by simp;omega)];simp only[oB];rw[c12 _ (by simp;omega)];simp only[oB];rw[c16 _ (by simp;omega)];simp only[oB,aA];have e:decide (k≥3)=false:=decide_eq_false h;simp only[e,cF,if_neg h,a06]
 rw[hF,ho,oB,e0];simp only[];rw[s1];simp only[oB];rw[s2];simp only[oB];rw[s3];rfl
theorem c7S{d:List Int}(hl:d.length≤256):c6u d:=by
 have h:=c9E hl;have hp:a9U d=(a0W 0,false):=by unfold a9U;rw[h];rfl
 have e1:decide (((d.length:Nat):Int) > 4096)=false:=decide_eq_false (by omega);have e2:decide (((d.length:Nat):Int)≤256)=true:=decide_eq_true (by omega);have hF:b0n (d,(16:Int),(256:Int))=some (0,7):=by
  unfold b0n;simp only[show decide ((16:Int)<2)=false from rfl,show decide ((16:Int) > 256)=false from rfl,show decide ((256:Int) > 1024)=false from rfl,cF,e1,oB,e2,cT]
 refine⟨(a0W 0,false),?_,by rw[hp],fun h=>by cases h⟩;unfold b0p;simp only[hF,oB,show((7:Int) != 0)=true from rfl,cT];rfl
def c6v(a:Int×(Bool×Sub)):Prop:=(a.2.1=false→a.1=0)∧(a.2.1=true→a.1≠0)
theorem d3f{l:List Int}{c:Sub}(hS:SmallS c){a:Int×(Bool×Sub)}(h:c6v a):c6v (b0B l a c):=by
 unfold b0B;cases he:(a1m c.1 l c).2 != 0 with
 |true=>exact h
 |false=>
  simp only[cF];cases !a.2.1 || decide (a4v (a1m c.1 l c).1 (l.length:Int)<a.1)with
  |false=>exact h
  |true=>
   simp only[cT];obtain⟨a1,-,-,a4⟩:=c2r hS (show(a1m c.1 l c).2=0 by simpa using he)
   have:=d4k a1 (n:=(l.length:Int)) (by rw[a4];rfl)
   exact⟨fun h=>(by cases h),fun _=>(by omega)⟩
theorem c7T{l:List Int}{cs:List Sub}(hs:∀c∈cs,SmallS c)(hl:l.length≤4096)(hc:cs.length<1000):
  a0e a6q (l,(0:Int),(0:Int),cs,a0W 0,a0W 0,())=some (a0W 0,(b5G l cs).2.2,()):=by
 have:=a2M (f:=a6q) cs (fun i (a:Int×(Bool×Sub))=>(l,a.1,(i:Int),cs,a0W 0,a.2.2,())) (fun a x=>.inl (b0B l a x)) (fun _ a=>c6v a) (fun a=>(a0W 0,a.2.2,()))
  (fun i hi a ha=>by
   refine⟨fun a' ha'=>?_,fun b hb=>by cases hb⟩;simp only[Sum.inl.injEq]at ha';subst ha';have hS:=hs _ (a30 hi);refine⟨?_,d3f hS ha⟩;have c1:=d0s (c3p (k:=cs[i].1) (l:=l) hS) (l.length:Int);have hg:List.getD cs (Int.toNat (i:Int)) (a0W 0)=cs[i]:=by rw[tN,lD,lG hi];rfl
   have hz:a0W 0=((0:Int),(0:Int),(0:Int),(0:Int),(0:Int),([]:(List Int)),a05 3 (0:Int),([]:(List (Int×Int×Unit))),([]:(List Int)),((0:Int),([]:(List Int)),()),([]:(List Int)),()):=rfl;have d0:decide ((0:Int)≤(i:Int))=true:=by simp
   have hwr:=a0c (show i<1000000 by omega);unfold b0B;simp only[a6q,dlt hi,cT,d0,a03,←hz,hg,d0A hS cs[i].1 (show l.length≤100000 by omega),oB,c1];cases (a1m cs[i].1 l cs[i]).2 != 0 with
   |true=>simp only[cT,hwr]
   |false=>
    cases hf:a.2.1 with
    |false=>
     have e:(a.1==(0:Int))=true:=by rw[ha.1 hf];rfl
     simp only[cF,e,cT,a20,Bool.true_or,oB,hwr]
    |true=>
     have e:(a.1==(0:Int))=false:=by simpa using ha.2 hf
     simp only[cF,e,bT,Bool.false_or,oB];cases decide (a4v (a1m cs[i].1 l cs[i]).1 (l.length:Int)<a.1)<;>simp only[cF,cT,hwr])
  (fun a _=>by simp only[a6q,dge,cF]) (a:=((0:Int),false,a0W 0)) ⟨fun _=>rfl,fun h=>(by cases h)⟩
 simp only[nZ]at this;rw[this,c3Z];rfl
theorem d0H{l:List Int}(h1:1≤l.length)(h2:l.length≤4096)(hw:l.all a0b=true)(hlag:c2t (a0E l))(hlb:c6u (a0E l)){k:Int}(h0:0≤k)(h3:k≤3):
  a3o (l,k)=some ((b5G l (a3r (a0E l) k)).2.2,0):=by
 have hs:short l:=by unfold short;omega
 have w1:=c1Y hs hw;obtain⟨-,d2,d3,-⟩:=a5P h2 hw;have e1:decide (((l.length:Nat):Int)<1)=false:=decide_eq_false (by omega);have e2:decide (((l.length:Nat):Int) > 4096)=false:=decide_eq_false (by omega);have e3:decide (k<0)=false:=decide_eq_false (by omega);have e4:decide (k > 3)=false:=decide_eq_false (by omega);have hlen:(a3r (a0E l) k).length<1000:=by
  have g:=fun o w=>a5v (a0E l) o w;have q1:=g 4 12;have q2:=g 8 12;have q3:=g 1 12;have q4:=g 2 12;have q5:=g 12 14;have q6:=g 16 14;have hlc:(b5a (a0E l)).length≤1:=by unfold b5a;cases (a9U (a0E l)).2<;>simp
  simp only[a3r,a1g,a1S,a6y,c2s,lN]
  split<;>split<;>split<;>simp[a5Q]<;>omega
 have hb:=c7T (l:=l) (b9Z d2 (by omega) hlag k) h2 hlen;have hz:a0W 0=((0:Int),(0:Int),(0:Int),(0:Int),(0:Int),([]:(List Int)),a05 3 (0:Int),([]:(List (Int×Int×Unit))),([]:(List Int)),((0:Int),([]:(List Int)),()),([]:(List Int)),()):=rfl;unfold a3o;simp only[←hz,e1,e2,e3,e4,cF,oB,a0A hs,hw,bT,w1,c3o h2 hw,d5v d2 (show(a0E l).length≤4096 by omega) hlb,hb]
end Go.Ab
namespace Go.Ab
theorem d4s{l:List Int}(hl:l.length≤256)(k:Int):∃s e,a3Z (l,k)=some (s,e)∧a3o (l,k)=some (s,e)∧(s=a0W 0∨SmallS s):=by
 have hz:a0W 0=((0:Int),(0:Int),(0:Int),(0:Int),(0:Int),([]:(List Int)),a05 3 (0:Int),([]:(List (Int×Int×Unit))),([]:(List Int)),((0:Int),([]:(List Int)),()),([]:(List Int)),()):=rfl;have hs:short l:=by unfold short;omega
 by_cases h1:1≤l.length
 rotate_left;have e1:decide (((l.length:Nat):Int)<1)=true:=decide_eq_true (by omega);refine⟨a0W 0,1,?_,?_,.inl rfl⟩;unfold a3Z;simp only[e1,cT,oB,hz];unfold a3o;simp only[e1,cT,oB,hz];have e1:decide (((l.length:Nat):Int)<1)=false:=decide_eq_false (by omega);have e2:decide (((l.length:Nat):Int) > 4096)=false:=decide_eq_false (by omega)
 by_cases hk:0≤k∧k≤3
 rotate_left;have e3:(k<0)∨(¬ k<0∧k > 3):=by omega
 rcases e3 with e3|⟨e3,e4⟩;refine⟨a0W 0,1,?_,?_,.inl rfl⟩;unfold a3Z;simp only[e1,e2,decide_eq_true e3,cF,cT,oB,hz];unfold a3o;simp only[e1,e2,decide_eq_true e3,cF,cT,oB,hz];refine⟨a0W 0,1,?_,?_,.inl rfl⟩;unfold a3Z;simp only[e1,e2,decide_eq_false e3,decide_eq_true e4,cF,cT,oB,hz];unfold a3o;simp only[e1,e2,decide_eq_false e3,decide_eq_true e4,cF,cT,oB,hz];have e3:decide (k<0)=false:=decide_eq_false (by omega);have e4:decide (k > 3)=false:=decide_eq_false (by omega)
 by_cases hw:l.all a0b=true
 obtain⟨-,-,d3,-⟩:=a5P (by omega) hw;have hlag:=d7M (d:=a0E l) (by omega);obtain⟨s,b1,b2,-,b3,-⟩:=d2Y h1 (by omega) hw hlag hk.1 hk.2;exact⟨s,0,b1,by rw[b3];exact d0H h1 (by omega) hw hlag (c7S (by omega)) hk.1 hk.2,.inr b2⟩;have hwf:=Bool.eq_false_iff.2 hw;refine⟨a0W 0,6,?_,?_,.inl rfl⟩;unfold a3Z;simp only[e1,e2,e3,e4,cF,oB,a4M hs,hwf,a20,cT,hz];unfold a3o;simp only[e1,e2,e3,e4,cF,oB,a0A hs,hwf,a20,cT,hz]
theorem c9N(x:List Int×Int):b3F x=some true:=by
 obtain⟨l,k⟩:=x;unfold b3F;simp only[d2H,oB,bT,cF]
 by_cases hl:((l.length:Nat):Int) > 60
 rw[decide_eq_true hl];rfl;rw[decide_eq_false hl];obtain⟨s,e,h1,h2,h3⟩:=d4s (l:=l) (by omega) k;have hS:SmallS s:=by
  rcases h3 with rfl|h3;exact c5A;exact h3
 simp only[cF,h1,h2,oB,c5e hS,decide_true,cT,beq_self_eq_true]
end Go.Ab
namespace Go.Proofs.YtimgpmdfgkgobaaGreatDoor
open Go.Ab Go.ChangeShapes Go.WideShapes Go.ChangeAt Go.RowKit
theorem c2d{α:Type}{f:Nat→Option (α×a1f×List Nat)}:∀(L:List α)(i:Nat),(∀(j:Nat) x,L[j]?=some x→f (i+j)=some (x,[],[]))→a0g f L.length i=some (L,[],[])
 | [],_,_=>rfl
 |a::L,i,h=>by
  have h0:=h 0 a rfl;have h1:=c2d L (i+1) (fun j x hx=>by have:=h (j+1) x (by simpa using hx);rw[←this];congr 1;omega);simp only[lC,a0g];simp only[Nat.add_zero]at h0;rw[h0,h1];rfl
section
variable {H:Type} {enc:TypeId×Value→H} {P:Program} {w:World} {base:Nat} {spare:Nat→Bool} {held:Bool}
theorem c7U{k:IntKind}{n:Nat}{t e:TypeId}{fuel:Nat}{cs:List Value}{L:List Int}{p:List MemPlace}(ht:P.underlying t=some (.array n e))(he:P.underlying e=some (.int k))(hc:P.cellsOf e=1)
  (h:DataW.trod enc P w base spare held fuel t cs=some (.agg (L.map fun i=>.lit (.int k i)),p)):L.length=n∧∀(j:Nat) x,L[j]?=some x→cs[j]?=some (.int k x):=by
 obtain⟨xs,m,rfl,hx,-,hn,hel⟩:=DataW.trod_array ht h;simp only[pJ,DataW.agg.injEq]at hx;have hl:L.length=n:=by rw[←hn];simpa using congrArg List.length hx.1
 refine⟨hl,fun j x hj=>?_⟩;obtain⟨hjl,-⟩:=lS.1 hj;have h1:=hel j (by omega);rw[hc]at h1;obtain⟨y,hy⟩:∃y,xs[j]?=some y:=⟨_,lG (by omega)⟩;rw[hy]at h1;obtain⟨i,e1,e2,-⟩:=DataW.trod_int he h1;have h2:=congrArg (fun l=>l[j]?) hx.1;simp only[List.getElem?_map,hj,hy,Option.map_some,e2]at h2;simp only[sj,DataW.lit.injEq,Lit.int.injEq,true_and]at h2;subst h2;have h3:=congrArg (fun l=>l[0]?) e1;simpa[List.getElem?_drop,List.getElem?_take]using h3
end
def d1g : String := (Rows.frameTellsRow.laid.map Prod.fst).headD ""
theorem e3e:Tryz.prog.globalNamed d1g=some 0:=by kernel_rfl
def d5w:TypeId:=((Tryz.prog.globals[0]?).map (·.type)).getD 0
theorem d7g:(Tryz.prog.globals[0]?).map (·.type)=some d5w:=by kernel_rfl
def d5x:TypeId:=match Tryz.prog.underlying d5w with
 |some (.array _ e)=>e
 |_=>0
theorem e3f:Tryz.prog.underlying d5w=some (.array 64 d5x):=by kernel_rfl
theorem d9A:Tryz.prog.underlying d5x=some (.int .u8):=by kernel_rfl
theorem d9B:Tryz.prog.cellsOf d5x=1:=by kernel_rfl
@[reducible] def laidTab:List (String×DataW Unit):=[(d1g,Rows.laid_math_bits_deBruijn64tab)]

theorem d7N {g:Nat} {t:Ty} {x:t.den} (h:G0 g=some ⟨t,x⟩):g=0∧(⟨t,x⟩:(t:Ty)×t.den)=⟨.arr 64 (.int .u8),b3T⟩:=by
 unfold G0 find at h
 cases g with
 |zero=>exact⟨rfl,(Option.some.inj h).symm⟩
 |succ n=>exact absurd h (by simp[find])
theorem c9O{W:World}(h:laidMetH Tryz.prog laidTab W):∀g t x,G0 g=some ⟨t,x⟩→g<W.heap.size∧dec (a0a W none) t ((Src.at g 0).rd (a0a W none))=some (x,[],[]):=by
 rw[MakeChecks.laidMetH_plain _ _ _ (by kernel_rfl)]at h;obtain⟨ps,⟨g0,t0,cs0,f0,p0,q0,hg0,ht0,hv0,hd0,_⟩,_,_⟩:=h;obtain rfl:=Option.some.inj (e3e.symm.trans hg0);obtain rfl:=Option.some.inj (d7g.symm.trans ht0);have e0:(Rows.laid_math_bits_deBruijn64tab:DataW Unit)=.agg (b3T.map fun i=>.lit (.int .u8 i)):=rfl;rw[e0]at hd0;obtain⟨hl,hc⟩:=c7U e3f d9A d9B hd0;have hcell:∀(j:Nat) x,b3T[j]?=some x→W.cell? ⟨0,j,none⟩=some (.int .u8 x):=fun j x hx=>by
  rw[World.var?_cell hg0 hv0 j];simpa using hc j x hx
 intro g t x hG;obtain⟨rfl,e⟩:=d7N hG;cases e;refine⟨d0T (hcell 0 0 rfl),?_⟩;exact c2d (f:=fun i=>dec (a0a W none) (.int .u8) fun j=>(Src.at 0 0).rd (a0a W none) (i*1+j)) b3T 0 (fun j x hx=>by
  have:=hcell j x hx
  simp only[dec,Src.rd,a0a,Nat.zero_add,Nat.mul_one,Nat.add_zero,this,if_true])
set_option maxRecDepth 100000 in
theorem d5y (os:Os) (args:Array Value):laidMetH Tryz.prog laidTab ((World.doorLaid Tryz.prog 400 os).forCall (fun _ _=>0) ⟨#[],args,[]⟩).memory:=
 laidMetH_of_parts3 (fuel:=8) (laidMet_of_run' 8 (by kernel_rfl) (by kernel_rfl)) (by kernel_rfl) (by kernel_rfl)
end Go.Proofs.YtimgpmdfgkgobaaGreatDoor
