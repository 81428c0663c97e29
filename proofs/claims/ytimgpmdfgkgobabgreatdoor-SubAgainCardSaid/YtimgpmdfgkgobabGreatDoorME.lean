/- Part of the proof: QG, QH, QI, QJ, QK, QL, QM, QN, QO, QP, QQ, QR, QS, QT, QU, QV, QW, QX, QY, QZA, QZB, QZC, QZD, QZE, QZF, QZG, QZH, QZI, QZJ, QZK, QZL, QZM, QZN. Conditions: as each statement tells. -/
import Derived.KernelRfl
import Derived.Test.YtimgpmdfgkgobabGreatDoorMD
noncomputable section
set_option linter.unusedSimpArgs false
set_option linter.unusedVariables false
open BitVec renaming ofInt→a20,ofInt_natCast→a39,toNat_ofNat→a43,toNat_and→a72,toNat_ofInt→a97
open Bool renaming and_self→a02,not_false→a07,or_eq_true→a18,true_and→a21,false_and→a33,not_eq_true'→a37,eq_iff_iff→a80,or_eq_false_iff→a85,and_eq_true_iff→a86,and_false→b19
open Int renaming eq_ofNat_of_zero_le→a03,natCast_dvd_natCast→a35,toNat→a42,cast_ofNat_Int→a44,fdiv_eq_ediv_of_nonneg→a46,dvd_mul_of_dvd_left→a51,natCast_mul→a58,mul_nonneg→a62,natCast_nonneg→a66,tmod_eq_emod_of_nonneg→a68,mul_fdiv_cancel_left→a71,dvd_add_left→a73,dvd_zero→a77,natCast_pow→a78,tmod→a92,mul_comm→a99,bmod_add_bmod→b03,sub_mul→b06,not_lt→b17
open List renaming replicate→a00,drop_eq_getElem_cons→a01,length_take→a04,drop_zero→a05,drop_length→a06,getElem_mem→a08,length_drop→a09,append_eq→a16,nil_append→a17,append_nil→a19,take_length→a22,all_cons→a23,mem_of_mem_take→a26,mem_of_mem_drop→a27,take_of_length_le→a28,length_replicate→a31,singleton_append→a32,replicate_succ'→a38,mem_singleton→a45,replicate_zero→a48,sum_cons→a49,take_zero→a53,take_succ_eq_append_getElem→a54,getElem_zip→a55,foldl_cons→a59,drop_take→a61,set_cons_zero→a64,mem_cons_self→a65,getElem?_append_right→a67,map_cons→a69,take→a70,length_eq_zero_iff→a75,drop_drop→a83,mem_cons_of_mem→a88,mem_append_left→a89,replicate_succ→a90,getElem?_drop→a93,take_add_one→b01,drop→b02,cons_append→b04,not_mem_nil→b09,length_zip→b15
open Nat renaming lt_trans→a24,pow_le_pow_right→a25,two_pow_pos→a29,div_le_self→a34,lt_of_le_of_lt→a36,mul_le_mul_right→a40,le_refl→a41,mod_eq_of_lt→a47,dvd_iff_mod_eq_zero→a52,and_two_pow_sub_one_eq_mod→a56,min_eq_left→a57,add_zero→a60,testBit_two_pow_mul_add→a63,mul_comm→a74,le_of_lt→a76,div_add_mod→a79,pow_dvd_pow→a81,mul_add→a82,mul_le_mul→a84,add_lt_add_right→a87,add_lt_add_left→a91,add_sub_cancel→a94,one_le_two_pow→a95,lt_of_lt_of_le→a96,sub_self→a98,pow_succ→b00,mul_one→b05,le_of_not_lt→b07,lt_of_not_le→b08,mod_lt→b18
open Option renaming map_eq_some_iff→a30,bind_eq_some_iff→a50
namespace Go.Ab
open IntKind(wrap)
@[reducible] def Stg:Type:=Int×(Int×Unit)
theorem a8G{l:List Int}(h:short l):a1F l=some l:=by
 have h1:lim (0+l.length)=true:=a0q (by unfold short at h;omega);unfold a1F b6r;rw[h1,cT]
def a7K(s:Stg):Fil:=(s.2.1,a00 s.1.toNat 0,a00 s.1.toNat 0,())
theorem c2L{s:Stg}(h:a3I s=true):FilOk (a7K s):=by
 simp only[a3I,bA,dT]at h;refine⟨by simp[a7K],by simp[a7K];omega,by simp[a7K];omega,⟨h.2.2.1,h.2.2.2⟩,fun x hx=>?_⟩;simp only[a7K,List.mem_replicate]at hx;omega
theorem b6U{s:Stg}(h:a3I s=true):b1f s=some (a7K s,0):=by
 have h':=h;simp only[a3I,bA,dT]at h';unfold b1f;have h1:decide ((0:Int)≤s.1)=true:=by simp;omega
 have h2:decide (s.1≤s.1)=true:=by simp
 have h3:lim s.1.toNat=true:=a0q (by omega);simp only[b3Y,h,oB,bT,cF,h1,h2,h3,a02,cT];rfl
theorem a8H{s:Stg}(h:a3I s=true):a7r s=some (a7K s,0):=by
 have h':=h;simp only[a3I,bA,dT]at h';unfold a7r;have h1:decide ((0:Int)≤s.1)=true:=by simp;omega
 have h2:decide (s.1≤s.1)=true:=by simp
 have h3:lim s.1.toNat=true:=a0q (by omega);simp only[b3m,h,oB,bT,cF,h1,h2,h3,a02,cT];rfl
def stO:List Int→List Int→Fil→Option (List Int)
 | [],done,_=>some done
 |r::rs,done,f=>bif a0b (W (a0J f+r))then stO rs (done++[W (a0J f+r)]) (b0K f (W (a0J f+r)))else none
theorem b5T:∀(l done:List Int)(f:Fil){r},stO l done f=some r→r.length=done.length+l.length
 | [],done,f,r,h=>by simp only[stO,sj]at h;rw[←h];simp
 |x::l,done,f,r,h=>by
  simp only[stO]at h;cases hw:a0b (W (a0J f+x))with
  |true=>rw[hw]at h;rw[b5T l _ _ h];simp;omega
  |false=>rw[hw]at h;cases h
theorem b0d{done row:List Int}{i:Nat}(hd:done.length=i)(h:i<row.length):List.getD (done++row.drop i) i 0=row[i]:=by
 rw[lD,a67 (by omega),hd,a98,a93,a60,lG h];rfl
theorem c0b{done row:List Int}{i:Nat}(hd:done.length=i)(h:i<row.length)(y:Int):(done++row.drop i).set i y=(done++[y])++row.drop (i+1):=by
 rw[List.set_append_right _ _ (by omega),hd,a98,a01 h,a64,aA];rfl
theorem b7K{row b4:List Int}{b5:Int}(hs:short row):∀(k i:Nat)(done:List Int)(f:Fil),i+k=row.length→done.length=i→FilOk f→
  ∃z,a0e a7j ((row.length:Int),(i:Int),b4,b5,done++row.drop i,f,())=some z∧
   match stO (row.drop i) done f with
   |some r=>z=.inl (b4,b5,r,())
   |none=>∃q,z=.inr (([]:List Int),(6:Int),q,())
 |0,i,done,f,h,hd,hf=>by
  obtain rfl:i=row.length:=by omega
  rw[a06,a19];exact⟨_,a0h (b:=Sum.inl (b4,b5,done,())) (by simp[a7j]),rfl⟩
 |k+1,i,done,f,h,hd,hf=>by
  have hi:i<row.length:=by omega
  have hs':row.length<1000000:=hs;have h0:decide ((0:Int)≤(i:Int))=true:=by simp
  have hl:(done++row.drop i).length=row.length:=by simp;omega
  have h1:decide ((i:Int)<(((done++row.drop i).length:Nat):Int))=true:=by rw[hl];simp;omega
  have hst:stO (row.drop i) done f=bif a0b (W (a0J f+row[i]))then stO (row.drop (i+1)) (done++[W (a0J f+row[i])]) (b0K f (W (a0J f+row[i])))else none:=by
   rw[a01 hi];rfl
  rw[hst];cases hw:a0b (W (a0J f+row[i]))with
  |true=>
   rw[a0k (s':=((row.length:Int),((i+1:Nat):Int),b4,b5,(done++[W (a0J f+row[i])])++row.drop (i+1),b0K f (W (a0J f+row[i])),())) (by
    simp only[a7j,dlt hi,h0,h1,cT,a02,a8n hf,oB,tN,b0d hd hi,a6W,hw,bT,cF,c0N hf,c0b hd hi,a0c (show i<1000000 by omega)])]
   exact b7K hs k (i+1) _ _ (by omega) (by simp;omega) (c0a hf _)
  |false=>
   exact⟨_,a0h (b:=Sum.inr (([]:List Int),(6:Int),done++row.drop i,())) (by
    simp only[a7j,dlt hi,h0,h1,cT,a02,a8n hf,oB,tN,b0d hd hi,a6W,hw,a07]),_,rfl⟩
theorem c0O{row:List Int}{st:List Stg}{n:Int}(hs:short row):∀(k i:Nat)(done:List Int)(f:Fil),i+k=row.length→done.length=i→FilOk f→
  a0e a5e (st,n,(i:Int),done++row.drop i,f,())=some (match stO (row.drop i) done f with
   |some r=>.inl (st,n,r,())
   |none=>.inr ((6:Int),([]:List Int),()))
 |0,i,done,f,h,hd,hf=>by
  obtain rfl:i=row.length:=by omega
  rw[a06,a19];have hl:done.length=row.length:=hd;exact a0h (b:=Sum.inl (st,n,done,())) (by rw[←hl];simp[a5e])
 |k+1,i,done,f,h,hd,hf=>by
  have hi:i<row.length:=by omega
  have hs':row.length<1000000:=hs;have h0:decide ((0:Int)≤(i:Int))=true:=by simp
  have hl:(done++row.drop i).length=row.length:=by simp;omega
  have h1:decide ((i:Int)<(((done++row.drop i).length:Nat):Int))=true:=by rw[hl];simp;omega
  have hst:stO (row.drop i) done f=bif a0b (W (a0J f+row[i]))then stO (row.drop (i+1)) (done++[W (a0J f+row[i])]) (b0K f (W (a0J f+row[i])))else none:=by
   rw[a01 hi];rfl
  have hc:wrap .i64 (row[i]+a0J f)=W (a0J f+row[i]):=by rw[Int.add_comm]
  rw[hst];cases hw:a0b (W (a0J f+row[i]))with
  |true=>
   rw[a0k (s':=(st,n,((i+1:Nat):Int),(done++[W (a0J f+row[i])])++row.drop (i+1),b0K f (W (a0J f+row[i])),())) (by
    simp only[a5e,h0,h1,cT,a02,b3q hf,oB,tN,b0d hd hi,hc,a2Q,hw,bT,cF,c3y hf,c0b hd hi,a0c (show i<1000000 by omega)])]
   exact c0O hs k (i+1) _ _ (by omega) (by simp;omega) (c0a hf _)
  |false=>
   exact a0h (by
    simp only[a5e,h0,h1,cT,a02,b3q hf,oB,tN,b0d hd hi,hc,a2Q,hw,a07];rfl)
def lO:List Stg→List Int→Option (List Int)
 | [],row=>some row
 |s::r,row=>match stO row [] (a7K s)with
  |some row'=>lO r row'
  |none=>none
theorem d0A{st:List Stg}{s:Stg}{k:Int}{b4:List Int}{row:List Int}(h:a3I s=true)(hs:short row):
  ∃z,a9z k s (st,b4,(0:Int),row,())=some z∧match stO row [] (a7K s)with
   |some r=>z=.inl (st,b4,(0:Int),r,())
   |none=>∃q,z=.inr (.ret,st,([]:List Int),(6:Int),q,()):=by
 obtain⟨z,h1,h2⟩:=b7K (b4:=b4) (b5:=0) hs row.length 0 [] (a7K s) (by omega) rfl (c2L h);simp only[nZ,a05,a17]at h1 h2;unfold a9z;have hne:((0:Int) != 0)=false:=rfl;simp only[b6U h,oB,hne,cF,h1];cases hst:stO row [] (a7K s)with
 |some r=>
  rw[hst]at h2;simp only[]at h2;subst h2;exact⟨_,rfl,rfl⟩
 |none=>
  rw[hst]at h2;obtain⟨q,rfl⟩:=h2;exact⟨_,rfl,q,rfl⟩
theorem c3z{st l:List Stg}{b4:List Int}(hl:∀s∈l,a3I s=true):∀(n:Nat)(row:List Int),n≤l.length→short row→
  ∃z,b4j a9z l n (st,b4,(0:Int),row,())=some z∧match lO (l.take n).reverse row with
   |some r=>z=.inl (st,b4,(0:Int),r,())
   |none=>∃q,z=.inr (.ret,st,([]:List Int),(6:Int),q,())
 |0,row,_,_=>⟨_,rfl,rfl⟩
 |n+1,row,hn,hs=>by
  have hlt:n<l.length:=by omega
  obtain⟨z,h1,h2⟩:=d0A (st:=st) (k:=(n:Int)) (b4:=b4) (hl _ (a08 hlt)) hs;have ht:(l.take (n+1)).reverse=l[n]::(l.take n).reverse:=by rw[b01,lG hlt];simp
  simp only[b4j,lG hlt,h1,ht,lO];cases hst:stO row [] (a7K l[n])with
  |some r=>
   rw[hst]at h2;simp only[]at h2;subst h2;exact c3z hl n r (by omega) (by have:=b5T _ _ _ hst;unfold short at hs⊢;simp at this;omega)
  |none=>
   rw[hst]at h2;obtain⟨q,rfl⟩:=h2;exact⟨_,rfl,q,rfl⟩
def b1m(rest:List Int)(st:List Stg):Option (List Int):=bif rest.all a0b then lO st.reverse rest else none
theorem c7S{rest:List Int}{st:List Stg}(hl:a5J st=true)(hr:rest.length<100000):b2R (rest,st)=some (a1d (b1m rest st)):=by
 have hl':=hl;simp only[a5J,bA,dT]at hl';have hss:short st:=by unfold short;omega
 have hsr:short rest:=by unfold short;omega
 unfold b2R;simp only[b6R hss,hl,oB,bT,cF,b6Q hsr,b1m];cases hw:rest.all a0b with
 |false=>rfl
 |true=>
  obtain⟨z,h1,h2⟩:=c3z (st:=st) (b4:=[]) (lA.1 hl'.2) st.length rest (a41 _) hsr;rw[a22]at h2;simp only[bT,cF,cT,a8G hsr,oB,a0q hss,h1];cases hst:lO st.reverse rest with
  |some r=>
   rw[hst]at h2;simp only[]at h2;subst h2;rfl
  |none=>
   rw[hst]at h2;obtain⟨q,rfl⟩:=h2;rfl
theorem c5w{l:List Stg}(hl:∀s∈l,a3I s=true)(hlen:l.length≤3):∀(n:Nat)(row:List Int),n≤l.length→short row→
  a0e a5f (l,(n:Int)-1,row,())=some (match lO (l.take n).reverse row with
   |some r=>.inl (r,())
   |none=>.inr ((6:Int),([]:List Int),()))
 |0,row,_,_=>a0h (by simp[a5f,lO])
 |n+1,row,hn,hs=>by
  have hlt:n<l.length:=by omega
  have hstage:=hl _ (a08 hlt);have h1:=c0O (st:=l) (n:=(n:Int)) hs row.length 0 [] (a7K l[n]) (by omega) rfl (c2L hstage);simp only[nZ,a05,a17]at h1;have ht:(l.take (n+1)).reverse=l[n]::(l.take n).reverse:=by rw[b01,lG hlt];simp
  have e0:((n+1:Nat):Int)-1=(n:Int):=by omega
  have hd:decide ((n:Int)≥0)=true:=by simp
  have e1:wrap .i64 ((n:Int)-1)=(n:Int)-1:=a0l (by omega);rw[ht,e0];simp only[lO];cases hst:stO row [] (a7K l[n])with
  |some r=>
   rw[hst]at h1;rw[a0k (s':=(l,(n:Int)-1,r,())) (by simp only[a5f,hd,cT,a0d hlt,oB,a8H hstage,h1,e1])];exact c5w hl hlen n r (by omega) (by have:=b5T _ _ _ hst;unfold short at hs⊢;simp at this;omega)
  |none=>
   rw[hst]at h1;exact a0h (by simp only[a5f,hd,cT,a0d hlt,oB,a8H hstage,h1])
theorem c4h{rest:List Int}{st:List Stg}(hl:a5J st=true)(hr:rest.length<100000):a9D (rest,st)=some (a1d (b1m rest st)):=by
 have hl':=hl;simp only[a5J,bA,dT]at hl';have hss:short st:=by unfold short;omega
 have hsr:short rest:=by unfold short;omega
 unfold a9D;simp only[b3n hss,hl,oB,bT,cF,a0B hsr,b1m];cases hw:rest.all a0b with
 |false=>rfl
 |true=>
  have h1:=c5w (lA.1 hl'.2) hl'.1 st.length rest (a41 _) hsr;rw[a22]at h1;have e1:wrap .i64 (((st.length:Nat):Int)-1)=((st.length:Nat):Int)-1:=a0l (by omega);simp only[bT,cF,cT,a0q (show 0+rest.length<1000000 by omega),e1,a16,a17,h1,oB];cases lO st.reverse rest<;>rfl
end Go.Ab
namespace Go.Ab
open IntKind(wrap)
def a3z(n warm:Int):Bool:=decide (1≤n)&&(decide (n≤4096)&&(decide (0≤warm)&&decide (warm≤n)))
theorem c2e(n warm:Int):b1g (n,warm)=some (a3z n warm):=by
 unfold b1g a3z
 by_cases h1:1≤n<;>by_cases h2:n≤4096<;>by_cases h3:0≤warm<;>simp[h1,h2,h3]
theorem c5x(n warm:Int):b6M (n,warm)=some (a3z n warm):=by
 unfold b6M a3z
 by_cases h1:1≤n<;>by_cases h2:n≤4096<;>by_cases h3:0≤warm<;>simp[h1,h2,h3]
theorem d5r{o:Nat}(h:o≤8):1≤2^o∧2^o≤256:=by
 have:o=0∨o=1∨o=2∨o=3∨o=4∨o=5∨o=6∨o=7∨o=8:=by omega
 rcases this with e|e|e|e|e|e|e|e|e<;>rw[e]<;>decide
theorem c0c{N o:Nat}(h:o≤64):a0m .i64 (N:Int) (o:Int)=((N / 2^o:Nat):Int):=by
 unfold a0m;show Int.fdiv (N:Int) (2^(min (o:Int).toNat 64))=_;rw[tN,a57 h,a46 _ (Int.le_of_lt (Int.pow_pos (by decide))),Int.natCast_ediv,a78];rfl
theorem c0d{N o:Nat}(h:o≤64)(hs:N*2^o<9223372036854775808):a0D .i64 (N:Int) (o:Int)=((N*2^o:Nat):Int):=by
 unfold a0D;show wrap .i64 ((N:Int)*2^(min (o:Int).toNat 64))=_;rw[tN,a57 h];have e:(N:Int)*2^o=((N*2^o:Nat):Int):=by rw[a58,a78];rfl
 rw[e];exact a0l (by omega)
def b3r(o N:Nat)(warm:Int):List Int:=
 if N%2^o=0∧warm≤((N / 2^o:Nat):Int)then(((N / 2^o:Nat):Int)-warm)::a00 (2^o-1) ((N / 2^o:Nat):Int)else[]
def a0U(order n warm:Int):List Int:=bif a3z n warm&&(decide (0≤order)&&decide (order≤8))then b3r order.toNat n.toNat warm else[]
theorem a3J(order n warm:Int):a5s (order,n,warm)=some (a0U order n warm):=by
 unfold a5s a0U;simp only[c2e,oB];cases hr:a3z n warm with
 |false=>rfl
 |true=>
  simp only[a3z,bA,dT]at hr;simp only[bT,cF,a21]
  by_cases h1:order<0
  have:¬ 0≤order:=by omega
  simp[h1,this]
  by_cases h2:order > 8
  have:¬ order≤8:=by omega
  simp[h1,h2,this];obtain⟨o,rfl⟩:=a03 (show 0≤order by omega);obtain⟨N,rfl⟩:=a03 (show 0≤n by omega);have ho:o≤8:=by omega
  have hN:N≤4096:=by omega
  have hp:=d5r ho;have hle:N / 2^o*2^o≤N:=Nat.div_mul_le_self N _;have g0:(0:Int)≤(o:Int):=by omega
  have g8:(o:Int)≤8:=by omega
  simp only[h1,h2,g0,g8,decide_true,decide_false,cF,cT,a02,oB,c0c (N:=N) (show o≤64 by omega),c0d (N:=N / 2^o) (show o≤64 by omega) (by omega),tN];have hmod:=a79 N (2^o);rw[a74]at hmod
  by_cases hm:N%2^o=0
  have e1:(((N / 2^o*2^o:Nat):Int) != (N:Int))=false:=by rw[show N / 2^o*2^o=N by omega];simp
  by_cases hw:warm≤((N / 2^o:Nat):Int)
  have e2:decide (((N / 2^o:Nat):Int)<warm)=false:=decide_eq_false (b17.2 hw);have e3:wrap .i64 (((N / 2^o:Nat):Int)-warm)=((N / 2^o:Nat):Int)-warm:=a0l (by have:=a34 N (2^o);omega);simp only[e1,e2,e3,cF,oB,b3r,hm,hw,and_self,if_true];have hg:a0D .i64 (1:Int) (o:Int)=((2^o:Nat):Int):=by have:=c0d (N:=1) (show o≤64 by omega) (by omega);simpa using this
  have:=a0G (f:=a8y) (fun i=>((o:Int),((N / 2^o:Nat):Int),(((N / 2^o:Nat):Int)-warm)::a00 i ((N / 2^o:Nat):Int),())) (2^o-1)
   (b:=((((N / 2^o:Nat):Int)-warm)::a00 (2^o-1) ((N / 2^o:Nat):Int),())) (fun i hi=>by
    have hd:decide ((((((N / 2^o:Nat):Int)-warm)::a00 i ((N / 2^o:Nat):Int)).length:Int)<((2^o:Nat):Int))=true:=by
     rw[lC,a31];simp only[dT];omega
    have hlim:lim (((((N / 2^o:Nat):Int)-warm)::a00 i ((N / 2^o:Nat):Int)).length+1)=true:=a0q (by rw[lC,a31];omega);have ea:a00 i ((N / 2^o:Nat):Int)++[((N / 2^o:Nat):Int)]=a00 (i+1) ((N / 2^o:Nat):Int):=by rw[←a38]
    simp only[a8y,h1,decide_false,cF,hg,hd,cT,hlim,a16,b04,ea])
   (by
    have hd:decide ((((((N / 2^o:Nat):Int)-warm)::a00 (2^o-1) ((N / 2^o:Nat):Int)).length:Int)<((2^o:Nat):Int))=false:=by
     rw[lC,a31];simp only[decide_eq_false_iff_not];omega
    simp only[a8y,h1,decide_false,cF,hg,hd])
  simp only[a48]at this;simp only[this,oB];have e2:decide (((N / 2^o:Nat):Int)<warm)=true:=decide_eq_true (Int.not_le.1 hw);simp only[e1,e2,cF,cT,oB,b3r,hw,and_false,if_false];have e1:(((N / 2^o*2^o:Nat):Int) != (N:Int))=true:=by simp only[bne_iff_ne,ne_eq];intro hc;have:=Int.ofNat.inj hc;omega
  simp only[e1,cT,oB,b3r,hm,false_and,if_false]
theorem a2G(order n warm:Int):a4h (order,n,warm)=some (a0U order n warm):=by
 unfold a4h a0U;simp only[c5x,oB];cases hr:a3z n warm with
 |false=>rfl
 |true=>
  simp only[a3z,bA,dT]at hr;simp only[bT,cF,a21]
  by_cases h1:order<0
  have:¬ 0≤order:=by omega
  simp[h1,this]
  by_cases h2:order > 8
  have:¬ order≤8:=by omega
  simp[h1,h2,this];obtain⟨o,rfl⟩:=a03 (show 0≤order by omega);obtain⟨N,rfl⟩:=a03 (show 0≤n by omega);have ho:o≤8:=by omega
  have hN:N≤4096:=by omega
  have hp:=d5r ho;have g0:(0:Int)≤(o:Int):=by omega
  have g8:(o:Int)≤8:=by omega
  have hu:wrap .u64 (o:Int)=(o:Int):=a1o (by omega);have hg:a0D .i64 (1:Int) (o:Int)=((2^o:Nat):Int):=by have:=c0d (N:=1) (show o≤64 by omega) (by omega);simpa using this
  have hz:(((2^o:Nat):Int)==0)=false:=by simp only[beq_eq_false_iff_ne,ne_eq];omega
  have ht:a92 (N:Int) ((2^o:Nat):Int)=((N%2^o:Nat):Int):=by rw[a68 (by omega),Int.natCast_emod]
  simp only[h1,h2,g0,g8,decide_true,decide_false,cF,cT,a02,hu,hg,hz,ht,c0c (N:=N) (show o≤64 by omega),tN]
  by_cases hm:N%2^o=0
  have e1:(((0:Nat):Int) != 0)=false:=rfl
  by_cases hw:warm≤((N / 2^o:Nat):Int)
  have e2:decide (((N / 2^o:Nat):Int)<warm)=false:=decide_eq_false (b17.2 hw);have e3:wrap .i64 (((N / 2^o:Nat):Int)-warm)=((N / 2^o:Nat):Int)-warm:=a0l (by have:=a34 N (2^o);omega);simp only[e1,e2,cF,oB,b3r,hm,hw,and_self,if_true]
  have:=a0G (f:=a7u) (fun i=>((o:Int),(N:Int),warm,(i:Int),a00 i ((N / 2^o:Nat):Int),())) (2^o)
   (b:=(warm,a00 (2^o) ((N / 2^o:Nat):Int),())) (fun i hi=>by
    have hd:decide ((i:Int)<((2^o:Nat):Int))=true:=by simp only[dT];omega
    have hlim:lim ((a00 i ((N / 2^o:Nat):Int)).length+1)=true:=a0q (by rw[a31];omega);have ea:a00 i ((N / 2^o:Nat):Int)++[((N / 2^o:Nat):Int)]=a00 (i+1) ((N / 2^o:Nat):Int):=by rw[←a38]
    simp only[a7u,hu,h1,decide_false,cF,hg,hd,cT,hlim,c0c (N:=N) (show o≤64 by omega),a16,ea,a0c (show i<1000000 by omega)])
   (by
    have hd:decide (((2^o:Nat):Int)<((2^o:Nat):Int))=false:=by simp
    simp only[a7u,hu,h1,decide_false,cF,hg,hd])
  simp only[nZ,a48]at this;have hl:decide ((0:Int)<(((a00 (2^o) ((N / 2^o:Nat):Int)).length:Nat):Int))=true:=by rw[a31];simp only[dT];omega
  obtain⟨q,hq⟩:∃q,2^o=q+1:=⟨2^o-1,by omega⟩;simp only[this,oB,hl,cT];rw[hq]at e3⊢;simp only[a90,List.getD_cons_zero,a64,a94];rw[e3];have e2:decide (((N / 2^o:Nat):Int)<warm)=true:=decide_eq_true (Int.not_le.1 hw);simp only[hm,e1,e2,cF,cT,oB,b3r,hw,and_false,if_false];have e1:(((N%2^o:Nat):Int) != 0)=true:=by simp only[bne_iff_ne,ne_eq];omega
  simp only[e1,cT,oB,b3r,hm,false_and,if_false]
@[reducible] def Prt:Type:=Int×((List Int)×Unit)
def kB(k:Int):Bool:=(decide (0≤k)&&decide (k≤25)) || (k==31)
def a2Z(p:Prt)(n warm:Int):Bool:=!((a0U p.1 n warm).length==0)&&((a0U p.1 n warm).length==p.2.1.length&&p.2.1.all kB)
theorem b3s{p:Prt}{n warm:Int}(hk:short p.2.1):b1i (p,n,warm)=some (a2Z p n warm):=by
 have:=a1V (f:=a4H) p.2.1 (fun i=>(p.2.1,(p.2.1.length:Int),(i:Int),())) kB (bt:=Sum.inl ()) (bf:=Sum.inr (false,()))
  (fun i h hp=>by
   simp only[kB,a18,bA,dT,beq_iff_eq]at hp
   by_cases h1:p.2.1[i]<0
   omega
   by_cases h2:p.2.1[i] > 25
   have h3:p.2.1[i]=31:=by omega
   have h4:(p.2.1[i] != 31)=false:=by rw[h3];rfl
   simp[a4H,a0d h,h,h1,h2,h4,a0c (a24 h hk)];simp[a4H,a0d h,h,h1,h2,a0c (a24 h hk)])
  (fun i h hp=>by
   have hp:¬ (kB p.2.1[i]=true):=by rw[hp];simp
   simp only[kB,a18,bA,dT,beq_iff_eq]at hp;have h3:p.2.1[i]≠31:=fun e=>hp (.inr e);have h4:(p.2.1[i] != 31)=true:=by simp[h3]
   by_cases h1:p.2.1[i]<0
   simp[a4H,a0d h,h,h1,h4];have h2:p.2.1[i] > 25:=by omega
   simp[a4H,a0d h,h,h1,h2,h4])
  (by simp[a4H])
 simp only[nZ]at this;unfold b1i a2Z;simp only[a3J,oB]
 by_cases h0:(a0U p.1 n warm).length=0
 have e:((((a0U p.1 n warm).length:Nat):Int)==0)=true:=by simp[h0]
 simp[e,h0];have e:((((a0U p.1 n warm).length:Nat):Int)==0)=false:=by simp only[beq_eq_false_iff_ne,ne_eq];omega
 have e':((a0U p.1 n warm).length==0)=false:=by simp only[beq_eq_false_iff_ne,ne_eq];omega
 simp only[e,e',cF,oB,a07,a21]
 by_cases h1:(a0U p.1 n warm).length=p.2.1.length
 have e1:(((p.2.1.length:Nat):Int) != (((a0U p.1 n warm).length:Nat):Int))=false:=by simp[h1]
 have e2:((a0U p.1 n warm).length==p.2.1.length)=true:=by simp[h1]
 simp only[e1,e2,cF,this,oB,a21];cases p.2.1.all kB<;>rfl;have e1:(((p.2.1.length:Nat):Int) != (((a0U p.1 n warm).length:Nat):Int))=true:=by simp only[bne_iff_ne,ne_eq];omega
 have e2:((a0U p.1 n warm).length==p.2.1.length)=false:=by simp only[beq_eq_false_iff_ne,ne_eq];exact h1
 simp only[e1,e2,cT,a33]
theorem a7B{p:Prt}{n warm:Int}(hk:short p.2.1):a6V (p,n,warm)=some (a2Z p n warm):=by
 have hpar:∀k:Int,a3G k=some (decide (0≤k)&&decide (k≤25)):=fun k=>by
  unfold a3G
  by_cases h:0≤k<;>simp[h]
 have:=a1V (f:=a4L) p.2.1 (fun i=>((i:Int),p,())) kB (bt:=Sum.inl ()) (bf:=Sum.inr (false,()))
  (fun i h hp=>by
   simp only[kB,a18]at hp;cases hc:(decide (0≤p.2.1[i])&&decide (p.2.1[i]≤25))with
   |true=>simp[a4L,a0d h,h,hpar,hc,a0c (a24 h hk)]
   |false=>
    have h3:p.2.1[i]=31:=by rw[hc]at hp;simpa using hp
    have h4:(p.2.1[i] != 31)=false:=by rw[h3];rfl
    simp[a4L,a0d h,h,hpar,hc,h4,a0c (a24 h hk)])
  (fun i h hp=>by
   simp only[kB,a85]at hp;have h3:p.2.1[i]≠31:=by simpa using hp.2
   have h4:(p.2.1[i] != 31)=true:=by simp[h3]
   simp[a4L,a0d h,h,hpar,hp.1,h4])
  (by simp[a4L])
 simp only[nZ]at this;unfold a6V a2Z;simp only[a2G,oB]
 by_cases h0:(a0U p.1 n warm).length=0
 have e:((((a0U p.1 n warm).length:Nat):Int)==0)=true:=by simp[h0]
 simp[e,h0];have e:((((a0U p.1 n warm).length:Nat):Int)==0)=false:=by simp only[beq_eq_false_iff_ne,ne_eq];omega
 have e':((a0U p.1 n warm).length==0)=false:=by simp only[beq_eq_false_iff_ne,ne_eq];omega
 simp only[e,e',cF,oB,a07,a21]
 by_cases h1:(a0U p.1 n warm).length=p.2.1.length
 have e1:((((a0U p.1 n warm).length:Nat):Int) != ((p.2.1.length:Nat):Int))=false:=by simp[h1]
 have e2:((a0U p.1 n warm).length==p.2.1.length)=true:=by simp[h1]
 simp only[e1,e2,cF,this,oB,a21];cases p.2.1.all kB<;>rfl;have e1:((((a0U p.1 n warm).length:Nat):Int) != ((p.2.1.length:Nat):Int))=true:=by simp only[bne_iff_ne,ne_eq];omega
 have e2:((a0U p.1 n warm).length==p.2.1.length)=false:=by simp only[beq_eq_false_iff_ne,ne_eq];exact h1
 simp only[e1,e2,cT,a33]
end Go.Ab
namespace Go.Ab
open IntKind(wrap)
@[reducible] def Sub:Type:=Int×(Int×(Int×(Int×(Int×((List Int)×((List Int)×((List Stg)×((List Int)×(Prt×((List Int)×Unit))))))))))
structure SmallS (s:Sub):Prop where
 coefs:s.2.2.2.2.2.1.length≤40
 taps:s.2.2.2.2.2.2.1.length=3
 stages:s.2.2.2.2.2.2.2.1.length≤6
 warm:s.2.2.2.2.2.2.2.2.1.length≤5000
 rest:s.2.2.2.2.2.2.2.2.2.2.1.length≤5000
 ks:s.2.2.2.2.2.2.2.2.2.1.2.1.length≤300
theorem b3Z(x y:List Int):eqT (.arr 3 (.int .i64)) x y=decide (x=y):=by
 show((List.zipWith (fun(a b:Int)=>a==b) x y).all id&&x.length==y.length)=_
 induction x generalizing y with
 |nil=>cases y<;>simp
 |cons a x ih=>
  cases y with
  |nil=>simp
  |cons b y=>
   have:=ih y
   simp only[List.zipWith_cons_cons,a23,lC,id];rw[Bool.and_assoc,show((x.length+1==y.length+1):Bool)=(x.length==y.length)from by simp,this]
   by_cases h1:a=b<;>by_cases h2:x=y<;>simp[h1,h2]
theorem b5U{l:List Int}(h:short l):a5r l=some l:=a8G h
theorem c3A{l:List Stg}(h:short l):a1O l=some l:=by
 have h1:lim (0+l.length)=true:=a0q (by unfold short at h;omega);unfold a1O b6r;rw[h1,cT]
def a3A(k:Int)(s:Sub)(n:Int):Prop:=
 k=0∨k=1∨(k=2∧0≤s.2.2.1∧s.2.2.1≤4∧s.2.2.1≤n)∨(k=3∧a6y s.2.2.2.2.2.1 s.2.2.2.1=true∧(s.2.2.2.2.2.1.length:Int)≤n)∨
  (k=4∧a6y s.2.2.2.2.2.1 s.2.2.2.1=true∧(s.2.2.2.2.2.1.length:Int)≤n∧a5R s.2.2.2.2.1 s.2.2.2.2.2.2.1=true)∨
  (k=5∧0<s.2.2.2.2.2.2.2.1.length∧a5J s.2.2.2.2.2.2.2.1=true)
open Classical in
def b8B (k:Int) (s:Sub) (n:Int):Bool:=decide (a3A k s n)
theorem c2f{s:Sub}(h:SmallS s)(k n:Int):b4P (k,s,n)=some (b8B k s n):=by
 have hc:short s.2.2.2.2.2.1:=by have:=h.coefs;unfold short;omega
 have hst:short s.2.2.2.2.2.2.2.1:=by have:=h.stages;unfold short;omega
 unfold b4P b8B a3A
 by_cases k0:k=0
 subst k0;simp
 by_cases k1:k=1
 subst k1;simp;have e0:(k==0)=false:=by simp[k0]
 have e1:(k==1)=false:=by simp[k1]
 simp only[e0,e1,cF,oB]
 by_cases k2:k=2
 subst k2
 by_cases h1:0≤s.2.2.1<;>by_cases h2:s.2.2.1≤4<;>simp[h1,h2]
 by_cases k3:k=3
 subst k3;cases hl:a6y s.2.2.2.2.2.1 s.2.2.2.1<;>simp[b1M hc,hl]
 by_cases k4:k=4
 subst k4;cases hl:a6y s.2.2.2.2.2.1 s.2.2.2.1<;>by_cases h2:(s.2.2.2.2.2.1.length:Int)≤n<;>simp[b1M hc,b8z h.taps,hl,h2]
 by_cases k5:k=5
 subst k5
 by_cases h1:0<s.2.2.2.2.2.2.2.1.length
 simp[b6R hst,h1];simp[h1];have e2:(k==2)=false:=by simp[k2]
 have e3:(k==3)=false:=by simp[k3]
 have e4:(k==4)=false:=by simp[k4]
 have e5:(k==5)=false:=by simp[k5]
 simp only[e2,e3,e4,e5,cF];simp[k0,k1,k2,k3,k4,k5]
def a0O(s:Sub)(n:Int):Int:=if s.1=0 then 1 else if s.1=1 then n else if s.1=2 then s.2.2.1 else if s.1=3∨s.1=4 then(s.2.2.2.2.2.1.length:Int)else 0
theorem b4V(s:Sub)(n:Int):a9U (s,n)=some (a0O s n):=by
 obtain⟨k,s⟩:=s;unfold a9U a0O
 by_cases k0:k=0
 subst k0;simp
 by_cases k1:k=1
 subst k1;simp
 by_cases k2:k=2
 subst k2;simp
 by_cases k3:k=3
 subst k3;simp
 by_cases k4:k=4
 subst k4;simp;have e0:(k==0)=false:=by simp[k0]
 have e1:(k==1)=false:=by simp[k1]
 have e2:(k==2)=false:=by simp[k2]
 have e3:(k==3)=false:=by simp[k3]
 have e4:(k==4)=false:=by simp[k4]
 simp[k0,k1,k2,k3,k4,e0,e1,e2,e3,e4]
def b4W(s:Sub):Prop:=
 (s.1≠2→s.2.2.1=0)∧(s.1≠3∧s.1≠4→s.2.2.2.1=0)∧(s.1≠4→s.2.2.2.2.1=0)∧(s.1≠4→s.2.2.2.2.2.2.1=[0,0,0])∧(s.1≠3∧s.1≠4→s.2.2.2.2.2.1=[])∧(s.1≠5→s.2.2.2.2.2.2.2.1=[])
open Classical in
def b9n (s:Sub):Bool:=decide (b4W s)
theorem b2e{c x:Bool}:(bif c then some x else some false)=some (c&&x):=by cases c<;>rfl
theorem c6A{α:Type}(l:List α):(((l.length:Nat):Int)==0)=decide (l=[]):=by
 cases l with
 |nil=>rfl
 |cons a l=>simp;omega
theorem c6B(x:Int):(x==0)=decide (x=0):=rfl
theorem c9u{s:Sub}(h:SmallS s):b4r s=some (b9n s):=by
 have hc:short s.2.2.2.2.2.1:=by have:=h.coefs;unfold short;omega
 have hst:short s.2.2.2.2.2.2.2.1:=by have:=h.stages;unfold short;omega
 obtain⟨k,w,o,sh,lag,c,t,st,wm,p,r,u⟩:=s;simp only at hc hst;unfold b4r a8b b9n b4W;have ht:(a00 3 (0:Int))=[0,0,0]:=rfl
 by_cases k2:k=2
 subst k2;simp[b3Z,ht,b2e,c6A,c6B]
 by_cases k4:k=4
 subst k4;simp[b3Z,ht,b2e,c6A,c6B,b5U hc]
 by_cases k3:k=3
 subst k3;simp[b3Z,ht,b2e,c6A,c6B,b5U hc]
 by_cases k5:k=5
 subst k5;simp[b3Z,ht,b2e,c6A,c6B,c3A hst];have e2:(k==2)=false:=by simp[k2]
 have e3:(k==3)=false:=by simp[k3]
 have e4:(k==4)=false:=by simp[k4]
 have e5:(k==5)=false:=by simp[k5]
 simp[e2,e3,e4,e5,k2,k3,k4,k5,b3Z,ht,b2e,c6A,c6B]
theorem b0e(k:Int):a9V k=some (decide (k≠0∧k≠1)):=by
 unfold a9V
 by_cases h0:k=0
 subst h0;rfl
 by_cases h1:k=1
 subst h1;rfl;have e:(k != 0)=true:=by simp[h0]
 simp[e,h0,h1]
def a1H(s:Sub)(n:Int):Prop:=
 1≤n∧n≤4096∧a3A s.1 s n∧b4W s∧0≤s.2.1∧s.2.1≤30∧(s.1=0→s.2.1=0)∧(s.2.2.2.2.2.2.2.2.1.length:Int)=a0O s n∧s.2.2.2.2.2.2.2.2.1.all a0b=true∧s.2.2.2.2.2.2.2.2.2.2.1.all a0b=true∧
  (s.1=0∨s.1=1→s.2.2.2.2.2.2.2.2.2.2.1=[]∧s.2.2.2.2.2.2.2.2.2.1.1=0∧s.2.2.2.2.2.2.2.2.2.1.2.1=[])∧
  (s.1≠0∧s.1≠1→(s.2.2.2.2.2.2.2.2.2.2.1.length:Int)=n-a0O s n∧a2Z s.2.2.2.2.2.2.2.2.2.1 n (a0O s n)=true)
theorem b8C{s:Sub}(h:SmallS s){n:Int}(h1:1≤n)(h2:n≤4096)(hf:a3A s.1 s n):0≤a0O s n∧a0O s n≤4096:=by
 have hc:=h.coefs;unfold a0O;rcases hf with k|k|⟨k,h3⟩|⟨k,h3⟩|⟨k,h3⟩|⟨k,h3⟩<;>simp[k]<;>omega
open Classical in
theorem d4h {s:Sub} (h:SmallS s) (n:Int):b2P (s,n)=some (decide (a1H s n)):=by
 have hw:short s.2.2.2.2.2.2.2.2.1:=by have:=h.warm;unfold short;omega
 have hr:short s.2.2.2.2.2.2.2.2.2.2.1:=by have:=h.rest;unfold short;omega
 have hk:short s.2.2.2.2.2.2.2.2.2.1.2.1:=by have:=h.ks;unfold short;omega
 unfold b2P
 by_cases h1:1≤n
 rotate_left
 ·have e1:decide (n<1)=true:=by simp;omega
  have:¬ a1H s n:=fun hp=>h1 hp.1
  simp only[e1,cT,oB,this,decide_false]
 have e1:decide (n<1)=false:=by simp;omega
 by_cases h2:n≤4096
 rotate_left
 ·have e2:decide (n > 4096)=true:=by simp;omega
  have:¬ a1H s n:=fun hp=>h2 hp.2.1
  simp only[e1,e2,cT,cF,oB,this,decide_false]
 have e2:decide (n > 4096)=false:=by simp;omega
 by_cases h3:a3A s.1 s n
 rotate_left
 ·have e3:b8B s.1 s n=false:=by simp[b8B,h3]
  have:¬ a1H s n:=fun hp=>h3 hp.2.2.1
  simp only[e1,e2,c2f h,e3,cT,cF,a07,oB,this,decide_false]
 have e3:b8B s.1 s n=true:=by simp[b8B,h3]
 by_cases h4:b4W s
 rotate_left
 ·have e4:b9n s=false:=by simp[b9n,h4]
  have:¬ a1H s n:=fun hp=>h4 hp.2.2.2.1
  simp only[e1,e2,c2f h,e3,c9u h,e4,cT,cF,a07,bT,oB,this,decide_false]
 have e4:b9n s=true:=by simp[b9n,h4]
 simp only[e1,e2,c2f h,e3,c9u h,e4,cF,bT,oB]
 by_cases h5:0≤s.2.1
 rotate_left
 ·have e5:decide (s.2.1<0)=true:=by simp;omega
  have:¬ a1H s n:=fun hp=>h5 hp.2.2.2.2.1
  simp only[e5,cT,oB,this,decide_false]
 have e5:decide (s.2.1<0)=false:=by simp;omega
 by_cases h6:s.2.1≤30
 rotate_left
 ·have e6:decide (s.2.1 > 30)=true:=by simp;omega
  have:¬ a1H s n:=fun hp=>h6 hp.2.2.2.2.2.1
  simp only[e5,e6,cT,cF,oB,this,decide_false]
 have e6:decide (s.2.1 > 30)=false:=by simp;omega
 simp only[e5,e6,cF]
 by_cases h7:s.1=0→s.2.1=0
 rotate_left
 ·have h7a:s.1=0:=Classical.byContradiction fun hc=>h7 fun e=>absurd e hc
  have h7b:(s.2.1 != 0)=true:=by
   simp only[bne_iff_ne,ne_eq];intro e;exact h7 fun _=>e
  have e7:(s.1==0)=true:=by simp[h7a]
  have:¬ a1H s n:=fun hp=>h7 hp.2.2.2.2.2.2.1
  simp only[e7,h7b,cT,oB,this,decide_false]
 have e7:(bif s.1==0 then some (n,(s.2.1 != 0,(s,())))else some (n,(false,(s,()))))=some (n,(false,(s,()))):=by
  by_cases k0:s.1=0
  ·simp[k0,h7 k0]
  ·have:(s.1==0)=false:=by simp[k0]
   rw[this];rfl
 simp only[e7,oB,cF,b4V]
 by_cases h8:(s.2.2.2.2.2.2.2.2.1.length:Int)=a0O s n
 rotate_left
 ·have e8:(((s.2.2.2.2.2.2.2.2.1.length:Nat):Int) != a0O s n)=true:=by simp only[bne_iff_ne,ne_eq];exact h8
  have:¬ a1H s n:=fun hp=>h8 hp.2.2.2.2.2.2.2.1
  simp only[e8,cT,oB,this,decide_false]
 have e8:(((s.2.2.2.2.2.2.2.2.1.length:Nat):Int) != a0O s n)=false:=by rw[h8];simp
 simp only[e8,cF,a6m hw,a6m hr,oB]
 cases h9:s.2.2.2.2.2.2.2.2.1.all a0b with
 |false=>
  have:¬ a1H s n:=fun hp=>by rw[hp.2.2.2.2.2.2.2.2.1]at h9;cases h9
  simp only[a07,cT,oB,this,decide_false]
 |true=>
  cases h10:s.2.2.2.2.2.2.2.2.2.2.1.all a0b with
  |false=>
   have:¬ a1H s n:=fun hp=>by rw[hp.2.2.2.2.2.2.2.2.2.1]at h10;cases h10
   simp only[a07,bT,cT,cF,oB,this,decide_false]
  |true=>
   simp only[bT,cF,oB,b0e]
   have hwr:=b8C h h1 h2 h3
   by_cases k01:s.1≠0∧s.1≠1
   ·have e11:wrap .i64 (n-a0O s n)=n-a0O s n:=a0l (by omega)
    simp only[k01,ne_eq,not_false_eq_true,and_self,decide_true,bT,cF,e11,b3s hk,oB]
    by_cases h11:(s.2.2.2.2.2.2.2.2.2.2.1.length:Int)=n-a0O s n
    ·have e12:(((s.2.2.2.2.2.2.2.2.2.2.1.length:Nat):Int)==n-a0O s n)=true:=by simp[h11]
     simp only[e12,cT]
     congr 1
     rw[a80,dT]
     constructor
     ·intro hp
      exact⟨h1,h2,h3,h4,h5,h6,h7,h8,h9,h10,fun hc=>absurd hc (by omega),fun _=>⟨h11,hp⟩⟩
     ·intro hp;exact(hp.2.2.2.2.2.2.2.2.2.2.2 k01).2
    ·have e12:(((s.2.2.2.2.2.2.2.2.2.2.1.length:Nat):Int)==n-a0O s n)=false:=by simp only[beq_eq_false_iff_ne,ne_eq];exact h11
     have:¬ a1H s n:=fun hp=>h11 (hp.2.2.2.2.2.2.2.2.2.2.2 k01).1
     simp only[e12,cF,this,decide_false]
   ·have k01':s.1=0∨s.1=1:=by omega
    simp only[k01,decide_false,a07,cT,c6A]
    simp only[c6B,b2e]
    congr 1
    rw[a80,dT]
    simp only[bA,dT]
    constructor
    ·rintro⟨g1,g2,g3⟩
     exact⟨h1,h2,h3,h4,h5,h6,h7,h8,h9,h10,fun _=>⟨g1,g2,g3⟩,fun hc=>absurd hc k01⟩
    ·intro hp;exact hp.2.2.2.2.2.2.2.2.2.2.1 k01'
end Go.Ab
namespace Go.Ab
theorem c0e{α:Type}[DecidableEq α](q:α→α→Bool)(hq:∀a b,q a b=decide (a=b)):∀(x y:List α),x.length=y.length→((x.zip y).all fun p=>q p.1 p.2)=decide (x=y)
 | [],[],_=>by simp
 |a::x,b::y,h=>by
  have ih:=c0e q hq x y (by simpa using h);simp only[List.zip_cons_cons,a23];rw[ih,hq]
  by_cases h1:a=b<;>by_cases h2:x=y<;>simp[h1,h2]
theorem b1n{x y:List Int}(h:short x):a2i (x,y)=some (decide (x=y)):=by
 unfold a2i
 by_cases hl:x.length=y.length
 have e:(((x.length:Nat):Int) != ((y.length:Nat):Int))=false:=by rw[hl];simp
 have hz:(x.zip y).length=x.length:=by rw[b15];omega
 have:=a1V (f:=a6t) (x.zip y) (fun i=>(x,y,(i:Int),())) (fun p=>p.1==p.2) (bt:=Sum.inl ()) (bf:=Sum.inr (false,()))
  (fun i hi hp=>by
   have h1:i<x.length:=by omega
   have h2:i<y.length:=by omega
   rw[a55]at hp;have hp:x[i]=y[i]:=by simpa using hp
   have hne:(x[i] != y[i])=false:=by rw[hp];simp
   simp only[a6t,dlt h1,cT,a0d h1,a0d h2,oB,hne,cF,a0c (a24 h1 h)])
  (fun i hi hp=>by
   have h1:i<x.length:=by omega
   have h2:i<y.length:=by omega
   rw[a55]at hp;have hne:(x[i] != y[i])=true:=by simpa using hp
   simp only[a6t,dlt h1,cT,a0d h1,a0d h2,oB,hne])
  (by rw[hz];simp[a6t])
 simp only[nZ]at this;simp only[e,cF,this,c0e (fun(a b:Int)=>a==b) (fun _ _=>rfl) x y hl];cases decide (x=y)<;>rfl;have e:(((x.length:Nat):Int) != ((y.length:Nat):Int))=true:=by simp only[bne_iff_ne,ne_eq];omega
 have:¬ x=y:=fun hc=>hl (by rw[hc])
 simp only[e,cT,this,decide_false]
theorem c7T{x y:List Stg}(h:short x):a8E (x,y)=some (decide (x=y)):=by
 have heq:∀a b:Stg,eqT (.pair (.int .i64) (.pair (.int .i64) .unit)) a b=decide (a=b):=by
  rintro⟨a1,a2,⟨⟩⟩ ⟨b1,b2,⟨⟩⟩
  show((a1==b1)&&((a2==b2)&&true))=_
  by_cases h1:a1=b1<;>by_cases h2:a2=b2<;>simp[h1,h2]
 unfold a8E
 by_cases hl:x.length=y.length
 have e:(((x.length:Nat):Int) != ((y.length:Nat):Int))=false:=by rw[hl];simp
 have hz:(x.zip y).length=x.length:=by rw[b15];omega
 have:=a1V (f:=a4B) (x.zip y) (fun i=>(x,y,(i:Int),())) (fun p=>decide (p.1=p.2)) (bt:=Sum.inl ()) (bf:=Sum.inr (false,()))
  (fun i hi hp=>by
   have h1:i<x.length:=by omega
   have h2:i<y.length:=by omega
   rw[a55]at hp;simp only[a4B,dlt h1,cT,a0d h1,a0d h2,oB,heq,hp,bT,cF,a0c (a24 h1 h)])
  (fun i hi hp=>by
   have h1:i<x.length:=by omega
   have h2:i<y.length:=by omega
   rw[a55]at hp;simp only[a4B,dlt h1,cT,a0d h1,a0d h2,oB,heq,hp,a07])
  (by rw[hz];simp[a4B])
 simp only[nZ]at this;simp only[e,cF,this,c0e (fun(a b:Stg)=>decide (a=b)) (fun _ _=>rfl) x y hl];cases decide (x=y)<;>rfl;have e:(((x.length:Nat):Int) != ((y.length:Nat):Int))=true:=by simp only[bne_iff_ne,ne_eq];omega
 have:¬ x=y:=fun hc=>hl (by rw[hc])
 simp only[e,cT,this,decide_false]
open Classical in
theorem c5y {a b:Sub} (h:SmallS a):a9b (a,b)=some (decide (a=b)):=by
 have hc:short a.2.2.2.2.2.1:=by have:=h.coefs;unfold short;omega
 have hst:short a.2.2.2.2.2.2.2.1:=by have:=h.stages;unfold short;omega
 have hw:short a.2.2.2.2.2.2.2.2.1:=by have:=h.warm;unfold short;omega
 have hr:short a.2.2.2.2.2.2.2.2.2.2.1:=by have:=h.rest;unfold short;omega
 have hk:short a.2.2.2.2.2.2.2.2.2.1.2.1:=by have:=h.ks;unfold short;omega
 unfold a9b b3V
 simp only[b1n hc,b1n hw,b1n hr,b1n hk,c7T hst,b3Z,oB,b2e]
 congr 1
 obtain⟨k,w,o,sh,lag,c,t,st,wm,⟨po,ks,⟨⟩⟩,r,⟨⟩⟩:=a
 obtain⟨k',w',o',sh',lag',c',t',st',wm',⟨po',ks',⟨⟩⟩,r',⟨⟩⟩:=b
 rw[a80]
 simp only[bA,dT,beq_iff_eq,pJ,and_true,and_assoc]
def b6V(s:Sub):Sub:=
 let z:List Int:=a00 3 0
 if s.1=0 then(0,0,0,0,0,[],z,[],s.2.2.2.2.2.2.2.2.1,(0,[],()),[],())
 else if s.1=1 then(1,s.2.1,0,0,0,[],z,[],s.2.2.2.2.2.2.2.2.1,(0,[],()),[],())
 else if s.1=2 then(2,s.2.1,s.2.2.1,0,0,[],z,[],s.2.2.2.2.2.2.2.2.1,s.2.2.2.2.2.2.2.2.2.1,s.2.2.2.2.2.2.2.2.2.2.1,())
 else if s.1=3 then(3,s.2.1,0,s.2.2.2.1,0,s.2.2.2.2.2.1,z,[],s.2.2.2.2.2.2.2.2.1,s.2.2.2.2.2.2.2.2.2.1,s.2.2.2.2.2.2.2.2.2.2.1,())
 else if s.1=4 then(4,s.2.1,0,s.2.2.2.1,s.2.2.2.2.1,s.2.2.2.2.2.1,s.2.2.2.2.2.2.1,[],s.2.2.2.2.2.2.2.2.1,s.2.2.2.2.2.2.2.2.2.1,s.2.2.2.2.2.2.2.2.2.2.1,())
 else if s.1=5 then(5,s.2.1,0,0,0,[],z,s.2.2.2.2.2.2.2.1,[],s.2.2.2.2.2.2.2.2.2.1,s.2.2.2.2.2.2.2.2.2.2.1,())
 else(s.1,s.2.1,0,0,0,[],z,[],s.2.2.2.2.2.2.2.2.1,s.2.2.2.2.2.2.2.2.2.1,s.2.2.2.2.2.2.2.2.2.2.1,())
theorem d5s(s:Sub):b4x s=some (b6V s):=by
 obtain⟨k,w,o,sh,lag,c,t,st,wm,p,r,u⟩:=s;unfold b4x b6V
 by_cases k0:k=0
 subst k0;rfl
 by_cases k1:k=1
 subst k1;rfl
 by_cases k2:k=2
 subst k2;rfl
 by_cases k3:k=3
 subst k3;rfl
 by_cases k4:k=4
 subst k4;rfl
 by_cases k5:k=5
 subst k5;rfl;have e0:(k==0)=false:=by simp[k0]
 have e1:(k==1)=false:=by simp[k1]
 have e2:(k==2)=false:=by simp[k2]
 have e3:(k==3)=false:=by simp[k3]
 have e4:(k==4)=false:=by simp[k4]
 have e5:(k==5)=false:=by simp[k5]
 simp only[e0,e1,e2,e3,e4,e5,cF,oB,k0,k1,k2,k3,k4,k5,if_false]
open Classical in
def b1o (s:Sub) (n:Int):Int:=if a3A s.1 s n then a0O s n else -1
theorem c4i{s:Sub}(h:SmallS s)(n:Int):b1l (s,n)=some (b1o s n):=by
 have hc:short s.2.2.2.2.2.1:=by have:=h.coefs;unfold short;omega
 have hst:short s.2.2.2.2.2.2.2.1:=by have:=h.stages;unfold short;omega
 have ht:=h.taps;obtain⟨k,w,o,sh,lag,c,t,st,wm,p,r,u⟩:=s;simp only at hc hst ht;unfold b1l b1o a0O a3A
 by_cases k0:k=0
 subst k0;simp
 by_cases k1:k=1
 subst k1;simp
 by_cases k2:k=2
 subst k2
 by_cases h1:0≤o<;>by_cases h2:o≤4<;>by_cases h3:o≤n<;>simp[h1,h2,h3]
 by_cases k3:k=3
 subst k3;cases hl:a6y c sh<;>by_cases h2:(c.length:Int)≤n<;>simp[a6z hc,hl,h2]
 by_cases k4:k=4
 subst k4;cases hl:a6y c sh<;>by_cases h2:(c.length:Int)≤n<;>cases h3:a5R lag t<;>simp[a6z hc,b3X ht,hl,h2,h3]
 by_cases k5:k=5
 subst k5
 by_cases h1:0<st.length<;>cases h2:a5J st<;>simp[b3n hst,h1,h2]
 have e0:(k==0)=false:=by simp[k0]
 have e1:(k==1)=false:=by simp[k1]
 have e2:(k==2)=false:=by simp[k2]
 have e3:(k==3)=false:=by simp[k3]
 have e4:(k==4)=false:=by simp[k4]
 have e5:(k==5)=false:=by simp[k5]
 simp[k0,k1,k2,k3,k4,k5,e0,e1,e2,e3,e4,e5]
theorem a5S(k:Int):a5u k=some (decide (2≤k∧k≤5)):=by
 unfold a5u
 by_cases h1:2≤k<;>by_cases h2:k≤5<;>simp[h1,h2]
def d2L(s:Sub)(n:Int):Prop:=
 1≤n∧n≤4096∧0≤s.1∧s.1≤5∧s=b6V s∧0≤s.2.1∧s.2.1≤30∧a3A s.1 s n∧(s.2.2.2.2.2.2.2.2.1.length:Int)=a0O s n∧s.2.2.2.2.2.2.2.2.1.all a0b=true∧s.2.2.2.2.2.2.2.2.2.2.1.all a0b=true∧
  (2≤s.1∧s.1≤5→(s.2.2.2.2.2.2.2.2.2.2.1.length:Int)=n-a0O s n∧a2Z s.2.2.2.2.2.2.2.2.2.1 n (a0O s n)=true)
theorem b4X{k:Int}{s:Sub}{n:Int}(h:a3A k s n):k=0∨k=1∨k=2∨k=3∨k=4∨k=5:=by
 unfold a3A at h;omega
theorem d0B(s:Sub)(n:Int):a1H s n↔d2L s n:=by
 have key:a3A s.1 s n→((b4W s∧(s.1=0→s.2.1=0)∧(s.2.2.2.2.2.2.2.2.1.length:Int)=a0O s n∧(s.1=0∨s.1=1→s.2.2.2.2.2.2.2.2.2.2.1=[]∧s.2.2.2.2.2.2.2.2.2.1.1=0∧s.2.2.2.2.2.2.2.2.2.1.2.1=[]))↔
   (s=b6V s∧(s.2.2.2.2.2.2.2.2.1.length:Int)=a0O s n)):=by
  intro hf;have ht:(a00 3 (0:Int))=[0,0,0]:=rfl;obtain⟨k,w,o,sh,lag,c,t,st,wm,⟨po,ks,⟨⟩⟩,r,⟨⟩⟩:=s;rcases b4X hf with k0|k0|k0|k0|k0|k0<;>simp only at k0<;>subst k0<;>simp[b4W,b6V,a0O,ht]<;>(try constructor)<;>(try intros)<;>(try simp_all)<;>(try exact and_left_comm)<;>(try exact and_comm)
 unfold a1H d2L;constructor
 rintro⟨h1,h2,h3,h4,h5,h6,h7,h8,h9,h10,h11,h12⟩
 obtain⟨g1,g2⟩:=(key h3).1 ⟨h4,h7,h8,h11⟩;have hk:=b4X h3;exact⟨h1,h2,by omega,by omega,g1,h5,h6,h3,h8,h9,h10,fun hc=>h12 (by omega)⟩
 rintro⟨h1,h2,h3,h4,h5,h6,h7,h8,h9,h10,h11,h12⟩
 obtain⟨g1,g2,g3,g4⟩:=(key h8).2 ⟨h5,h9⟩;have hk:=b4X h8;exact⟨h1,h2,h8,g1,h6,h7,g2,h9,h10,h11,g4,fun hc=>h12 (by omega)⟩
end Go.Ab
namespace Go.Ab
open IntKind(wrap)
def c2g(warm rest:List Int)(o:Int):Option (List Int):=bif warm.all a0b&&rest.all a0b then a4k (a3y o.toNat) rest warm else none
def backP(s:Sub):Option (List Int):=
 if s.1=1 then some s.2.2.2.2.2.2.2.2.1
 else if s.1=2 then c2g s.2.2.2.2.2.2.2.2.1 s.2.2.2.2.2.2.2.2.2.2.1 s.2.2.1
 else if s.1=3 then b3o s.2.2.2.2.2.2.2.2.1 s.2.2.2.2.2.2.2.2.2.2.1 s.2.2.2.2.2.1 s.2.2.2.1
 else if s.1=4 then(b3o s.2.2.2.2.2.2.2.2.1 s.2.2.2.2.2.2.2.2.2.2.1 s.2.2.2.2.2.1 s.2.2.2.1).bind fun l=>b3p l s.2.2.2.2.1 s.2.2.2.2.2.2.1
 else b1m s.2.2.2.2.2.2.2.2.2.2.1 s.2.2.2.2.2.2.2.1
def c2h(s:Sub)(n:Int):Option (List Int):=
 if s.1=0 then some (a00 n.toNat (s.2.2.2.2.2.2.2.2.1.getD 0 0))else(backP s).bind (upO s.2.1)
theorem b1p{w r c:List Int}{s:Int}{l}(h:b3o w r c s=some l):l.length=w.length+r.length:=by
 unfold b3o at h;cases hc:(w.all a0b&&r.all a0b)with
 |false=>rw[hc]at h;cases h
 |true=>
  rw[hc]at h;exact(b5R _ r w l (a86.1 hc).1 h).2
theorem c3B{w r:List Int}{o:Int}{l}(h:c2g w r o=some l):l.length=w.length+r.length:=by
 unfold c2g at h;cases hc:(w.all a0b&&r.all a0b)with
 |false=>rw[hc]at h;cases h
 |true=>
  rw[hc]at h;exact(b5R _ r w l (a86.1 hc).1 h).2
theorem c2i{r t:List Int}{lag:Int}{l}(h:b3p r lag t=some l):l.length=r.length:=by
 unfold b3p at h;cases hc:r.all a0b with
 |false=>rw[hc]at h;cases h
 |true=>
  rw[hc]at h
  have:=(b5R _ r [] l rfl h).2
  simpa using this
theorem c7s:∀(st:List Stg)(r:List Int){l},lO st r=some l→l.length=r.length
 | [],r,l,h=>by simp only[lO,sj]at h;rw[h]
 |s::st,r,l,h=>by
  simp only[lO]at h
  split at h
  rename_i r' hr;rw[c7s st r' h,b5T _ _ _ hr];simp;cases h
theorem c0P{r:List Int}{st:List Stg}{l}(h:b1m r st=some l):l.length=r.length:=by
 unfold b1m at h;cases hc:r.all a0b with
 |false=>rw[hc]at h;cases h
 |true=>rw[hc]at h;exact c7s _ _ h
theorem c2j{s:Sub}(h:SmallS s){l}(hl:backP s=some l):l.length<100000:=by
 have hw:=h.warm;have hr:=h.rest;unfold backP at hl
 split at hl
 simp only[sj]at hl;rw[←hl];omega
 split at hl
 rw[c3B hl];omega
 split at hl
 rw[b1p hl];omega
 split at hl
 obtain⟨l1,h1,h2⟩:=a50.1 hl;rw[c2i h2,b1p h1];omega;rw[c0P hl];omega
theorem d4i{s:Sub}{n:Int}(h1:1≤n)(h2:n≤4096)(hw:s.2.2.2.2.2.2.2.2.1.length=1):
  a0e a8X (n,(0:Int),([]:List Int),s,())=some (a00 n.toNat (s.2.2.2.2.2.2.2.2.1.getD 0 0),()):=by
 obtain⟨N,rfl⟩:=a03 (show 0≤n by omega);have hg:a0r s.2.2.2.2.2.2.2.2.1 (0:Int)=some (s.2.2.2.2.2.2.2.2.1.getD 0 0):=b9Z (by omega) (by omega)
 have:=a0G (f:=a8X) (fun i=>((N:Int),(i:Int),a00 i (s.2.2.2.2.2.2.2.2.1.getD 0 0),s,())) N
  (b:=(a00 N (s.2.2.2.2.2.2.2.2.1.getD 0 0),())) (fun i hi=>by
   have hlim:lim ((a00 i (s.2.2.2.2.2.2.2.2.1.getD 0 0)).length+1)=true:=a0q (by rw[a31];omega);have ea:a00 i (s.2.2.2.2.2.2.2.2.1.getD 0 0)++[s.2.2.2.2.2.2.2.2.1.getD 0 0]=a00 (i+1) (s.2.2.2.2.2.2.2.2.1.getD 0 0):=by rw[←a38]
   simp only[a8X,dlt hi,cT,hg,oB,hlim,a16,ea,a0c (show i<1000000 by omega)])
  (by simp[a8X])
 simpa using this
theorem c7U{s:Sub}{n:Int}(h1:1≤n)(h2:n≤4096)(hw:s.2.2.2.2.2.2.2.2.1.length=1):
  a0e a7x (n,(0:Int),a00 n.toNat (0:Int),s,())=some (a00 n.toNat (s.2.2.2.2.2.2.2.2.1.getD 0 0),()):=by
 obtain⟨N,rfl⟩:=a03 (show 0≤n by omega);have hg:a0r s.2.2.2.2.2.2.2.2.1 (0:Int)=some (s.2.2.2.2.2.2.2.2.1.getD 0 0):=b9Z (by omega) (by omega);obtain⟨z,hz⟩:∃z,a00 N (s.2.2.2.2.2.2.2.2.1.getD 0 0)=z:=⟨_,rfl⟩;have hzl:z.length=(a00 N (0:Int)).length:=by rw[←hz];simp
 have hNl:(a00 N (0:Int)).length=N:=by simp
 have:=a0G (f:=a7x) (fun i=>((N:Int),(i:Int),z.take i++(a00 N (0:Int)).drop i,s,())) N
  (b:=(z,())) (fun i hi=>by
   have hi':i<(a00 N (0:Int)).length:=by omega
   have hl:(z.take i++(a00 N (0:Int)).drop i).length=N:=by rw[lN,a04,a09];omega
   have hd:decide ((i:Int)<(((z.take i++(a00 N (0:Int)).drop i).length:Nat):Int))=true:=by rw[hl];simp;omega
   have h0:decide ((0:Int)≤(i:Int))=true:=by simp
   have hs:=c9s hi' hzl;have hzi:z[i]'(by omega)=s.2.2.2.2.2.2.2.2.1.getD 0 0:=by simp only[←hz,List.getElem_replicate]
   rw[hzi]at hs;simp only[a7x,dlt hi,cT,hg,oB,h0,hd,a02,tN,hs,a0c (show i<1000000 by omega)])
  (by
   have e1:z.take N=z:=a28 (by omega);have e2:(a00 N (0:Int)).drop N=[]:=List.drop_eq_nil_of_le (by omega);simp[a7x,e1])
 simp only[nZ,a53,a05,a17]at this;rw[tN,hz];exact this
theorem c0f(o:Option (List Int)):((a1d o).1,(a1d o).2)=a1d o:=by cases o<;>rfl
theorem d0C{s:Sub}(h:SmallS s){n:Int}(hp:a1H s n)(h0:s.1≠0):b5O s=some (a1d (backP s)):=by
 obtain⟨h1,h2,hf,-,-,-,-,hlen,hw,hr,-⟩:=hp;have hsr:=h.rest;have hsw:=h.warm;have ht:=h.taps;obtain⟨k,w,o,sh,lag,c,t,st,wm,p,r,u⟩:=s;simp only at *;unfold b5O backP;rcases hf with k0|k0|⟨k0,g1,g2,g3⟩|⟨k0,g1,g2⟩|⟨k0,g1,g2,g3⟩|⟨k0,g1,g2⟩;exact absurd k0 h0;subst k0;simp[a1d];subst k0;obtain⟨O,rfl⟩:=a03 g1;have g2:(O:Int)≤4:=g2;simp only[a0O]at hlen;have hO:wm.length=O:=by simp at hlen;omega
 have:=c4f (warm:=wm) (rest:=r) (o:=O) (by omega) hO (by omega)
 simp[this,c2g,c0f];subst k0;simp only[a0O]at hlen;have hO:wm.length=c.length:=by simp at hlen;omega
 have:=b5z (rest:=r) g1 hO (by omega)
 simp[this,c0f]
 ·subst k0;simp only[a0O]at hlen;have hO:wm.length=c.length:=by simp at hlen;omega
  have h5:=b5z (rest:=r) g1 hO (by omega);simp only[show((4:Int)==2)=false from rfl,show((4:Int)==3)=false from rfl,show((4:Int)==4)=true from rfl,cT,cF,h5,oB];cases hl:b3o wm r c sh with
  |none=>simp[a1d]
  |some l=>
   have hll:=b1p hl;have h6:=c5t (rest:=l) g3 ht (by omega);simp[a1d,h6]
 subst k0
 have:=c4h (rest:=r) g2 (by omega)
 simp[this,c0f]
theorem d0D{s:Sub}(h:SmallS s){n:Int}(hp:a1H s n):b5L (s,n)=some (a1d (c2h s n)):=by
 have hbl:=fun l (hl:backP s=some l)=>c2j h hl;obtain⟨h1,h2,hf,-,hw0,hw30,-,hlen,hw,hr,-⟩:=hp;have hsr:=h.rest;have hsw:=h.warm;have ht:=h.taps;have hfl:=d4i (s:=s) h1 h2;obtain⟨k,w,o,sh,lag,c,t,st,wm,p,r,u⟩:=s;simp only at *;have up:∀l,l.length<100000→b1j (l,w)=some (a1d (upO w l)):=fun l hl=>c9q hw0 hw30 hl;unfold b5L c2h;rcases hf with k0|k0|⟨k0,g1,g2,g3⟩|⟨k0,g1,g2⟩|⟨k0,g1,g2,g3⟩|⟨k0,g1,g2⟩;subst k0;simp only[a0O]at hlen
 have:=hfl (by simp at hlen;omega)
 simp[this,a1d];subst k0;simp only[backP]at hbl⊢
 have:=up wm (by omega)
 simp[this,c0f]
 ·subst k0;obtain⟨O,rfl⟩:=a03 g1;have g2:(O:Int)≤4:=g2;simp only[a0O]at hlen;have hO:wm.length=O:=by simp at hlen;omega
  have h5:=c7P (warm:=wm) (rest:=r) (o:=O) (by omega) hO (by omega);simp only[backP]at hbl⊢;simp[h5];have e:(bif wm.all a0b&&r.all a0b then a4k (a3y O) r wm else none)=c2g wm r (O:Int):=rfl;rw[e];cases hl:c2g wm r (O:Int)with
  |none=>simp[a1d]
  |some l=>simp[a1d,up l (by rw[c3B hl];omega)]
 ·subst k0;simp only[a0O]at hlen;have hO:wm.length=c.length:=by simp at hlen;omega
  have h5:=b9k (rest:=r) g1 hO (by omega);simp only[backP]at hbl⊢;simp[h5];cases hl:b3o wm r c sh with
  |none=>simp[a1d]
  |some l=>simp[a1d,up l (by rw[b1p hl];omega)]
 ·subst k0;simp only[a0O]at hlen;have hO:wm.length=c.length:=by simp at hlen;omega
  have h5:=b9k (rest:=r) g1 hO (by omega);simp only[backP]at hbl⊢;simp[h5];cases hl:b3o wm r c sh with
  |none=>simp[a1d]
  |some l=>
   have hll:=b1p hl;have h6:=c9p (rest:=l) g3 ht (by omega);simp[a1d,h6];cases hl2:b3p l lag t with
   |none=>simp
   |some l2=>simp[up l2 (by rw[c2i hl2];omega)];cases upO w l2<;>simp[a1d]
 ·subst k0;have h5:=c7S (rest:=r) g2 (by omega);simp only[backP]at hbl⊢;simp[h5];cases hl:b1m r st with
  |none=>simp[a1d]
  |some l=>simp[a1d,up l (by rw[c0P hl];omega)]
open Classical in
def a3B (s:Sub) (n:Int):Option (List Int):=if a1H s n then c2h s n else none
theorem c5z{s:Sub}(h:SmallS s)(n:Int):b2o (s,n)=some (match a3B s n with|some r=>(r,0)|none=>([],1)):=by
 unfold b2o a3B;simp only[d4h h,oB]
 by_cases hp:a1H s n
 simp only[hp,decide_true,bT,cF,d0D h hp,oB,if_true];cases c2h s n<;>simp[a1d];simp only[hp,decide_false,a07,cT,if_false]
theorem d2M{s:Sub}(h:SmallS s)(n:Int):b7y (s,n)=some (a3B s n).isSome:=by
 unfold b7y;simp only[c5z h,oB];cases a3B s n<;>rfl
open Classical in
theorem c7V {s:Sub} (h:SmallS s) (n:Int):b3f (s,n)=some (match a3B s n with|some r=>(r,true)|none=>([],false)):=by
 have hw:short s.2.2.2.2.2.2.2.2.1:=by have:=h.warm;unfold short;omega
 have hr:short s.2.2.2.2.2.2.2.2.2.2.1:=by have:=h.rest;unfold short;omega
 have hk:short s.2.2.2.2.2.2.2.2.2.1.2.1:=by have:=h.ks;unfold short;omega
 have hiff:=d0B s n
 unfold b3f
 have no:¬ d2L s n→a3B s n=none:=fun hc=>by
  unfold a3B
  rw[if_neg fun hp=>hc (hiff.1 hp)]
 by_cases h1:1≤n
 rotate_left
 ·have e1:decide (n<1)=true:=by simp;omega
  rw[no fun hp=>h1 hp.1]
  simp only[e1,cT,oB]
 have e1:decide (n<1)=false:=by simp;omega
 by_cases h2:n≤4096
 rotate_left
 ·have e2:decide (n > 4096)=true:=by simp;omega
  rw[no fun hp=>h2 hp.2.1]
  simp only[e1,e2,cT,cF,oB]
 have e2:decide (n > 4096)=false:=by simp;omega
 by_cases h3:0≤s.1
 rotate_left
 ·have e3:decide (s.1<0)=true:=by simp;omega
  rw[no fun hp=>h3 hp.2.2.1]
  simp only[e1,e2,e3,cT,cF,oB]
 have e3:decide (s.1<0)=false:=by simp;omega
 by_cases h4:s.1≤5
 rotate_left
 ·have e4:decide (s.1 > 5)=true:=by simp;omega
  rw[no fun hp=>h4 hp.2.2.2.1]
  simp only[e1,e2,e3,e4,cT,cF,oB]
 have e4:decide (s.1 > 5)=false:=by simp;omega
 simp only[e1,e2,e3,e4,cF,d5s,c5y h,oB]
 by_cases h5:s=b6V s
 rotate_left
 ·rw[no fun hp=>h5 hp.2.2.2.2.1]
  simp only[h5,decide_false,a07,cT,oB]
 have e5:decide (s=b6V s)=true:=decide_eq_true h5
 simp only[e5,bT,cF]
 by_cases h6:0≤s.2.1
 rotate_left
 ·have e6:decide (s.2.1<0)=true:=by simp;omega
  rw[no fun hp=>h6 hp.2.2.2.2.2.1]
  simp only[e6,cT,oB]
 have e6:decide (s.2.1<0)=false:=by simp;omega
 by_cases h7:s.2.1≤30
 rotate_left
 ·have e7:decide (s.2.1 > 30)=true:=by simp;omega
  rw[no fun hp=>h7 hp.2.2.2.2.2.2.1]
  simp only[e6,e7,cT,cF,oB]
 have e7:decide (s.2.1 > 30)=false:=by simp;omega
 simp only[e6,e7,cF,oB,c4i h]
 by_cases h8:a3A s.1 s n
 rotate_left
 ·have e8:decide (b1o s n<0)=true:=by simp[b1o,h8]
  rw[no fun hp=>h8 hp.2.2.2.2.2.2.2.1]
  simp only[e8,cT,oB]
 have hwr:=b8C h h1 h2 h8
 have e8':b1o s n=a0O s n:=by simp[b1o,h8]
 have e8:decide (a0O s n<0)=false:=by simp;omega
 simp only[e8',e8,cF]
 by_cases h9:(s.2.2.2.2.2.2.2.2.1.length:Int)=a0O s n
 rotate_left
 ·have e9:(((s.2.2.2.2.2.2.2.2.1.length:Nat):Int) != a0O s n)=true:=by simp only[bne_iff_ne,ne_eq];exact h9
  rw[no fun hp=>h9 hp.2.2.2.2.2.2.2.2.1]
  simp only[e9,cT,oB]
 have e9:(((s.2.2.2.2.2.2.2.2.1.length:Nat):Int) != a0O s n)=false:=by rw[h9];simp
 simp only[e9,cF,a0B hw,a0B hr,oB]
 cases h10:s.2.2.2.2.2.2.2.2.1.all a0b with
 |false=>
  rw[no fun hp=>by rw[hp.2.2.2.2.2.2.2.2.2.1]at h10;cases h10]
  simp only[a07,cT,oB]
 |true=>
  cases h11:s.2.2.2.2.2.2.2.2.2.2.1.all a0b with
  |false=>
   rw[no fun hp=>by rw[hp.2.2.2.2.2.2.2.2.2.2.1]at h11;cases h11]
   simp only[a07,bT,cT,cF,oB]
  |true=>
   simp only[bT,cF,oB,a5S]
   have e11:wrap .i64 (n-a0O s n)=n-a0O s n:=a0l (by omega)
   by_cases h12:2≤s.1∧s.1≤5→(s.2.2.2.2.2.2.2.2.2.2.1.length:Int)=n-a0O s n∧a2Z s.2.2.2.2.2.2.2.2.2.1 n (a0O s n)=true
   rotate_left
   ·have hg:2≤s.1∧s.1≤5:=Classical.byContradiction fun hc=>h12 fun e=>absurd e hc
    have hn:¬ ((s.2.2.2.2.2.2.2.2.2.2.1.length:Int)=n-a0O s n∧a2Z s.2.2.2.2.2.2.2.2.2.1 n (a0O s n)=true):=fun hc=>h12 fun _=>hc
    rw[no fun hp=>h12 hp.2.2.2.2.2.2.2.2.2.2.2]
    simp only[hg,and_self,decide_true,cT,e11,b3s hk,a7B hk,oB]
    by_cases h13:(s.2.2.2.2.2.2.2.2.2.2.1.length:Int)=n-a0O s n
    ·have e13:(((s.2.2.2.2.2.2.2.2.2.2.1.length:Nat):Int) != n-a0O s n)=false:=by simp[h13]
     have e14:a2Z s.2.2.2.2.2.2.2.2.2.1 n (a0O s n)=false:=by
      cases hb:a2Z s.2.2.2.2.2.2.2.2.2.1 n (a0O s n)with
      |false=>rfl
      |true=>exact absurd ⟨h13,hb⟩ hn
     simp only[e13,e14,cF,a07,oB,cT]
    ·have e13:(((s.2.2.2.2.2.2.2.2.2.2.1.length:Nat):Int) != n-a0O s n)=true:=by simp only[bne_iff_ne,ne_eq];exact h13
     simp only[e13,cT,oB]
   have hrp:d2L s n:=⟨h1,h2,h3,h4,h5,h6,h7,h8,h9,h10,h11,h12⟩
   have hsp:=hiff.2 hrp
   have e12:(bif decide (2≤s.1∧s.1≤5)then bif (((s.2.2.2.2.2.2.2.2.2.2.1.length:Nat):Int) != wrap .i64 (n-a0O s n))then some (n,(true,(s,())))else(a6V (s.2.2.2.2.2.2.2.2.2.1,(n,a0O s n))).bind fun y9=>some (n,(!y9,(s,())))
     else some (n,(false,(s,()))))=some (n,(false,(s,()))):=by
    by_cases hg:2≤s.1∧s.1≤5
    ·obtain⟨g1,g2⟩:=h12 hg
     have e13:(((s.2.2.2.2.2.2.2.2.2.2.1.length:Nat):Int) != n-a0O s n)=false:=by simp[g1]
     simp only[hg,and_self,decide_true,cT,e11,e13,cF,a7B hk,g2,oB,bT]
    ·simp only[hg,decide_false,cF]
   simp only[e12,oB,cF]
   have hsub:a3B s n=c2h s n:=by unfold a3B;rw[if_pos hsp]
   rw[hsub]
   unfold c2h
   by_cases k0:s.1=0
   ·have ek:(s.1==0)=true:=by simp[k0]
    have hl1:s.2.2.2.2.2.2.2.2.1.length=1:=by
     have:=h9;unfold a0O at this;rw[if_pos k0]at this;omega
    have g1:decide ((0:Int)≤n)=true:=by simp;omega
    have g2:decide (n≤n)=true:=by simp
    have g3:lim n.toNat=true:=a0q (by omega)
    simp only[ek,cT,g1,g2,g3,a02,c7U h1 h2 hl1,oB,k0,if_true]
    rfl
   ·have ek:(s.1==0)=false:=by simp[k0]
    simp only[ek,cF,d0C h hsp k0,oB,k0,if_false]
    cases hb:backP s with
    |none=>simp[a1d]
    |some l=>
     have hll:=c2j h hb
     simp only[a1d,d4f h6 h7 hll,oB]
     cases upO s.2.1 l<;>simp[a1d]
theorem c7W{s:Sub}(h:SmallS s)(n:Int):b3g (s,n)=some (a3B s n).isSome:=by
 unfold b3g;simp only[c7V h,oB];cases a3B s n<;>rfl
end Go.Ab
namespace Go.Ab
open IntKind(wrap)
@[reducible] def Wr:Type:=(List Int)×(Int×Unit)
def d2N(w:Wr)(b:Int):Wr:=
 let bs:=if w.2.1%8=0 then w.1++[0]else w.1
 (bs.set (w.2.1 / 8).toNat (bits .u8 .or (bs.getD (w.2.1 / 8).toNat 0) (a0D .u8 b (7-w.2.1%8))),w.2.1+1,())
def wL(L:List Int):Wr:=L.foldl d2N ([],0,())
theorem d1n(L:List Int)(b:Int):wL (L++[b])=d2N (wL L) b:=by simp[wL]
theorem c5A:∀(n:Nat)(L:List Int),L.length=n→(wL L).2.1=L.length∧(wL L).1.length=(L.length+7) / 8
 |0,L,h=>by
  rw[a75.1 h];exact⟨rfl,rfl⟩
 |n+1,L,h=>by
  obtain⟨L',b,rfl⟩:∃L' b,L=L'++[b]:=by
   rcases List.eq_nil_or_concat L with rfl|⟨L',b,e⟩;simp at h;exact⟨L',b,by rw[e,List.concat_eq_append]⟩
  obtain⟨h1,h2⟩:=c5A n L' (by simpa using h);rw[d1n];simp only[d2N,List.length_set,lN,List.length_singleton,h1];refine⟨by omega,?_⟩
  by_cases h:(L'.length:Int)%8=0
  rw[if_pos h];simp;omega;rw[if_neg h];omega
theorem c9v(L:List Int):(wL L).2.1=L.length∧(wL L).1.length=(L.length+7) / 8:=c5A _ L rfl
theorem c9w{L:List Int}(hL:L.length<1000000000)(b:Int):a4o (wL L,b)=some (wL (L++[b])):=by
 obtain⟨h1,h2⟩:=c9v L;have ht:a92 ((L.length:Nat):Int) 8=((L.length:Nat):Int)%8:=a68 (by omega);have hd:Int.tdiv ((L.length:Nat):Int) 8=((L.length:Nat):Int) / 8:=Int.tdiv_eq_ediv_of_nonneg (by omega);have e1:wrap .i64 (((L.length:Nat):Int) / 8)=((L.length:Nat):Int) / 8:=a0l (by omega);have e2:wrap .i64 (7-((L.length:Nat):Int)%8)=7-((L.length:Nat):Int)%8:=a0l (by omega);have e3:wrap .i64 (((L.length:Nat):Int)+1)=((L.length:Nat):Int)+1:=a0l (by omega);have g0:decide ((0:Int)≤((L.length:Nat):Int) / 8)=true:=by simp;omega
 have g1:decide (7-((L.length:Nat):Int)%8<0)=false:=by simp;omega
 rw[d1n];generalize wL L=wr at h1 h2⊢;obtain⟨bs,n,u⟩:=wr;have h1:n=((L.length:Nat):Int):=h1;have h2:bs.length=(L.length+7) / 8:=h2;subst h1;unfold a4o d2N
 by_cases h:((L.length:Nat):Int)%8=0
 have hb:(((L.length:Nat):Int)%8==0)=true:=by simp[h]
 have hl:lim (bs.length+1)=true:=a9Z (by omega);have hlt:decide (((L.length:Nat):Int) / 8<(((bs++[0]).length:Nat):Int))=true:=by simp;omega
 simp only[hb,cT,hl,oB,hd,e1,e2,e3,ht,g0,g1,a16,hlt,a02,cF,if_pos h];have hb:(((L.length:Nat):Int)%8==0)=false:=by simp only[beq_eq_false_iff_ne,ne_eq];exact h
 have hlt:decide (((L.length:Nat):Int) / 8<((bs.length:Nat):Int))=true:=by simp;omega
 simp only[hb,cF,oB,hd,e1,e2,e3,ht,g0,g1,hlt,a02,cT,if_neg h]
def c0g(v:Int)(i:Nat):Int:=wrap .u8 (bits .u64 .and (a0m .u64 v (i:Int)) 1)
def pb(v:Int):Nat→List Int
 |0=>[]
 |i+1=>c0g v i::pb v i
theorem c2k(v:Int):∀n,(pb v n).length=n
 |0=>rfl
 |n+1=>by simp[pb,c2k v n]
def a0o(v:Int)(n:Nat)(L:List Int):List Int:=bif a0m .u64 v (n:Int) != 0 then L else L++pb v n
theorem a0v(v:Int)(n:Nat)(L:List Int):L.length≤(a0o v n L).length∧(a0o v n L).length≤L.length+n:=by
 unfold a0o;cases (a0m .u64 v (n:Int) != 0)<;>simp[c2k]
def a2W(v:Int)(n:Nat):Int:=bif a0m .u64 v (n:Int) != 0 then 1 else 0
theorem c9x{v:Int}:∀(n:Nat)(L:List Int),L.length+n<1000000000→a0e a5O (v,(n:Int)-1,wL L,())=some (wL (L++pb v n),())
 |0,L,_=>by rw[a0h (b:=(wL L,())) (by simp[a5O])];simp[pb]
 |n+1,L,h=>by
  have e:((n+1:Nat):Int)-1=(n:Int):=by omega
  have e1:wrap .i64 ((n:Int)-1)=(n:Int)-1:=a0l (by omega);have h1:decide ((n:Int)≥0)=true:=by simp
  have h2:decide ((n:Int)<0)=false:=by simp
  rw[e,a0k (s':=(v,(n:Int)-1,wL (L++[c0g v n]),())) (by
   simp only[a5O,h1,h2,cT,cF,show wrap .u8 (bits .u64 .and (a0m .u64 v (n:Int)) 1)=c0g v n from rfl,c9w (show L.length<1000000000 by omega),oB,e1])]
  rw[c9x n (L++[c0g v n]) (by simp;omega),pb]
  simp
theorem a4C{L:List Int}{v:Int}{n:Nat}(hn:n≤63)(hL:L.length<999999000):a0n (wL L,v,(n:Int))=some (a2W v n,wL (a0o v n L)):=by
 unfold a0n a2W a0o;have h1:decide ((n:Int)<0)=false:=by simp
 have h2:decide ((n:Int) > 64)=false:=by simp;omega
 have e1:wrap .i64 ((n:Int)-1)=(n:Int)-1:=a0l (by omega);simp only[h1,h2,cF,oB];cases (a0m .u64 v (n:Int) != 0)with
 |true=>rfl
 |false=>simp only[cF,e1,c9x n L (by omega),oB]
theorem c2l{v:Int}:∀(n:Nat)(L:List Int),n≤64→L.length+n<1000000000→a0e a7y (v,(n:Int)-1,(L,()),())=some ((L++pb v n,()),())
 |0,L,_,_=>by rw[a0h (b:=((L,()),())) (by simp[a7y])];simp[pb]
 |n+1,L,h64,h=>by
  have e:((n+1:Nat):Int)-1=(n:Int):=by omega
  have e1:wrap .i64 ((n:Int)-1)=(n:Int)-1:=a0l (by omega);have eu:wrap .u64 (n:Int)=(n:Int):=a1o (by omega);have h1:decide ((n:Int)≥0)=true:=by simp
  have h2:decide ((n:Int)<0)=false:=by simp
  have hl:lim (L.length+1)=true:=a9Z (by omega);rw[e,a0k (s':=(v,(n:Int)-1,(L++[c0g v n],()),())) (by
   simp only[a7y,h1,h2,eu,hl,cT,cF,show wrap .u8 (bits .u64 .and (a0m .u64 v (n:Int)) 1)=c0g v n from rfl,a16,e1])]
  rw[c2l n (L++[c0g v n]) (by omega) (by simp;omega),pb]
  simp
theorem a1Z{L:List Int}{v:Int}{n:Nat}(hn:n≤63)(hL:L.length<999999000):a0t ((L,()),v,(n:Int))=some (a2W v n,a0o v n L,()):=by
 unfold a0t a2W a0o;have h1:decide ((n:Int)<0)=false:=by simp
 have h2:decide ((n:Int) > 64)=false:=by simp;omega
 have h3:decide ((n:Int)<64)=true:=by simp;omega
 have e1:wrap .i64 ((n:Int)-1)=(n:Int)-1:=a0l (by omega);have eu:wrap .u64 (n:Int)=(n:Int):=a1o (by omega);simp only[h1,h2,h3,eu,cT,cF,oB];cases (a0m .u64 v (n:Int) != 0)with
 |true=>rfl
 |false=>simp only[cF,e1,c2l n L (by omega) (by omega),oB]
def unL(n:Nat)(L:List Int):List Int:=L++a00 n 0++[1]
theorem c9y{L:List Int}{n:Nat}(hn:n≤4096)(hL:L.length<999990000):a3l (wL L,(n:Int))=some (0,wL (unL n L)):=by
 unfold a3l unL;have h1:decide ((n:Int)<0)=false:=by simp
 have h2:decide ((n:Int) > 4096)=false:=by simp;omega
 simp only[h1,h2,cF,oB]
 have:=a0G (f:=a4S) (fun i=>((n:Int),(i:Int),wL (L++a00 i 0),())) n (b:=(wL (L++a00 n 0),())) (fun i hi=>by
   have ea:L++a00 i (0:Int)++[0]=L++a00 (i+1) 0:=by rw[aA,←a38]
   simp only[a4S,dlt hi,cT,c9w (show(L++a00 i (0:Int)).length<1000000000 by simp;omega),oB,ea,a0c (show i<1000000 by omega)])
  (by simp[a4S])
 simp only[nZ,a48,a19]at this;simp only[this,oB,c9w (show(L++a00 n (0:Int)).length<1000000000 by simp;omega)]
theorem c2m{L:List Int}{n:Nat}(hn:n≤4096)(hL:L.length<999990000):a4r ((L,()),(n:Int))=some (0,unL n L,()):=by
 unfold a4r unL;have h1:decide ((n:Int)<0)=false:=by simp
 have h2:decide ((n:Int) > 4096)=false:=by simp;omega
 simp only[h1,h2,cF,oB]
 have:=a0G (f:=a5Q) (fun i=>((n:Int),(i:Int),(L++a00 i 0,()),())) n (b:=((L++a00 n 0,()),())) (fun i hi=>by
   have ea:L++a00 i (0:Int)++[0]=L++a00 (i+1) 0:=by rw[aA,←a38]
   have hl:lim ((L++a00 i (0:Int)).length+1)=true:=a9Z (by simp;omega);simp only[a5Q,dlt hi,cT,hl,a16,ea,a0c (show i<1000000 by omega)])
  (by simp[a5Q])
 have hl:lim ((L++a00 n (0:Int)).length+1)=true:=a9Z (by simp;omega);simp only[nZ,a48,a19]at this;simp only[this,oB,hl,cT,a16]
theorem a7C(n:Nat)(L:List Int):(unL n L).length=L.length+n+1:=by simp[unL];omega
def a3t(x:Int)(n:Nat):Int:=bits .u64 .and (wrap .u64 x) (wrap .u64 ((a0D .u64 1 (n:Int))-1))
def a1J(n:Nat)(l:List Int)(L:List Int):List Int:=l.foldl (fun L x=>a0o (a3t x n) n L) L
theorem a5g(n:Nat):∀(l L:List Int),L.length≤(a1J n l L).length∧(a1J n l L).length≤L.length+n*l.length
 | [],L=>by simp[a1J]
 |x::l,L=>by
  have h1:=a0v (a3t x n) n L;have h2:=a5g n l (a0o (a3t x n) n L);have e:a1J n (x::l) L=a1J n l (a0o (a3t x n) n L):=rfl;rw[e,lC,a82,b05];omega
theorem b6W{L:List Int}{x:Int}{n:Nat}(hn:n≤63)(hL:L.length<999999000):a4a (wL L,x,(n:Int))=some (wL (a0o (a3t x n) n L)):=by
 unfold a4a;have h1:decide ((n:Int)<0)=false:=by simp
 simp only[h1,cF,show bits .u64 .and (wrap .u64 x) (wrap .u64 ((a0D .u64 1 (n:Int))-1))=a3t x n from rfl,a4C hn hL,oB]
theorem a8I{l L:List Int}{n:Nat}(hn:n≤63)(hl:l.length<10000)(hL:L.length<900000000):a3H ((L,()),l,(n:Int))=some (a1J n l L,()):=by
 have eu:wrap .u64 (n:Int)=(n:Int):=a1o (by omega);have h2:decide ((n:Int)<0)=false:=by simp
 have key:∀(k i:Nat)(L':List Int),i+k=l.length→L'.length+64*k<999990000→a0e a7T (l,(n:Int),(i:Int),(L',()),())=some ((a1J n (l.drop i) L',()),()):=by
  intro k
  induction k with
  |zero=>
   intro i L' hi _;obtain rfl:i=l.length:=by omega
   rw[a06];exact a0h (by simp[a7T,a1J])
  |succ k ih=>
   intro i L' hi hb;have hlt:i<l.length:=by omega
   have hp:=a0v (a3t l[i] n) n L';rw[a01 hlt,a0k (s':=(l,(n:Int),((i+1:Nat):Int),(a0o (a3t l[i] n) n L',()),())) (by
    simp only[a7T,dlt hlt,cT,a0d hlt,oB,eu,h2,cF,show bits .u64 .and (wrap .u64 l[i]) (wrap .u64 ((a0D .u64 1 (n:Int))-1))=a3t l[i] n from rfl,a1Z hn (show L'.length<999999000 by omega),a0c (show i<1000000 by omega)])]
   exact ih (i+1) _ (by omega) (by omega)
 have:=key l.length 0 L (by omega) (by omega)
 simp only[nZ,a05]at this;unfold a3H;simp only[this,oB]
end Go.Ab
namespace Go.Ab
open IntKind(wrap)
def a2B(x w:Int):Bool:=decide (1≤w)&&(decide (w≤31)&&(decide (a0D .i64 (-1) (w-1)≤x)&&decide (x≤wrap .i64 (a0D .i64 1 (w-1)-1))))
theorem a8o{x:Int}{w:Nat}(hw:w≤32):a6P (x,(w:Int))=some (a2B x w):=by
 unfold a6P a2B b6C b5h
 by_cases h1:1≤(w:Int)
 by_cases h2:(w:Int)≤31
 have g1:decide ((w:Int)<1)=false:=by simp;omega
 have g2:decide ((w:Int) > 31)=false:=by simp;omega
 have e:wrap .i64 ((w:Int)-1)=(w:Int)-1:=a0l (by omega);have g3:decide ((w:Int)-1<0)=false:=by simp;omega
 have h1':decide ((w:Int)≥1)=true:=by simp;omega
 simp only[h1',h1,h2,g1,g2,g3,e,decide_true,cT,cF,oB,a21]
 by_cases h3:a0D .i64 (-1) ((w:Int)-1)≤x<;>simp[h3]
 have h1':decide ((w:Int)≥1)=true:=by simp;omega
 simp only[h1',h1,h2,decide_true,decide_false,cT,cF,a21,a33];have h1':decide ((w:Int)≥1)=false:=by simp;omega
 simp only[h1',h1,decide_false,cF,a33]
theorem b8D{x:Int}{w:Nat}(hw:w≤32):b2p (x,(w:Int))=some (a2B x w):=by
 unfold b2p a2B c4c c1R
 by_cases h1:1≤(w:Int)
 by_cases h2:(w:Int)≤31
 have g1:decide ((w:Int)<1)=false:=by simp;omega
 have g2:decide ((w:Int) > 31)=false:=by simp;omega
 have e:wrap .i64 ((w:Int)-1)=(w:Int)-1:=a0l (by omega);have eu:wrap .u64 ((w:Int)-1)=(w:Int)-1:=a1o (by omega);have g3:decide ((w:Int)-1<0)=false:=by simp;omega
 have h1':decide ((w:Int)≥1)=true:=by simp;omega
 simp only[h1',h1,h2,g1,g2,g3,e,eu,decide_true,cT,cF,oB,a21]
 by_cases h3:a0D .i64 (-1) ((w:Int)-1)≤x<;>simp[h3]
 have h1':decide ((w:Int)≥1)=true:=by simp;omega
 simp only[h1',h1,h2,decide_true,decide_false,cT,cF,a21,a33];have h1':decide ((w:Int)≥1)=false:=by simp;omega
 simp only[h1',h1,decide_false,cF,a33]
def a2a(x:Int):Nat→Nat→Nat
 |0,w=>w
 |k+1,w=>bif (x != 0)&&!a2B x w then a2a x k (w+1)else w
theorem c0h(x:Int):∀(k w:Nat),a2a x k w≤w+k
 |0,w=>a41 _
 |k+1,w=>by
  simp only[a2a];cases (x != 0)&&!a2B x w with
  |true=>have:=c0h x k (w+1);simp only[cT];omega
  |false=>simp only[cF];omega
def a0s(l:List Int):Nat:=l.foldl (fun w x=>a2a x (32-w) w) 0
theorem c0Q:∀(l:List Int)(w:Nat),w≤32→l.foldl (fun w x=>a2a x (32-w) w) w≤32
 | [],w,h=>h
 |x::l,w,h=>c0Q l _ (show a2a x (32-w) w≤32 by have:=c0h x (32-w) w;omega)
theorem a3K(l:List Int):a0s l≤32:=c0Q l 0 (by omega)
theorem c7t{x:Int}{l:List Int}{n i:Int}:∀(k w:Nat),w+k=32→a0e a4n ((w:Int),x,l,n,i,())=some (((a2a x k w:Nat):Int),l,n,i,())
 |0,w,h=>by
  obtain rfl:w=32:=by omega
  exact a0h (by cases hx:(x != 0)<;>simp[a4n,hx,a2a])
 |k+1,w,h=>by
  have h1:decide ((w:Int)<32)=true:=by simp;omega
  simp only[a2a];cases hx:(x != 0)with
  |false=>exact a0h (by simp only[a4n,hx,cF,a33])
  |true=>
   cases hf:a2B x w with
   |true=>exact a0h (by simp only[a4n,hx,h1,a8o (show w≤32 by omega),hf,oB,cT,cF,bT,b19])
   |false=>
    rw[a0k (s':=(((w+1:Nat):Int),x,l,n,i,())) (by simp only[a4n,hx,h1,a8o (show w≤32 by omega),hf,oB,cT,a07,a0c (show w<1000000 by omega)])];exact c7t k (w+1) (by omega)
theorem a7D{l:List Int}(hs:short l):a4G l=some ((a0s l:Nat):Int):=by
 have hs:l.length<1000000:=hs
 have:=a2F (f:=a7L) l (fun i (w:Nat)=>((w:Int),l,(l.length:Int),(i:Int),())) (fun w x=>(.inl (a2a x (32-w) w):Nat ⊕ (Int×Unit))) (fun _ w=>w≤32) (fun w=>((w:Int),()))
  (fun i h w hw=>⟨fun a' ha=>by
   simp only[Sum.inl.injEq]at ha;subst ha;refine⟨?_,by have:=c0h l[i] (32-w) w;omega⟩;simp only[a7L,dlt h,cT,a0d h,oB,c7t (32-w) w (by omega),a0c (show i<1000000 by omega)],fun b hb=>(by cases hb)⟩)
  (fun w _=>by simp[a7L]) (a:=0) (by omega)
 simp only[nZ]at this;unfold a4G;rw[this];have key:∀(l:List Int)(w:Nat),a3s (fun w x=>(.inl (a2a x (32-w) w):Nat ⊕ (Int×Unit))) l w=.inl (l.foldl (fun w x=>a2a x (32-w) w) w):=by
  intro l
  induction l with
  |nil=>intro w;rfl
  |cons x l ih=>intro w;simp only[a3s,a59,ih]
 rw[key];rfl
theorem c0R{l:List Int}{i:Nat}(hi:i<l.length):∀(k w:Nat),w+k=32→a0e a6U (l,(w:Int),(i:Int),())=some (l,((a2a l[i] k w:Nat):Int),(i:Int),())
 |0,w,h=>by
  obtain rfl:w=32:=by omega
  exact a0h (by simp[a6U,a2a])
 |k+1,w,h=>by
  have h1:decide ((w:Int)<32)=true:=by simp;omega
  simp only[a2a];cases hx:(l[i] != 0)with
  |false=>exact a0h (by simp only[a6U,h1,cT,a0d hi,oB,hx,cF,a33])
  |true=>
   cases hf:a2B l[i] w with
   |true=>exact a0h (by simp only[a6U,a0d hi,hx,h1,b8D (show w≤32 by omega),hf,oB,cT,cF,bT,b19])
   |false=>
    rw[a0k (s':=(l,((w+1:Nat):Int),(i:Int),())) (by simp only[a6U,a0d hi,hx,h1,b8D (show w≤32 by omega),hf,oB,cT,a07,a0c (show w<1000000 by omega)])];exact c0R hi k (w+1) (by omega)
theorem b0f{l:List Int}(hs:short l):a8D l=some ((a0s l:Nat):Int):=by
 have hs:l.length<1000000:=hs
 have:=a2F (f:=b1H) l (fun i (w:Nat)=>(l,(w:Int),(i:Int),())) (fun w x=>(.inl (a2a x (32-w) w):Nat ⊕ (Int×Unit))) (fun _ w=>w≤32) (fun w=>((w:Int),()))
  (fun i h w hw=>⟨fun a' ha=>by
   simp only[Sum.inl.injEq]at ha;subst ha;refine⟨?_,by have:=c0h l[i] (32-w) w;omega⟩;simp only[b1H,dlt h,cT,oB,c0R h (32-w) w (by omega),a0c (show i<1000000 by omega)],fun b hb=>(by cases hb)⟩)
  (fun w _=>by simp[b1H]) (a:=0) (by omega)
 simp only[nZ]at this;unfold a8D;rw[this];have key:∀(l:List Int)(w:Nat),a3s (fun w x=>(.inl (a2a x (32-w) w):Nat ⊕ (Int×Unit))) l w=.inl (l.foldl (fun w x=>a2a x (32-w) w) w):=by
  intro l
  induction l with
  |nil=>intro w;rfl
  |cons x l ih=>intro w;simp only[a3s,a59,ih]
 rw[key];rfl
theorem b3t(x:Int):a9k x=some (a0b x):=by
 unfold a9k a0b
 by_cases h:-1073741824≤x<;>simp[h]
def a0z(x:Int):Nat:=if 0≤x then(2*x).toNat else(-2*x-1).toNat
theorem b2f{x:Int}(h:a0b x=true):a0z x<2147483648:=by
 have:=a3h.1 h
 unfold a0z
 split<;>omega
theorem b3u{x:Int}(h:a0b x=true):b1h x=some ((a0z x:Nat):Int):=by
 have hx:=a3h.1 h;unfold b1h a0z;simp only[b3t,h,oB,bT,cF]
 by_cases h0:0≤x
 have h0':decide (x≥0)=true:=by simp;omega
 simp only[h0',cT,if_pos h0];rw[a0l (n:=2*x) (by omega),a1o (by omega)];congr 1;omega;have h0':decide (x≥0)=false:=by simp;omega
 simp only[h0',cF,if_neg h0];rw[a0l (n:=-2*x) (by omega),a0l (n:=-2*x-1) (by omega),a1o (by omega)];congr 1;omega
theorem d4j{n:Int}(h:-18446744073709551616≤n∧n<0):wrap .u64 n=n+18446744073709551616:=by
 simp only[wrap,IntKind.bits,IntKind.signed]
 simp
 omega
theorem d6V{y:Nat}(h:y<18446744073709551616):bits .u64 .xor (IntKind.max .u64) (y:Int)=((18446744073709551615-y:Nat):Int):=by
 show wrap .u64 (((a20 64 (IntKind.max .u64)) ^^^ (a20 64 (y:Int))).toNat:Int)=_;have e1:a20 64 (IntKind.max .u64)=BitVec.allOnes 64:=by decide
 have e2:a20 64 (y:Int)=BitVec.ofNat 64 y:=a39 64 y;rw[e1,e2,BitVec.allOnes_xor,BitVec.toNat_not,a43,a47 h];rw[a1o (by omega)]
theorem b4z{x:Int}(h:a0b x=true):b4T x=some ((a0z x:Nat):Int):=by
 have hx:=a3h.1 h;unfold b4T c4e a0z;simp only[a2Q,h,oB,bT,cF];have hg:∀y:Int,a0D .u64 y 1=wrap .u64 (y*2):=fun y=>rfl
 by_cases h0:0≤x
 have h0':decide (x<0)=false:=by simp;omega
 simp only[h0',cF,oB,if_pos h0,hg];rw[a1o (n:=x) (by omega),a1o (by omega)];congr 1;omega;have h0':decide (x<0)=true:=by simp;omega
 simp only[h0',cT,oB,if_neg h0,hg];have e1:wrap .u64 (wrap .u64 x*2)=(((2*x+18446744073709551616).toNat:Nat):Int):=by
  rw[d4j (n:=x) (by omega)];simp only[wrap,IntKind.bits,IntKind.signed]
  simp
  omega
 rw[e1,d6V (by omega)];congr 1;omega
theorem a8u{N o:Nat}(h:o≤64):a0m .u64 (N:Int) (o:Int)=((N / 2^o:Nat):Int):=c0c h
theorem c7u{N o:Nat}(h:o≤64)(hs:N*2^o<9223372036854775808):a0D .u64 (N:Int) (o:Int)=((N*2^o:Nat):Int):=by
 unfold a0D;show wrap .u64 ((N:Int)*2^(min (o:Int).toNat 64))=_;rw[tN,a57 h];have e:(N:Int)*2^o=((N*2^o:Nat):Int):=by rw[a58,a78];rfl
 rw[e];exact a1o (by omega)
theorem c9z{y k:Nat}(hy:y<18446744073709551616)(hk:k≤62):bits .u64 .and (y:Int) (wrap .u64 (a0D .u64 1 (k:Int)-1))=((y%2^k:Nat):Int):=by
 have hp:2^k≤2^62:=a25 (by decide) hk;have hp1:1≤2^k:=a95;have hp2:(2:Nat)^62=4611686018427387904:=by decide
 have e0:a0D .u64 1 (k:Int)=((2^k:Nat):Int):=by have:=c7u (N:=1) (o:=k) (by omega) (by omega);simpa using this
 have e1:wrap .u64 (((2^k:Nat):Int)-1)=((2^k-1:Nat):Int):=by rw[a1o (by omega)];omega
 rw[e0,e1];show wrap .u64 (((a20 64 (y:Int)) &&& (a20 64 ((2^k-1:Nat):Int))).toNat:Int)=_;rw[a39,a39,a72,a43,a43,a47 hy,a47 (by omega),a56]
 have:y%2^k<2^k:=b18 _ (by omega)
 exact a1o (by omega)
theorem b4a{q:Nat}(h:q<2147483648):wrap .i64 (q:Int)=(q:Int):=a0l (by omega)
def a8J(k:Nat)(x:Int)(L:List Int):List Int:=
 if a0z x / 2^k<32 then a0o ((a0z x%2^k:Nat):Int) k (unL (a0z x / 2^k) L)else a0o ((a0z x:Nat):Int) 32 (unL 32 L)
def a5K(k:Nat)(l:List Int)(L:List Int):List Int:=l.foldl (fun L x=>a8J k x L) L
theorem b6X{k:Nat}(hk:k≤25)(x:Int)(L:List Int):L.length≤(a8J k x L).length∧(a8J k x L).length≤L.length+100:=by
 unfold a8J;split;rename_i hq;have h1:=a0v ((a0z x%2^k:Nat):Int) k (unL (a0z x / 2^k) L);have h2:=a7C (a0z x / 2^k) L;generalize unL (a0z x / 2^k) L=M at h1 h2⊢;generalize a0z x / 2^k=q at hq h2;omega;have h1:=a0v ((a0z x:Nat):Int) 32 (unL 32 L);have h2:=a7C 32 L;omega
theorem c0S{k:Nat}(hk:k≤25):∀(l L:List Int),L.length≤(a5K k l L).length∧(a5K k l L).length≤L.length+100*l.length
 | [],L=>by simp[a5K]
 |x::l,L=>by
  have h1:=b6X hk x L;have h2:=c0S hk l (a8J k x L);have e:a5K k (x::l) L=a5K k l (a8J k x L):=rfl;rw[e,lC];omega
theorem b0Z{k:Nat}(hk:k≤25):a6r (k:Int)=some true:=by
 unfold a6r;have h1:decide ((0:Int)≤(k:Int))=true:=by simp
 have h2:decide ((k:Int)≤25)=true:=by simp;omega
 simp only[h1,h2,cT]
theorem b2g{k:Nat}(hk:k≤25):a3G (k:Int)=some true:=by
 unfold a3G;have h1:decide ((k:Int)≥0)=true:=by simp
 have h2:decide ((k:Int)≤25)=true:=by simp;omega
 simp only[h1,h2,cT]
theorem d0E{k:Nat}{l L:List Int}(hk:k≤25)(hl:l.length<10000)(hw:l.all a0b=true)(hL:L.length<900000000):b5M (wL L,(k:Int),l)=some (0,wL (a5K k l L)):=by
 have h0:=a1V (f:=b1D) l (fun i=>((k:Int),l,l,(l.length:Int),(i:Int),wL L,())) (fun _=>true) (bt:=Sum.inl ((k:Int),l,wL L,())) (bf:=Sum.inl ((k:Int),l,wL L,()))
  (fun i h _=>by
   have:=lA.1 hw _ (a08 h)
   simp only[b1D,dlt h,cT,a0d h,oB,b3t,this,bT,cF,a0c (show i<1000000 by omega)])
  (fun i h hp=>by simp at hp) (by simp[b1D])
 have key:∀(j i:Nat)(L':List Int),i+j=l.length→L'.length+100*j<999990000→a0e a8Y ((k:Int),l,(l.length:Int),(i:Int),wL L',())=some (wL (a5K k (l.drop i) L'),()):=by
  intro j
  induction j with
  |zero=>
   intro i L' hi _;obtain rfl:i=l.length:=by omega
   rw[a06];exact a0h (by simp[a8Y,a5K])
  |succ j ih=>
   intro i L' hi hb;have hlt:i<l.length:=by omega
   have hwi:=lA.1 hw _ (a08 hlt);have hy:=b2f hwi;have hrl:=b6X hk l[i] L';have hk0:decide ((k:Int)<0)=false:=by simp
   have eq:a0m .u64 ((a0z l[i]:Nat):Int) (k:Int)=((a0z l[i] / 2^k:Nat):Int):=a8u (by omega);have hql:=a34 (a0z l[i]) (2^k);have hmod:=a79 (a0z l[i]) (2^k);have emul:a0D .u64 ((a0z l[i] / 2^k:Nat):Int) (k:Int)=((a0z l[i] / 2^k*2^k:Nat):Int):=c7u (by omega) (by rw[a74];omega);have em:wrap .u64 (((a0z l[i]:Nat):Int)-((a0z l[i] / 2^k*2^k:Nat):Int))=((a0z l[i]%2^k:Nat):Int):=by
    rw[a74 (a0z l[i] / 2^k)];rw[a1o (by omega)];omega
   have ew:wrap .i64 ((a0z l[i] / 2^k:Nat):Int)=((a0z l[i] / 2^k:Nat):Int):=b4a (a36 hql hy);rw[a01 hlt,a0k (s':=((k:Int),l,(l.length:Int),((i+1:Nat):Int),wL (a8J k l[i] L'),())) (by
    by_cases hq:a0z l[i] / 2^k<32
    have hd:decide (((a0z l[i] / 2^k:Nat):Int)<32)=true:=decide_eq_true (by omega);have hu:(unL (a0z l[i] / 2^k) L').length<999999000:=by
     rw[a7C];exact a96 (a87 (a91 hq _) 1) (by omega)
    have hun:=c9y (L:=L') (n:=a0z l[i] / 2^k) (a76 (a24 hq (by decide))) (by omega);have hp:=a4C (L:=unL (a0z l[i] / 2^k) L') (v:=((a0z l[i]%2^k:Nat):Int)) (n:=k) (by omega) hu;simp only[a8Y,dlt hlt,cT,a0d hlt,oB,b3u hwi,hk0,cF,eq,hd,ew,hun,emul,em,hp,a8J,if_pos hq,a0c (show i<1000000 by omega)];have hd:decide (((a0z l[i] / 2^k:Nat):Int)<32)=false:=decide_eq_false (by omega);have hu:=a7C 32 L';have hun:a3l (wL L',(32:Int))=some (0,wL (unL 32 L')):=c9y (L:=L') (n:=32) (by omega) (by omega);have hp:a0n (wL (unL 32 L'),((a0z l[i]:Nat):Int),(32:Int))=some (a2W ((a0z l[i]:Nat):Int) 32,wL (a0o ((a0z l[i]:Nat):Int) 32 (unL 32 L'))):=a4C (L:=unL 32 L') (v:=((a0z l[i]:Nat):Int)) (n:=32) (by omega) (by omega);simp only[a8Y,dlt hlt,cT,a0d hlt,oB,b3u hwi,hk0,cF,eq,hd,hun,hp,a8J,if_neg hq,a0c (show i<1000000 by omega)])]
   exact ih (i+1) _ (by omega) (by omega)
 have h1:=key l.length 0 L (by omega) (by omega);simp only[nZ,a05]at h0 h1;unfold b5M;simp only[b0Z hk,oB,bT,cF,h0];cases l.all (fun _=>true)<;>simp only[cT,cF,h1,oB]
theorem c6C{k:Nat}{l L:List Int}(hk:k≤25)(hl:l.length<10000)(hw:l.all a0b=true)(hL:L.length<900000000):b3h ((L,()),(k:Int),l)=some (0,a5K k l L,()):=by
 have eu:wrap .u64 (k:Int)=(k:Int):=a1o (by omega);have key:∀(j i:Nat)(L':List Int),i+j=l.length→L'.length+100*j<999990000→a0e a7A ((k:Int),l,(i:Int),(L',()),())=some ((a5K k (l.drop i) L',()),()):=by
  intro j
  induction j with
  |zero=>
   intro i L' hi _;obtain rfl:i=l.length:=by omega
   rw[a06];exact a0h (by simp[a7A,a5K])
  |succ j ih=>
   intro i L' hi hb;have hlt:i<l.length:=by omega
   have hwi:=lA.1 hw _ (a08 hlt);have hy:=b2f hwi;have hrl:=b6X hk l[i] L';have hk0:decide ((k:Int)<0)=false:=by simp
   have eq:a0m .u64 ((a0z l[i]:Nat):Int) (k:Int)=((a0z l[i] / 2^k:Nat):Int):=a8u (by omega);have hql:=a34 (a0z l[i]) (2^k);have em:=c9z (y:=a0z l[i]) (k:=k) (by omega) (by omega);have ew:wrap .i64 ((a0z l[i] / 2^k:Nat):Int)=((a0z l[i] / 2^k:Nat):Int):=b4a (a36 hql hy);rw[a01 hlt,a0k (s':=((k:Int),l,((i+1:Nat):Int),(a8J k l[i] L',()),())) (by
    by_cases hq:a0z l[i] / 2^k<32
    have hd:decide (((a0z l[i] / 2^k:Nat):Int)<32)=true:=decide_eq_true (by omega);have hu:(unL (a0z l[i] / 2^k) L').length<999999000:=by
     rw[a7C];exact a96 (a87 (a91 hq _) 1) (by omega)
    have hun:=c2m (L:=L') (n:=a0z l[i] / 2^k) (a76 (a24 hq (by decide))) (by omega);have hp:=a1Z (L:=unL (a0z l[i] / 2^k) L') (v:=((a0z l[i]%2^k:Nat):Int)) (n:=k) (by omega) hu;simp only[a7A,dlt hlt,cT,a0d hlt,oB,b4z hwi,eu,hk0,cF,eq,hd,ew,hun,em,hp,a8J,if_pos hq,a0c (show i<1000000 by omega)];have hd:decide (((a0z l[i] / 2^k:Nat):Int)<32)=false:=decide_eq_false (by omega);have hu:=a7C 32 L';have hun:a4r ((L',()),(32:Int))=some (0,unL 32 L',()):=c2m (L:=L') (n:=32) (by omega) (by omega);have hp:a0t ((unL 32 L',()),((a0z l[i]:Nat):Int),(32:Int))=some (a2W ((a0z l[i]:Nat):Int) 32,a0o ((a0z l[i]:Nat):Int) 32 (unL 32 L'),()):=a1Z (L:=unL 32 L') (v:=((a0z l[i]:Nat):Int)) (n:=32) (by omega) (by omega);simp only[a7A,dlt hlt,cT,a0d hlt,oB,b4z hwi,eu,hk0,cF,eq,hd,ew,hun,hp,a8J,if_neg hq,a0c (show i<1000000 by omega)])]
   exact ih (i+1) _ (by omega) (by omega)
 have h1:=key l.length 0 L (by omega) (by omega);simp only[nZ,a05]at h1;have hs:short l:=by unfold short;omega
 unfold b3h;simp only[b2g hk,oB,bT,cF,a0B hs,hw,h1]
end Go.Ab
namespace Go.Ab
open IntKind(wrap)
def a1y(zn:List Nat):List Int:=zn.map fun(a:Nat)=>(a:Int)
theorem c7X(n M:Nat):(a00 n M).sum=n*M:=by
 induction n with
 |zero=>simp
 |succ n ih=>rw[a90,a49,ih,Nat.succ_mul,Nat.add_comm]
theorem b8E{o n warm:Int}(h:(a0U o n warm).length≠0):∃zn:List Nat,a0U o n warm=a1y zn∧(zn.sum:Int)=n-warm∧zn.length≤256:=by
 unfold a0U at h⊢;cases hr:(a3z n warm&&(decide (0≤o)&&decide (o≤8)))with
 |false=>rw[hr]at h;simp at h
 |true=>
  rw[hr]at h;simp only[cT]at h⊢;simp only[a3z,bA,dT]at hr;unfold b3r at h⊢
  split at h
  rename_i hc;rw[if_pos hc];obtain⟨O,rfl⟩:=a03 hr.2.1;obtain⟨N,rfl⟩:=a03 (show 0≤n by omega);obtain⟨w,rfl⟩:=a03 (show 0≤warm by omega);simp only[tN]at hc⊢;have hp:=d5r (o:=O) (by omega);have hm:=a79 N (2^O);rw[hc.1,a60]at hm;have hw:w≤N / 2^O:=by have:=hc.2;omega
  generalize N / 2^O=M at hc hw hm⊢;generalize 2^O=P at hp hm⊢;refine⟨(M-w)::a00 (P-1) M,?_,?_,?_⟩;simp only[a1y,a69,List.map_replicate];congr 1;omega;rw[a49,c7X];obtain⟨q,rfl⟩:∃q,P=q+1:=⟨P-1,by omega⟩;rw[a94];rw[Nat.succ_mul]at hm;omega
  simp;omega
  exact absurd rfl h
def b0L(k:Int)(part L:List Int):List Int:=
 if k=31 then a1J (a0s part) part (a0o ((a0s part:Nat):Int) 5 (a0o (wrap .u64 k) 5 L))else a5K k.toNat part (a0o (wrap .u64 k) 5 L)
def a5L:List Nat→List Int→List Int→List Int→List Int
 |z::zs,k::ks,l,L=>a5L zs ks (l.drop z) (b0L k (l.take z) L)
 |_,_,_,L=>L
theorem b6Y{k:Int}(hk:kB k=true)(part L:List Int):L.length≤(b0L k part L).length∧(b0L k part L).length≤L.length+10+100*part.length:=by
 unfold b0L;have h1:=a0v (wrap .u64 k) 5 L;split;have h2:=a0v ((a0s part:Nat):Int) 5 (a0o (wrap .u64 k) 5 L);have h3:=a5g (a0s part) part (a0o ((a0s part:Nat):Int) 5 (a0o (wrap .u64 k) 5 L));have hw:=a3K part
 have:a0s part*part.length≤32*part.length:=a40 _ hw
 omega;rename_i hne;simp only[kB,a18,bA,dT,beq_iff_eq]at hk;have h3:=c0S (k:=k.toNat) (by omega) part (a0o (wrap .u64 k) 5 L);omega
theorem a4t{zn:List Nat}{i:Nat}(h:i<zn.length):List.getD (a1y zn) i 0=((zn[i]:Nat):Int):=by
 rw[b0c (by simpa[a1y]using h)];simp[a1y]
theorem a1a(zn:List Nat):(a1y zn).length=zn.length:=by simp[a1y]
theorem b0g{zn:List Nat}{i:Nat}(h:i<zn.length):(zn.drop i).sum=zn[i]+(zn.drop (i+1)).sum:=by
 rw[a01 h,a49]
theorem c9A{part rest:List Int}{wd:Nat}{a b:Int}{z:List Int}{p:Prt}(hw:wd≤32)(hp:part.length<10000):∀(j i:Nat)(L:List Int),i+j=part.length→L.length+64*j<999990000→
  a0e b0x (rest,(wd:Int),a,b,part,(part.length:Int),(i:Int),z,wL L,p,())=some (rest,a,b,z,wL (a1J wd (part.drop i) L),p,())
 |0,i,L,hi,_=>by
  obtain rfl:i=part.length:=by omega
  rw[a06];exact a0h (by simp[b0x,a1J])
 |j+1,i,L,hi,hb=>by
  have hlt:i<part.length:=by omega
  have h2:decide ((wd:Int)<0)=false:=by simp
  have hpl:=a0v (a3t part[i] wd) wd L;rw[a01 hlt,a0k (s':=(rest,(wd:Int),a,b,part,(part.length:Int),((i+1:Nat):Int),z,wL (a0o (a3t part[i] wd) wd L),p,())) (by
   simp only[b0x,dlt hlt,cT,a0d hlt,oB,h2,cF,show bits .u64 .and (wrap .u64 part[i]) (wrap .u64 ((a0D .u64 1 (wd:Int))-1))=a3t part[i] wd from rfl,a4C (show wd≤63 by omega) (show L.length<999999000 by omega),a0c (show i<1000000 by omega)])]
  exact c9A hw hp j (i+1) _ (by omega) (by omega)
theorem b9o{zn:List Nat}{p:Prt}(hk:p.2.1.length=zn.length)(hall:p.2.1.all kB=true)(hz:zn.length≤256):∀(j i:Nat)(l L:List Int),i+j=zn.length→(zn.drop i).sum=l.length→l.all a0b=true→l.length≤5000→L.length+10*j+100*l.length<800000000→
  a0e a6f (l,(zn.length:Int),(i:Int),a1y zn,wL L,p,())=some (wL (a5L (zn.drop i) (p.2.1.drop i) l L),())
 |0,i,l,L,hi,_,_,_,_=>by
  obtain rfl:i=zn.length:=by omega
  rw[a06];exact a0h (by simp[a6f,a5L])
 |j+1,i,l,L,hi,hsum,hw,hl5,hb=>by
  have hlt:i<zn.length:=by omega
  have hki:i<p.2.1.length:=by omega
  have hkb:=lA.1 hall _ (a08 hki);rw[b0g hlt]at hsum;have h0:decide ((0:Int)≤(i:Int))=true:=by simp
  have h1:decide ((i:Int)<(((a1y zn).length:Nat):Int))=true:=by rw[a1a];simp;omega
  have h2:decide ((0:Int)≤((zn[i]:Nat):Int))=true:=by simp
  have h3:decide (((zn[i]:Nat):Int)≤((l.length:Nat):Int))=true:=by simp;omega
  have hpart:(l.take zn[i]).length=zn[i]:=by rw[a04];omega
  have hrest:(l.drop zn[i]).length=(zn.drop (i+1)).sum:=by rw[a09];omega
  have hwp:(l.take zn[i]).all a0b=true:=lA.2 fun x hx=>lA.1 hw x (a26 hx);have hwr:(l.drop zn[i]).all a0b=true:=lA.2 fun x hx=>lA.1 hw x (a27 hx);have hpl:=b6Y hkb (l.take zn[i]) L;have hp1:=a0v (wrap .u64 p.2.1[i]) 5 L;have hput:a0n (wL L,wrap .u64 p.2.1[i],(5:Int))=some (a2W (wrap .u64 p.2.1[i]) 5,wL (a0o (wrap .u64 p.2.1[i]) 5 L)):=a4C (n:=5) (by omega) (by omega);have ed:zn.drop i=zn[i]::zn.drop (i+1):=a01 hlt;have ek:p.2.1.drop i=p.2.1[i]::p.2.1.drop (i+1):=a01 hki;rw[ed,ek,a5L];have goal:a6f (l,(zn.length:Int),(i:Int),a1y zn,wL L,p,())=some (.inl (l.drop zn[i],(zn.length:Int),((i+1:Nat):Int),a1y zn,wL (b0L p.2.1[i] (l.take zn[i]) L),p,())):=by
   by_cases h31:p.2.1[i]=31
   have hne:(p.2.1[i] != 31)=false:=by rw[h31];rfl
   have hwd:=a3K (l.take zn[i]);have hsw:=a7D (l:=l.take zn[i]) (by unfold short;omega);have hp2:=a0v ((a0s (l.take zn[i]):Nat):Int) 5 (a0o (wrap .u64 p.2.1[i]) 5 L);have ew:wrap .u64 ((a0s (l.take zn[i]):Nat):Int)=((a0s (l.take zn[i]):Nat):Int):=a1o (by omega);have hput2:a0n (wL (a0o (wrap .u64 p.2.1[i]) 5 L),((a0s (l.take zn[i]):Nat):Int),(5:Int))=some (a2W ((a0s (l.take zn[i]):Nat):Int) 5,wL (a0o ((a0s (l.take zn[i]):Nat):Int) 5 (a0o (wrap .u64 p.2.1[i]) 5 L))):=a4C (n:=5) (by omega) (by omega);have hraw:=c9A (part:=l.take zn[i]) (rest:=l.drop zn[i]) (a:=(zn.length:Int)) (b:=(i:Int)) (z:=a1y zn) (p:=p) hwd (by omega) (l.take zn[i]).length 0 (a0o ((a0s (l.take zn[i]):Nat):Int) 5 (a0o (wrap .u64 p.2.1[i]) 5 L)) (by omega) (by omega);simp only[nZ,a05]at hraw;simp only[a6f,dlt hlt,h0,h1,a4t hlt,h2,h3,cT,a02,tN,a0d hki,oB,hput,hne,cF,hsw,ew,hput2,a22,hraw,a0c (show i<1000000 by omega),b0L,if_pos h31];have hne:(p.2.1[i] != 31)=true:=by simp[h31]
   simp only[kB,a18,bA,dT,beq_iff_eq]at hkb;obtain⟨K,hK⟩:=a03 (show 0≤p.2.1[i]by omega);have hrice:=d0E (k:=K) (l:=l.take zn[i]) (L:=a0o (wrap .u64 p.2.1[i]) 5 L) (by omega) (by omega) hwp (by omega);rw[←hK]at hrice;have eK:K=p.2.1[i].toNat:=by rw[hK,tN]
   simp only[a6f,dlt hlt,h0,h1,a4t hlt,h2,h3,cT,a02,tN,a0d hki,oB,hput,hne,hrice,a22,a0c (show i<1000000 by omega),b0L,if_neg h31,eK]
  rw[a0k goal];exact b9o hk hall hz j (i+1) (l.drop zn[i]) _ (by omega) hrest.symm hwr (by rw[a09];omega) (by rw[a09];omega)
theorem b4Y{zn:List Nat}{p:Prt}{l:List Int}(hk:p.2.1.length=zn.length)(hall:p.2.1.all kB=true)(hz:zn.length≤256)(hw:l.all a0b=true)(hl5:l.length≤5000):∀(j i off:Nat)(L:List Int),i+j=zn.length→off+(zn.drop i).sum=l.length→L.length+10*j+100*(l.length-off)<800000000→
  a0e a4M (l,(off:Int),(i:Int),a1y zn,(L,()),p,())=some ((a5L (zn.drop i) (p.2.1.drop i) (l.drop off) L,()),())
 |0,i,off,L,hi,_,_=>by
  obtain rfl:i=zn.length:=by omega
  rw[a06];exact a0h (by simp[a4M,a5L,a1a])
 |j+1,i,off,L,hi,hsum,hb=>by
  have hlt:i<zn.length:=by omega
  have hki:i<p.2.1.length:=by omega
  have hkb:=lA.1 hall _ (a08 hki);rw[b0g hlt]at hsum;have h0:decide ((0:Int)≤(i:Int))=true:=by simp
  have h1:decide ((i:Int)<(((a1y zn).length:Nat):Int))=true:=by rw[a1a];simp;omega
  have eo:wrap .i64 ((off:Int)+((zn[i]:Nat):Int))=((off+zn[i]:Nat):Int):=by rw[a0l (by omega)];omega
  have h2:decide ((0:Int)≤((off+zn[i]:Nat):Int))=true:=by simp;omega
  have h3:decide (((off+zn[i]:Nat):Int)≤((l.length:Nat):Int))=true:=by simp only[dT];omega
  have h4:decide ((0:Int)≤(off:Int))=true:=by simp
  have h5:decide ((off:Int)≤((off+zn[i]:Nat):Int))=true:=by simp only[dT];omega
  have epart:b02 off (a70 (off+zn[i]) l)=(l.drop off).take zn[i]:=by rw[a61];congr 1;omega
  have erest:(l.drop off).drop zn[i]=l.drop (off+zn[i]):=by rw[a83]
  have hpart:((l.drop off).take zn[i]).length=zn[i]:=by rw[a04,a09];omega
  have hwp:((l.drop off).take zn[i]).all a0b=true:=lA.2 fun x hx=>lA.1 hw x (a27 (a26 hx));have hpl:=b6Y hkb ((l.drop off).take zn[i]) L;have hp1:=a0v (wrap .u64 p.2.1[i]) 5 L;have hput:a0t ((L,()),wrap .u64 p.2.1[i],(5:Int))=some (a2W (wrap .u64 p.2.1[i]) 5,a0o (wrap .u64 p.2.1[i]) 5 L,()):=a1Z (n:=5) (by omega) (by omega);have ed:zn.drop i=zn[i]::zn.drop (i+1):=a01 hlt;have ek:p.2.1.drop i=p.2.1[i]::p.2.1.drop (i+1):=a01 hki;rw[ed,ek,a5L,erest];have goal:a4M (l,(off:Int),(i:Int),a1y zn,(L,()),p,())=some (.inl (l,((off+zn[i]:Nat):Int),((i+1:Nat):Int),a1y zn,(b0L p.2.1[i] ((l.drop off).take zn[i]) L,()),p,())):=by
   by_cases h31:p.2.1[i]=31
   have hne:(p.2.1[i]==31)=true:=by rw[h31];rfl
   have hwd:=a3K ((l.drop off).take zn[i]);have hsw:=b0f (l:=(l.drop off).take zn[i]) (by unfold short;omega);have hp2:=a0v ((a0s ((l.drop off).take zn[i]):Nat):Int) 5 (a0o (wrap .u64 p.2.1[i]) 5 L);have ew:wrap .u64 ((a0s ((l.drop off).take zn[i]):Nat):Int)=((a0s ((l.drop off).take zn[i]):Nat):Int):=a1o (by omega);have hput2:a0t ((a0o (wrap .u64 p.2.1[i]) 5 L,()),((a0s ((l.drop off).take zn[i]):Nat):Int),(5:Int))=some (a2W ((a0s ((l.drop off).take zn[i]):Nat):Int) 5,a0o ((a0s ((l.drop off).take zn[i]):Nat):Int) 5 (a0o (wrap .u64 p.2.1[i]) 5 L),()):=a1Z (n:=5) (by omega) (by omega);have hraw:=a8I (l:=(l.drop off).take zn[i]) (L:=a0o ((a0s ((l.drop off).take zn[i]):Nat):Int) 5 (a0o (wrap .u64 p.2.1[i]) 5 L)) (n:=a0s ((l.drop off).take zn[i])) (by omega) (by omega) (by omega);simp only[a4M,h0,h1,a4t hlt,eo,h2,h3,h4,h5,cT,a02,tN,a0d hki,oB,hput,hne,epart,hsw,ew,hput2,hraw,a0c (show i<1000000 by omega),b0L,if_pos h31];have hne:(p.2.1[i]==31)=false:=by simp[h31]
   simp only[kB,a18,bA,dT,beq_iff_eq]at hkb;obtain⟨K,hK⟩:=a03 (show 0≤p.2.1[i]by omega);have hrice:=c6C (k:=K) (l:=(l.drop off).take zn[i]) (L:=a0o (wrap .u64 p.2.1[i]) 5 L) (by omega) (by omega) hwp (by omega);rw[←hK]at hrice;have eK:K=p.2.1[i].toNat:=by rw[hK,tN]
   simp only[a4M,h0,h1,a4t hlt,eo,h2,h3,h4,h5,cT,cF,a02,tN,a0d hki,oB,hput,hne,epart,hrice,a0c (show i<1000000 by omega),b0L,if_neg h31,eK]
  rw[a0k goal];exact b4Y hk hall hz hw hl5 j (i+1) (off+zn[i]) _ (by omega) (by omega) (by omega)
end Go.Ab
namespace Go.Ab
open IntKind(wrap)
theorem c6D{k:Nat}(hk:k≤25){x:Int}(hw:a0b x=true):∃c,a9l ((k:Int),x)=some c∧0≤c∧c≤65:=by
 have hy:=b2f hw;have eq:a0m .u64 ((a0z x:Nat):Int) (k:Int)=((a0z x / 2^k:Nat):Int):=a8u (by omega);have ew:wrap .i64 ((a0z x / 2^k:Nat):Int)=((a0z x / 2^k:Nat):Int):=b4a (a36 (a34 _ _) hy);have hk0:decide ((k:Int)<0)=false:=by simp
 unfold a9l;simp only[b0Z hk,b3t,hw,oB,bT,cF,b3u hw,hk0,eq,ew];generalize a0z x / 2^k=q
 by_cases hq:q<32
 have hd:decide ((q:Int)<32)=true:=decide_eq_true (by omega);refine⟨(q:Int)+1+k,?_,by omega,by omega⟩;simp only[hd,cT];rw[a0l (n:=(q:Int)+1) (by omega),a0l (by omega)];have hd:decide ((q:Int)<32)=false:=decide_eq_false (by omega);exact⟨65,by simp only[hd,cF],by omega,by omega⟩
theorem c2S{k:Nat}(hk:k≤25){x:Int}(hw:a0b x=true):∃c,a6T ((k:Int),x)=some c∧0≤c∧c≤65:=by
 have hy:=b2f hw;have eq:a0m .u64 ((a0z x:Nat):Int) (k:Int)=((a0z x / 2^k:Nat):Int):=a8u (by omega);have ew:wrap .i64 ((a0z x / 2^k:Nat):Int)=((a0z x / 2^k:Nat):Int):=b4a (a36 (a34 _ _) hy);have eu:wrap .u64 (k:Int)=(k:Int):=a1o (by omega);have hk0:decide ((k:Int)<0)=false:=by simp
 unfold a6T;simp only[b2g hk,a2Q,hw,oB,bT,cF,b4z hw,eu,hk0,eq,ew];generalize a0z x / 2^k=q
 by_cases hq:q<32
 have hd:decide ((q:Int)<32)=true:=decide_eq_true (by omega);refine⟨(q:Int)+1+k,?_,by omega,by omega⟩;simp only[hd,cT];rw[a0l (n:=(q:Int)+1) (by omega),a0l (by omega)];have hd:decide ((q:Int)<32)=false:=decide_eq_false (by omega);exact⟨65,by simp only[hd,cF],by omega,by omega⟩
theorem c7Y{k:Nat}(hk:k≤25){l:List Int}(hw:l.all a0b=true)(hl:l.length<10000):∃c,a4R ((k:Int),l)=some c∧0≤c∧c≤65*l.length:=by
 have key:∀(j i:Nat)(c:Int),i+j=l.length→0≤c→c≤65*i→∃c',a0e a5t ((k:Int),c,l,(l.length:Int),(i:Int),())=some (c',())∧0≤c'∧c'≤65*l.length:=by
  intro j
  induction j with
  |zero=>
   intro i c hi h0 h1;obtain rfl:i=l.length:=by omega
   exact⟨c,a0h (by simp[a5t]),h0,h1⟩
  |succ j ih=>
   intro i c hi h0 h1;have hlt:i<l.length:=by omega
   obtain⟨d,hd,hd0,hd1⟩:=c6D hk (lA.1 hw _ (a08 hlt));have e:wrap .i64 (c+d)=c+d:=a0l (by omega);rw[a0k (s':=((k:Int),c+d,l,(l.length:Int),((i+1:Nat):Int),())) (by simp only[a5t,dlt hlt,cT,a0d hlt,oB,hd,e,a0c (show i<1000000 by omega)])];exact ih (i+1) _ (by omega) (by omega) (by omega)
 obtain⟨c,h1,h2,h3⟩:=key l.length 0 0 (by omega) (by omega) (by omega);simp only[nZ]at h1;exact⟨c,by unfold a4R;simp only[h1,oB],h2,h3⟩
theorem c4j{k:Nat}(hk:k≤25){l:List Int}(hw:l.all a0b=true)(hl:l.length<10000):∃c,a4j ((k:Int),l)=some c∧0≤c∧c≤65*l.length:=by
 have key:∀(j i:Nat)(c:Int),i+j=l.length→0≤c→c≤65*i→∃c',a0e a4i ((k:Int),l,c,(i:Int),())=some (c',())∧0≤c'∧c'≤65*l.length:=by
  intro j
  induction j with
  |zero=>
   intro i c hi h0 h1;obtain rfl:i=l.length:=by omega
   exact⟨c,a0h (by simp[a4i]),h0,h1⟩
  |succ j ih=>
   intro i c hi h0 h1;have hlt:i<l.length:=by omega
   obtain⟨d,hd,hd0,hd1⟩:=c2S hk (lA.1 hw _ (a08 hlt));have e:wrap .i64 (c+d)=c+d:=a0l (by omega);rw[a0k (s':=((k:Int),l,c+d,((i+1:Nat):Int),())) (by simp only[a4i,dlt hlt,cT,a0d hlt,oB,hd,e,a0c (show i<1000000 by omega)])];exact ih (i+1) _ (by omega) (by omega) (by omega)
 obtain⟨c,h1,h2,h3⟩:=key l.length 0 0 (by omega) (by omega) (by omega);simp only[nZ]at h1;exact⟨c,by unfold a4j;simp only[h1,oB],h2,h3⟩
theorem c2n{w n:Nat}(hw:w≤32)(hn:n<10000):0≤(w:Int)*(n:Int)∧(w:Int)*(n:Int)≤32*n:=by
 have h:w*n≤32*n:=a40 _ hw;have e:(w:Int)*(n:Int)=((w*n:Nat):Int):=by rw[a58]
 omega
theorem c6E{l:List Int}(hl:l.length<10000):∃c,a7H l=some c∧0≤c∧c≤5+32*l.length:=by
 have hm:=c2n (a3K l) hl;refine⟨5+((a0s l:Nat):Int)*((l.length:Nat):Int),?_,by omega,by omega⟩;unfold a7H;simp only[a7D (show short l by unfold short;omega),oB];rw[a0l (n:=((a0s l:Nat):Int)*((l.length:Nat):Int)) (by omega),a0l (by omega)]
theorem b7L{zn:List Nat}{p:Prt}(hk:p.2.1.length=zn.length)(hall:p.2.1.all kB=true)(hz:zn.length≤256):∀(j i:Nat)(l:List Int)(c:Int),i+j=zn.length→(zn.drop i).sum=l.length→l.all a0b=true→l.length≤5000→4≤c→c+10*j+65*l.length<1000000→
  ∃c',a0e a1Y (l,c,(zn.length:Int),(i:Int),a1y zn,p,())=some (c',())∧4≤c'
 |0,i,l,c,hi,_,_,_,hc,_=>by
  obtain rfl:i=zn.length:=by omega
  exact⟨c,a0h (by simp[a1Y]),hc⟩
 |j+1,i,l,c,hi,hsum,hw,hl5,hc,hb=>by
  have hlt:i<zn.length:=by omega
  have hki:i<p.2.1.length:=by omega
  have hkb:=lA.1 hall _ (a08 hki);rw[b0g hlt]at hsum;have h0:decide ((0:Int)≤(i:Int))=true:=by simp
  have h1:decide ((i:Int)<(((a1y zn).length:Nat):Int))=true:=by rw[a1a];simp;omega
  have h2:decide ((0:Int)≤((zn[i]:Nat):Int))=true:=by simp
  have h3:decide (((zn[i]:Nat):Int)≤((l.length:Nat):Int))=true:=by simp;omega
  have hpart:(l.take zn[i]).length=zn[i]:=by rw[a04];omega
  have hrest:(l.drop zn[i]).length=(zn.drop (i+1)).sum:=by rw[a09];omega
  have hwp:(l.take zn[i]).all a0b=true:=lA.2 fun x hx=>lA.1 hw x (a26 hx);have hwr:(l.drop zn[i]).all a0b=true:=lA.2 fun x hx=>lA.1 hw x (a27 hx);have goal:∃d,a1Y (l,c,(zn.length:Int),(i:Int),a1y zn,p,())=some (.inl (l.drop zn[i],c+d,(zn.length:Int),((i+1:Nat):Int),a1y zn,p,()))∧0≤d∧d≤10+65*zn[i]:=by
   by_cases h31:p.2.1[i]=31
   have hne:(p.2.1[i]==31)=true:=by rw[h31];rfl
   obtain⟨r,hr,hr0,hr1⟩:=c6E (l:=l.take zn[i]) (by omega);have e1:wrap .i64 (5+r)=5+r:=a0l (by omega);have e2:wrap .i64 (c+(5+r))=c+(5+r):=a0l (by omega);refine⟨5+r,?_,by omega,by omega⟩;simp only[a1Y,dlt hlt,h0,h1,a4t hlt,h2,h3,cT,a02,tN,a0d hki,oB,hne,hr,e1,e2,a22,a0c (show i<1000000 by omega)];have hne:(p.2.1[i]==31)=false:=by simp[h31]
   simp only[kB,a18,bA,dT,beq_iff_eq]at hkb;obtain⟨K,hK⟩:=a03 (show 0≤p.2.1[i]by omega);obtain⟨r,hr,hr0,hr1⟩:=c7Y (k:=K) (by omega) hwp (by omega);rw[←hK]at hr;have e1:wrap .i64 (5+r)=5+r:=a0l (by omega);have e2:wrap .i64 (c+(5+r))=c+(5+r):=a0l (by omega);refine⟨5+r,?_,by omega,by omega⟩;simp only[a1Y,dlt hlt,h0,h1,a4t hlt,h2,h3,cT,cF,a02,tN,a0d hki,oB,hne,hr,e1,e2,a22,a0c (show i<1000000 by omega)]
  obtain⟨d,hd,hd0,hd1⟩:=goal;rw[a0k hd];exact b7L hk hall hz j (i+1) (l.drop zn[i]) _ (by omega) hrest.symm hwr (by rw[a09];omega) (by omega) (by rw[a09];omega)
theorem b3G{zn:List Nat}{p:Prt}{l:List Int}(hk:p.2.1.length=zn.length)(hall:p.2.1.all kB=true)(hz:zn.length≤256)(hw:l.all a0b=true)(hl5:l.length≤5000):∀(j i off:Nat)(c:Int),i+j=zn.length→off+(zn.drop i).sum=l.length→4≤c→c+10*j+65*(l.length-off:Nat)<1000000→
  ∃c',a0e a3c (l,c,(off:Int),(i:Int),a1y zn,p,())=some (c',())∧4≤c'
 |0,i,off,c,hi,_,hc,_=>by
  obtain rfl:i=zn.length:=by omega
  exact⟨c,a0h (by simp[a3c,a1a]),hc⟩
 |j+1,i,off,c,hi,hsum,hc,hb=>by
  have hlt:i<zn.length:=by omega
  have hki:i<p.2.1.length:=by omega
  have hkb:=lA.1 hall _ (a08 hki);rw[b0g hlt]at hsum;have h0:decide ((0:Int)≤(i:Int))=true:=by simp
  have h1:decide ((i:Int)<(((a1y zn).length:Nat):Int))=true:=by rw[a1a];simp;omega
  have eo:wrap .i64 ((off:Int)+((zn[i]:Nat):Int))=((off+zn[i]:Nat):Int):=by rw[a0l (by omega)];omega
  have h2:decide ((0:Int)≤((off+zn[i]:Nat):Int))=true:=by simp;omega
  have h3:decide (((off+zn[i]:Nat):Int)≤((l.length:Nat):Int))=true:=by simp only[dT];omega
  have h4:decide ((0:Int)≤(off:Int))=true:=by simp
  have h5:decide ((off:Int)≤((off+zn[i]:Nat):Int))=true:=by simp only[dT];omega
  have epart:b02 off (a70 (off+zn[i]) l)=(l.drop off).take zn[i]:=by rw[a61];congr 1;omega
  have hpart:((l.drop off).take zn[i]).length=zn[i]:=by rw[a04,a09];omega
  have hwp:((l.drop off).take zn[i]).all a0b=true:=lA.2 fun x hx=>lA.1 hw x (a27 (a26 hx));have hcost:∃d,a3r (p.2.1[i],(l.drop off).take zn[i])=some d∧0≤d∧d≤5+65*zn[i]:=by
   unfold a3r
   by_cases h31:p.2.1[i]=31
   have hne:(p.2.1[i]==31)=true:=by rw[h31];rfl
   have hm:=c2n (a3K ((l.drop off).take zn[i])) (show((l.drop off).take zn[i]).length<10000 by omega);refine⟨5+((a0s ((l.drop off).take zn[i]):Nat):Int)*((((l.drop off).take zn[i]).length:Nat):Int),?_,by omega,by omega⟩;simp only[hne,cT,b0f (show short ((l.drop off).take zn[i])by unfold short;omega),oB];rw[a99 (((((l.drop off).take zn[i]).length:Nat):Int)),a0l (n:=((a0s ((l.drop off).take zn[i]):Nat):Int)*((((l.drop off).take zn[i]).length:Nat):Int)) (by omega),a0l (by omega)];have hne:(p.2.1[i]==31)=false:=by simp[h31]
   simp only[kB,a18,bA,dT,beq_iff_eq]at hkb;obtain⟨K,hK⟩:=a03 (show 0≤p.2.1[i]by omega);obtain⟨r,hr,hr0,hr1⟩:=c4j (k:=K) (by omega) hwp (by omega);rw[←hK]at hr;exact⟨r,by simp only[hne,cF,hr,oB],hr0,by omega⟩
  obtain⟨d,hd,hd0,hd1⟩:=hcost;have e1:wrap .i64 (c+5)=c+5:=a0l (by omega);have e2:wrap .i64 (c+5+d)=c+5+d:=a0l (by omega);rw[a0k (s':=(l,c+5+d,((off+zn[i]:Nat):Int),((i+1:Nat):Int),a1y zn,p,())) (by
   simp only[a3c,h0,h1,a4t hlt,eo,h2,h3,h4,h5,cT,a02,tN,a0d hki,oB,epart,hd,e1,e2,a0c (show i<1000000 by omega)])]
  exact b3G hk hall hz hw hl5 j (i+1) (off+zn[i]) _ (by omega) (by omega) (by omega) (by omega)
structure PartsOk (p:Prt) (n warm:Int) (l:List Int) (zn:List Nat):Prop where
 may:a2Z p n warm=true
 sizes:a0U p.1 n warm=a1y zn
 sum:zn.sum=l.length
 len:zn.length≤256
 ks:p.2.1.length=zn.length
 all:p.2.1.all kB=true
 wide:l.all a0b=true
 short:l.length≤5000
 row:a3z n warm=true
 rest:(l.length:Int)=n-warm
 order:0≤p.1∧p.1≤8
theorem PartsOk.of{p:Prt}{n warm:Int}{l:List Int}(h:a2Z p n warm=true)(hl:(l.length:Int)=n-warm)(hw:l.all a0b=true)(h5:l.length≤5000):∃zn,PartsOk p n warm l zn:=by
 have h':=h;simp only[a2Z,bA,a37,beq_eq_false_iff_ne,ne_eq,beq_iff_eq]at h';obtain⟨h1,h2,h3⟩:=h';obtain⟨zn,g1,g2,g3⟩:=b8E h1;have hr:a3z n warm=true∧0≤p.1∧p.1≤8:=by
  unfold a0U at h1;cases hr:(a3z n warm&&(decide (0≤p.1)&&decide (p.1≤8)))with
  |false=>rw[hr]at h1;simp at h1
  |true=>simpa using hr
 exact⟨zn,h,g1,by omega,g3,by rw[←h2,g1,a1a],h3,hw,h5,hr.1,hl,hr.2⟩
theorem b4b{n warm:Int}{l:List Int}(hr:a3z n warm=true)(hl:(l.length:Int)=n-warm)(hw:l.all a0b=true)(h5:l.length≤5000):a8U (n,warm,l)=some true:=by
 have e:wrap .i64 (n-warm)=n-warm:=by
  simp only[a3z,bA,dT]at hr;exact a0l (by omega)
 have h1:(((l.length:Nat):Int) != n-warm)=false:=by rw[hl];simp
 have e2:b6B=a3v:=rfl;have hs:short l:=by unfold short;omega
 have ha:=a6m hs;unfold a2P at ha;unfold a8U;simp only[c2e,hr,oB,bT,cF,e,h1,e2];rw[hw]at ha;exact ha
theorem c5B{p:Prt}{n warm:Int}{l:List Int}{zn:List Nat}(h:PartsOk p n warm l zn):∃c,a6s (p,n,warm,l)=some c∧4≤c:=by
 have hk:Go.Ab.short p.2.1:=by have:=h.ks;have:=h.len;unfold Go.Ab.short;omega
 have h5:=h.short;have hz:=h.len;obtain⟨c,h1,h2⟩:=b7L h.ks h.all h.len zn.length 0 l 4 (by omega) (by rw[a05];exact h.sum) h.wide h.short (by omega) (by omega);simp only[nZ]at h1;refine⟨c,?_,h2⟩;unfold a6s;simp only[b3s hk,h.may,b4b h.row h.rest h.wide h.short,oB,bT,cF,a3J,h.sizes,a1a,h1]
theorem c2o{p:Prt}{n warm:Int}{l:List Int}{zn:List Nat}(h:PartsOk p n warm l zn):∃c,a2V (p,n,warm,l)=some c∧4≤c:=by
 have hk:Go.Ab.short p.2.1:=by have:=h.ks;have:=h.len;unfold Go.Ab.short;omega
 have hs:Go.Ab.short l:=by have:=h.short;unfold Go.Ab.short;omega
 have h5:=h.short;have hz:=h.len;have hr:=h.row;simp only[a3z,bA,dT]at hr;have e:wrap .i64 (n-warm)=n-warm:=a0l (by omega);have he:(((l.length:Nat):Int) != n-warm)=false:=by rw[h.rest];simp
 obtain⟨c,h1,h2⟩:=b3G h.ks h.all h.len h.wide h.short zn.length 0 0 4 (by omega) (by rw[a05,h.sum];omega) (by omega) (by omega);simp only[nZ]at h1;refine⟨c,?_,h2⟩;unfold a2V;simp only[a7B hk,h.may,oB,bT,cF,e,he,a0B hs,h.wide,a2G,h.sizes,h1]
def a3L(p:Prt)(zn:List Nat)(l L:List Int):List Int:=a5L zn p.2.1 l (a0o (wrap .u64 p.1) 4 L)
theorem c9B{p:Prt}{n warm:Int}{l L:List Int}{zn:List Nat}(h:PartsOk p n warm l zn)(hL:L.length<700000000):b4t (wL L,p,n,warm,l)=some (0,wL (a3L p zn l L)):=by
 have h5:=h.short;have hz:=h.len;obtain⟨c,hc,hc4⟩:=c5B h;have hne:(c==0)=false:=by simp only[beq_eq_false_iff_ne,ne_eq];omega
 have hpl:=a0v (wrap .u64 p.1) 4 L;have hput:a0n (wL L,wrap .u64 p.1,(4:Int))=some (a2W (wrap .u64 p.1) 4,wL (a0o (wrap .u64 p.1) 4 L)):=a4C (n:=4) (by omega) (by omega);have hloop:=b9o h.ks h.all h.len zn.length 0 l (a0o (wrap .u64 p.1) 4 L) (by omega) (by rw[a05];exact h.sum) h.wide h.short (by omega);simp only[nZ,a05]at hloop;unfold b4t;simp only[hc,oB,hne,cF,hput,a3J,h.sizes,a1a,hloop,a3L]
theorem c5C{p:Prt}{n warm:Int}{l L:List Int}{zn:List Nat}(h:PartsOk p n warm l zn)(hL:L.length<700000000):b1J ((L,()),p,n,warm,l)=some (0,a3L p zn l L,()):=by
 have h5:=h.short;have hz:=h.len;obtain⟨c,hc,hc4⟩:=c2o h;have hne:(c==0)=false:=by simp only[beq_eq_false_iff_ne,ne_eq];omega
 have hpl:=a0v (wrap .u64 p.1) 4 L;have hput:a0t ((L,()),wrap .u64 p.1,(4:Int))=some (a2W (wrap .u64 p.1) 4,a0o (wrap .u64 p.1) 4 L,()):=a1Z (n:=4) (by omega) (by omega);have hloop:=b4Y h.ks h.all h.len h.wide h.short zn.length 0 0 (a0o (wrap .u64 p.1) 4 L) (by omega) (by rw[a05,h.sum];omega) (by omega);simp only[nZ,a05]at hloop;unfold b1J;simp only[hc,oB,hne,cF,hput,a2G,h.sizes,hloop,a3L]
end Go.Ab
namespace Go.Ab
open IntKind(wrap)
theorem c5D{c:List Int}{wd:Nat}(hw:wd≤32)(hc:c.length<10000):∀(j i:Nat)(L:List Int),i+j=c.length→L.length+64*j<999990000→
  a0e a7M ((wd:Int),c,(c.length:Int),(i:Int),wL L,())=some (wL (a1J wd (c.drop i) L),())
 |0,i,L,hi,_=>by
  obtain rfl:i=c.length:=by omega
  rw[a06];exact a0h (by simp[a7M,a1J])
 |j+1,i,L,hi,hb=>by
  have hlt:i<c.length:=by omega
  have hpl:=a0v (a3t c[i] wd) wd L;rw[a01 hlt,a0k (s':=((wd:Int),c,(c.length:Int),((i+1:Nat):Int),wL (a0o (a3t c[i] wd) wd L),())) (by
   simp only[a7M,dlt hlt,cT,a0d hlt,oB,b6W (show wd≤63 by omega) (show L.length<999999000 by omega),a0c (show i<1000000 by omega)])]
  exact c5D hw hc j (i+1) _ (by omega) (by omega)
theorem c7v{t:List Int}{n wd:Int}{s:Sub}(ht:t.length=3):∀(j i:Nat)(L:List Int),i+j=3→L.length+64*j<999990000→
  a0e b2T (n,wd,t,(i:Int),wL L,s,())=some (n,wd,wL (a1J 8 (t.drop i) L),s,())
 |0,i,L,hi,_=>by
  obtain rfl:i=t.length:=by omega
  rw[a06];exact a0h (by rw[ht];simp[b2T,a1J])
 |j+1,i,L,hi,hb=>by
  have hlt:i<t.length:=by omega
  have h3:decide ((i:Int)<3)=true:=by simp;omega
  have hpl:=a0v (a3t t[i] 8) 8 L;have hps:a4a (wL L,t[i],(8:Int))=some (wL (a0o (a3t t[i] 8) 8 L)):=b6W (n:=8) (by omega) (by omega);rw[a01 hlt,a0k (s':=(n,wd,t,((i+1:Nat):Int),wL (a0o (a3t t[i] 8) 8 L),s,())) (by
   simp only[b2T,h3,cT,a0d hlt,oB,hps,a0c (show i<1000000 by omega)])]
  exact c7v ht j (i+1) _ (by omega) (by omega)
theorem c7w{l:List Int}{n:Int}{wd:Nat}{s:Sub}(hw:wd≤32)(hl:l.length<10000):∀(j i:Nat)(L:List Int),i+j=l.length→L.length+64*j<999990000→
  a0e b2V (n,(wd:Int),l,(l.length:Int),(i:Int),wL L,s,())=some (n,wL (a1J wd (l.drop i) L),s,())
 |0,i,L,hi,_=>by
  obtain rfl:i=l.length:=by omega
  rw[a06];exact a0h (by simp[b2V,a1J])
 |j+1,i,L,hi,hb=>by
  have hlt:i<l.length:=by omega
  have hpl:=a0v (a3t l[i] wd) wd L;rw[a01 hlt,a0k (s':=(n,(wd:Int),l,(l.length:Int),((i+1:Nat):Int),wL (a0o (a3t l[i] wd) wd L),s,())) (by
   simp only[b2V,dlt hlt,cT,a0d hlt,oB,b6W (show wd≤63 by omega) (show L.length<999999000 by omega),a0c (show i<1000000 by omega)])]
  exact c7w hw hl j (i+1) _ (by omega) (by omega)
def a8p(s:Stg)(L:List Int):List Int:=a0o (wrap .u64 s.2.1) 4 (a0o (wrap .u64 (wrap .i64 (s.1-1))) 5 L)
def a4s(st:List Stg)(L:List Int):List Int:=st.foldl (fun L s=>a8p s L) L
theorem b5p(s:Stg)(L:List Int):(a8p s L).length≤L.length+9:=by
 have h1:=a0v (wrap .u64 (wrap .i64 (s.1-1))) 5 L;have h2:=a0v (wrap .u64 s.2.1) 4 (a0o (wrap .u64 (wrap .i64 (s.1-1))) 5 L);unfold a8p;omega
theorem b9p:∀(st:List Stg)(L:List Int),(a4s st L).length≤L.length+9*st.length
 | [],L=>by simp[a4s]
 |s::st,L=>by
  have h1:=b5p s L;have h2:=b9p st (a8p s L);have e:a4s (s::st) L=a4s st (a8p s L):=rfl;rw[e,lC];omega
theorem c3C{st:List Stg}{n wd:Int}{s:Sub}(hs:st.length<10000):∀(j i:Nat)(L:List Int),i+j=st.length→L.length+64*j<999990000→
  a0e b2U (n,wd,st,(st.length:Int),(i:Int),wL L,s,())=some (n,wd,wL (a4s (st.drop i) L),s,())
 |0,i,L,hi,_=>by
  obtain rfl:i=st.length:=by omega
  rw[a06];exact a0h (by simp[b2U,a4s])
 |j+1,i,L,hi,hb=>by
  have hlt:i<st.length:=by omega
  have hp1:=a0v (wrap .u64 (wrap .i64 (st[i].1-1))) 5 L;have hsl:=b5p st[i] L;have h1:a0n (wL L,wrap .u64 (wrap .i64 (st[i].1-1)),(5:Int))=some (a2W (wrap .u64 (wrap .i64 (st[i].1-1))) 5,wL (a0o (wrap .u64 (wrap .i64 (st[i].1-1))) 5 L)):=a4C (n:=5) (by omega) (by omega);have h2:a0n (wL (a0o (wrap .u64 (wrap .i64 (st[i].1-1))) 5 L),wrap .u64 st[i].2.1,(4:Int))=some (a2W (wrap .u64 st[i].2.1) 4,wL (a8p st[i] L)):=a4C (n:=4) (by omega) (by omega);rw[a01 hlt,a0k (s':=(n,wd,st,(st.length:Int),((i+1:Nat):Int),wL (a8p st[i] L),s,())) (by
   simp only[b2U,dlt hlt,cT,a0d hlt,oB,h1,h2,a0c (show i<1000000 by omega)])]
  exact c3C hs j (i+1) _ (by omega) (by omega)
theorem b7M{n wd:Int}{s:Sub}(hs:s.2.2.2.2.2.2.2.1.length<10000):∀(j i:Nat)(L:List Int),i+j=s.2.2.2.2.2.2.2.1.length→L.length+64*j<999990000→
  a0e a9E (n,wd,(i:Int),(L,()),s,())=some (n,wd,(a4s (s.2.2.2.2.2.2.2.1.drop i) L,()),s,())
 |0,i,L,hi,_=>by
  obtain rfl:i=s.2.2.2.2.2.2.2.1.length:=by omega
  rw[a06];exact a0h (by simp[a9E,a4s])
 |j+1,i,L,hi,hb=>by
  have hlt:i<s.2.2.2.2.2.2.2.1.length:=by omega
  have hp1:=a0v (wrap .u64 (wrap .i64 (s.2.2.2.2.2.2.2.1[i].1-1))) 5 L;have hsl:=b5p s.2.2.2.2.2.2.2.1[i] L;have h1:a0t ((L,()),wrap .u64 (wrap .i64 (s.2.2.2.2.2.2.2.1[i].1-1)),(5:Int))=some (a2W (wrap .u64 (wrap .i64 (s.2.2.2.2.2.2.2.1[i].1-1))) 5,a0o (wrap .u64 (wrap .i64 (s.2.2.2.2.2.2.2.1[i].1-1))) 5 L,()):=a1Z (n:=5) (by omega) (by omega);have h2:a0t ((a0o (wrap .u64 (wrap .i64 (s.2.2.2.2.2.2.2.1[i].1-1))) 5 L,()),wrap .u64 s.2.2.2.2.2.2.2.1[i].2.1,(4:Int))=some (a2W (wrap .u64 s.2.2.2.2.2.2.2.1[i].2.1) 4,a8p s.2.2.2.2.2.2.2.1[i] L,()):=a1Z (n:=4) (by omega) (by omega);rw[a01 hlt,a0k (s':=(n,wd,((i+1:Nat):Int),(a8p s.2.2.2.2.2.2.2.1[i] L,()),s,())) (by
   simp only[a9E,dlt hlt,cT,a0d hlt,oB,h1,h2,a0c (show i<1000000 by omega)])]
  exact b7M hs j (i+1) _ (by omega) (by omega)
def a6A(s:Sub)(L:List Int):List Int:=
 a1J (a0s s.2.2.2.2.2.1) s.2.2.2.2.2.1 (a0o ((a0s s.2.2.2.2.2.1:Nat):Int) 5 (a0o (wrap .u64 s.2.2.2.1) 4 (a0o (wrap .u64 (wrap .i64 (((s.2.2.2.2.2.1.length:Nat):Int)-1))) 5 L)))
theorem c0T{s:Sub}(h:s.2.2.2.2.2.1.length≤40)(L:List Int):(a6A s L).length≤L.length+2000:=by
 unfold a6A;have h1:=a0v (wrap .u64 (wrap .i64 (((s.2.2.2.2.2.1.length:Nat):Int)-1))) 5 L;have h2:=a0v (wrap .u64 s.2.2.2.1) 4 (a0o (wrap .u64 (wrap .i64 (((s.2.2.2.2.2.1.length:Nat):Int)-1))) 5 L);have h3:=a0v ((a0s s.2.2.2.2.2.1:Nat):Int) 5 (a0o (wrap .u64 s.2.2.2.1) 4 (a0o (wrap .u64 (wrap .i64 (((s.2.2.2.2.2.1.length:Nat):Int)-1))) 5 L));have h4:=a5g (a0s s.2.2.2.2.2.1) s.2.2.2.2.2.1 (a0o ((a0s s.2.2.2.2.2.1:Nat):Int) 5 (a0o (wrap .u64 s.2.2.2.1) 4 (a0o (wrap .u64 (wrap .i64 (((s.2.2.2.2.2.1.length:Nat):Int)-1))) 5 L)));have hw:=a3K s.2.2.2.2.2.1
 have:a0s s.2.2.2.2.2.1*s.2.2.2.2.2.1.length≤32*40:=a84 hw h
 omega
theorem c3D{s:Sub}(h:s.2.2.2.2.2.1.length≤40){L:List Int}(hL:L.length<900000000):b0w (wL L,s)=some (wL (a6A s L)):=by
 have h1:=a0v (wrap .u64 (wrap .i64 (((s.2.2.2.2.2.1.length:Nat):Int)-1))) 5 L;have h2:=a0v (wrap .u64 s.2.2.2.1) 4 (a0o (wrap .u64 (wrap .i64 (((s.2.2.2.2.2.1.length:Nat):Int)-1))) 5 L);have h3:=a0v ((a0s s.2.2.2.2.2.1:Nat):Int) 5 (a0o (wrap .u64 s.2.2.2.1) 4 (a0o (wrap .u64 (wrap .i64 (((s.2.2.2.2.2.1.length:Nat):Int)-1))) 5 L));have hw:=a3K s.2.2.2.2.2.1;have ew:wrap .u64 ((a0s s.2.2.2.2.2.1:Nat):Int)=((a0s s.2.2.2.2.2.1:Nat):Int):=a1o (by omega);have p1:a0n (wL L,wrap .u64 (wrap .i64 (((s.2.2.2.2.2.1.length:Nat):Int)-1)),(5:Int))=some (a2W (wrap .u64 (wrap .i64 (((s.2.2.2.2.2.1.length:Nat):Int)-1))) 5,wL (a0o (wrap .u64 (wrap .i64 (((s.2.2.2.2.2.1.length:Nat):Int)-1))) 5 L)):=a4C (n:=5) (by omega) (by omega);have p2:a0n (wL (a0o (wrap .u64 (wrap .i64 (((s.2.2.2.2.2.1.length:Nat):Int)-1))) 5 L),wrap .u64 s.2.2.2.1,(4:Int))=some (a2W (wrap .u64 s.2.2.2.1) 4,wL (a0o (wrap .u64 s.2.2.2.1) 4 (a0o (wrap .u64 (wrap .i64 (((s.2.2.2.2.2.1.length:Nat):Int)-1))) 5 L))):=a4C (n:=4) (by omega) (by omega);have p3:a0n (wL (a0o (wrap .u64 s.2.2.2.1) 4 (a0o (wrap .u64 (wrap .i64 (((s.2.2.2.2.2.1.length:Nat):Int)-1))) 5 L)),((a0s s.2.2.2.2.2.1:Nat):Int),(5:Int))=some (a2W ((a0s s.2.2.2.2.2.1:Nat):Int) 5,wL (a0o ((a0s s.2.2.2.2.2.1:Nat):Int) 5 (a0o (wrap .u64 s.2.2.2.1) 4 (a0o (wrap .u64 (wrap .i64 (((s.2.2.2.2.2.1.length:Nat):Int)-1))) 5 L)))):=a4C (n:=5) (by omega) (by omega);have hlp:=c5D (c:=s.2.2.2.2.2.1) hw (by omega) s.2.2.2.2.2.1.length 0 (a0o ((a0s s.2.2.2.2.2.1:Nat):Int) 5 (a0o (wrap .u64 s.2.2.2.1) 4 (a0o (wrap .u64 (wrap .i64 (((s.2.2.2.2.2.1.length:Nat):Int)-1))) 5 L))) (by omega) (by omega);simp only[nZ,a05]at hlp;unfold b0w;simp only[p1,p2,a7D (show short s.2.2.2.2.2.1 by unfold short;omega),ew,p3,hlp,oB,a6A]
theorem b6Z{s:Sub}(h:s.2.2.2.2.2.1.length≤40){L:List Int}(hL:L.length<800000000):a7z ((L,()),s)=some (a6A s L,()):=by
 have h1:=a0v (wrap .u64 (wrap .i64 (((s.2.2.2.2.2.1.length:Nat):Int)-1))) 5 L;have h2:=a0v (wrap .u64 s.2.2.2.1) 4 (a0o (wrap .u64 (wrap .i64 (((s.2.2.2.2.2.1.length:Nat):Int)-1))) 5 L);have h3:=a0v ((a0s s.2.2.2.2.2.1:Nat):Int) 5 (a0o (wrap .u64 s.2.2.2.1) 4 (a0o (wrap .u64 (wrap .i64 (((s.2.2.2.2.2.1.length:Nat):Int)-1))) 5 L));have hw:=a3K s.2.2.2.2.2.1;have ew:wrap .u64 ((a0s s.2.2.2.2.2.1:Nat):Int)=((a0s s.2.2.2.2.2.1:Nat):Int):=a1o (by omega);have p1:a0t ((L,()),wrap .u64 (wrap .i64 (((s.2.2.2.2.2.1.length:Nat):Int)-1)),(5:Int))=some (a2W (wrap .u64 (wrap .i64 (((s.2.2.2.2.2.1.length:Nat):Int)-1))) 5,a0o (wrap .u64 (wrap .i64 (((s.2.2.2.2.2.1.length:Nat):Int)-1))) 5 L,()):=a1Z (n:=5) (by omega) (by omega);have p2:a0t ((a0o (wrap .u64 (wrap .i64 (((s.2.2.2.2.2.1.length:Nat):Int)-1))) 5 L,()),wrap .u64 s.2.2.2.1,(4:Int))=some (a2W (wrap .u64 s.2.2.2.1) 4,a0o (wrap .u64 s.2.2.2.1) 4 (a0o (wrap .u64 (wrap .i64 (((s.2.2.2.2.2.1.length:Nat):Int)-1))) 5 L),()):=a1Z (n:=4) (by omega) (by omega);have p3:a0t ((a0o (wrap .u64 s.2.2.2.1) 4 (a0o (wrap .u64 (wrap .i64 (((s.2.2.2.2.2.1.length:Nat):Int)-1))) 5 L),()),((a0s s.2.2.2.2.2.1:Nat):Int),(5:Int))=some (a2W ((a0s s.2.2.2.2.2.1:Nat):Int) 5,a0o ((a0s s.2.2.2.2.2.1:Nat):Int) 5 (a0o (wrap .u64 s.2.2.2.1) 4 (a0o (wrap .u64 (wrap .i64 (((s.2.2.2.2.2.1.length:Nat):Int)-1))) 5 L)),()):=a1Z (n:=5) (by omega) (by omega);have hlp:=a8I (l:=s.2.2.2.2.2.1) (n:=a0s s.2.2.2.2.2.1) (L:=a0o ((a0s s.2.2.2.2.2.1:Nat):Int) 5 (a0o (wrap .u64 s.2.2.2.1) 4 (a0o (wrap .u64 (wrap .i64 (((s.2.2.2.2.2.1.length:Nat):Int)-1))) 5 L))) (by omega) (by omega) (by omega);unfold a7z;simp only[p1,p2,b0f (show short s.2.2.2.2.2.1 by unfold short;omega),ew,p3,hlp,oB,a6A]
def b1N(s:Sub)(L:List Int):List Int:=
 a0o ((a0s s.2.2.2.2.2.2.2.2.1:Nat):Int) 5 (a0o (wrap .u64 s.2.1) 5 (a0o (wrap .u64 s.1) 3 L))
def a1K(s:Sub)(L:List Int):List Int:=
 if s.1=2 then a0o (wrap .u64 s.2.2.1) 3 L
 else if s.1=3 then a6A s L
 else if s.1=4 then a6A s (a1J 8 s.2.2.2.2.2.2.1 (a0o (wrap .u64 (wrap .i64 (s.2.2.2.2.1-1))) 10 L))
 else if s.1=5 then a4s s.2.2.2.2.2.2.2.1 (a0o (wrap .u64 ((s.2.2.2.2.2.2.2.1.length:Nat):Int)) 2 L)
 else L
theorem c2p{s:Sub}(h:SmallS s)(L:List Int):(a1K s L).length≤L.length+3000:=by
 have hc:=h.coefs;have ht:=h.taps;have hst:=h.stages;unfold a1K;split
 have:=a0v (wrap .u64 s.2.2.1) 3 L;omega
 split
 have:=c0T hc L;omega
 split;have h1:=a0v (wrap .u64 (wrap .i64 (s.2.2.2.2.1-1))) 10 L;have h2:=a5g 8 s.2.2.2.2.2.2.1 (a0o (wrap .u64 (wrap .i64 (s.2.2.2.2.1-1))) 10 L);have h3:=c0T hc (a1J 8 s.2.2.2.2.2.2.1 (a0o (wrap .u64 (wrap .i64 (s.2.2.2.2.1-1))) 10 L));omega;split;have h1:=a0v (wrap .u64 ((s.2.2.2.2.2.2.2.1.length:Nat):Int)) 2 L;have h2:=b9p s.2.2.2.2.2.2.2.1 (a0o (wrap .u64 ((s.2.2.2.2.2.2.2.1.length:Nat):Int)) 2 L);omega;omega
theorem b5q:∀(zs:List Nat)(ks l L:List Int),ks.all kB=true→(a5L zs ks l L).length≤L.length+10*zs.length+100*l.length
 |z::zs,k::ks,l,L,h=>by
  simp only[a23,bA]at h;have h1:=b6Y h.1 (l.take z) L;have h2:=b5q zs ks (l.drop z) (b0L k (l.take z) L) h.2;rw[a04]at h1;rw[a09]at h2;simp only[a5L,lC];omega
 | [],_,_,_,_=>by simp only[a5L];omega
 |_::_,[],_,_,_=>by simp only[a5L];omega
def a5p(s:Sub)(zn:List Nat)(L:List Int):List Int:=
 if s.1=0∨s.1=1 then a1J (a0s s.2.2.2.2.2.2.2.2.1) s.2.2.2.2.2.2.2.2.1 (a1K s (b1N s L))
 else a3L s.2.2.2.2.2.2.2.2.2.1 zn s.2.2.2.2.2.2.2.2.2.2.1 (a1J (a0s s.2.2.2.2.2.2.2.2.1) s.2.2.2.2.2.2.2.2.1 (a1K s (b1N s L)))
theorem c5E{s:Sub}(h:SmallS s){n:Int}{L:List Int}(hL:L.length<100000000):
  ∃(e:Int)(L':List Int),b7z (wL L,s,n)=some (e,wL L')∧(e=0∨L'=L)∧L'.length≤L.length+700000∧
   ((a3B s n).isSome=true→e=0∧∃zn,L'=a5p s zn L∧(s.1≠0∧s.1≠1→PartsOk s.2.2.2.2.2.2.2.2.2.1 n ((s.2.2.2.2.2.2.2.2.1.length:Nat):Int) s.2.2.2.2.2.2.2.2.2.2.1 zn))∧((a3B s n).isSome=false→e=1∧L'=L):=by
 unfold b7z;simp only[d2M h,oB];cases hs:(a3B s n).isSome with
 |false=>exact⟨1,L,rfl,.inr rfl,by omega,fun h=>(by cases h),fun _=>⟨rfl,rfl⟩⟩
 |true=>
  have hp:a1H s n:=by
   unfold a3B at hs
   split at hs
   assumption
   cases hs
  obtain⟨h1,h2,hf,-,-,-,-,hlen,hww,hrw,-,hparts⟩:=hp;have hkind:=b4X hf;have hwd:=a3K s.2.2.2.2.2.2.2.2.1;have hsw:short s.2.2.2.2.2.2.2.2.1:=by have:=h.warm;unfold short;omega
  have hwarm:=h.warm;have hrest:=h.rest;have hst:=h.stages;have ht:=h.taps;have q1:=a0v (wrap .u64 s.1) 3 L;have q2:=a0v (wrap .u64 s.2.1) 5 (a0o (wrap .u64 s.1) 3 L);have q3:=a0v ((a0s s.2.2.2.2.2.2.2.2.1:Nat):Int) 5 (a0o (wrap .u64 s.2.1) 5 (a0o (wrap .u64 s.1) 3 L));have ew:wrap .u64 ((a0s s.2.2.2.2.2.2.2.2.1:Nat):Int)=((a0s s.2.2.2.2.2.2.2.2.1:Nat):Int):=a1o (by omega);have p1:a0n (wL L,wrap .u64 s.1,(3:Int))=some (a2W (wrap .u64 s.1) 3,wL (a0o (wrap .u64 s.1) 3 L)):=a4C (n:=3) (by omega) (by omega);have p2:a0n (wL (a0o (wrap .u64 s.1) 3 L),wrap .u64 s.2.1,(5:Int))=some (a2W (wrap .u64 s.2.1) 5,wL (a0o (wrap .u64 s.2.1) 5 (a0o (wrap .u64 s.1) 3 L))):=a4C (n:=5) (by omega) (by omega);have p3:a0n (wL (a0o (wrap .u64 s.2.1) 5 (a0o (wrap .u64 s.1) 3 L)),((a0s s.2.2.2.2.2.2.2.2.1:Nat):Int),(5:Int))=some (a2W ((a0s s.2.2.2.2.2.2.2.2.1:Nat):Int) 5,wL (b1N s L)):=a4C (n:=5) (by omega) (by omega);have q4:(b1N s L).length≤L.length+13:=by unfold b1N;omega
  generalize hM:b1N s L=M at p3 q4;have q5:=c2p h M;have q6:=a5g (a0s s.2.2.2.2.2.2.2.2.1) s.2.2.2.2.2.2.2.2.1 (a1K s M);have q7:a0s s.2.2.2.2.2.2.2.2.1*s.2.2.2.2.2.2.2.2.1.length≤32*5000:=a84 hwd hwarm;have hwl:=c7w (l:=s.2.2.2.2.2.2.2.2.1) (n:=n) (s:=s) hwd (by omega) s.2.2.2.2.2.2.2.2.1.length 0 (a1K s M) (by omega) (by omega);simp only[nZ,a05]at hwl

  have hsl:=c3C (st:=s.2.2.2.2.2.2.2.1) (n:=n) (wd:=((a0s s.2.2.2.2.2.2.2.2.1:Nat):Int)) (s:=s) (by omega) s.2.2.2.2.2.2.2.1.length 0 (a0o (wrap .u64 ((s.2.2.2.2.2.2.2.1.length:Nat):Int)) 2 M) (by omega) (by have:=a0v (wrap .u64 ((s.2.2.2.2.2.2.2.1.length:Nat):Int)) 2 M;omega);have q8:=a0v (wrap .u64 (wrap .i64 (s.2.2.2.2.1-1))) 10 M;have q9:=a5g 8 s.2.2.2.2.2.2.1 (a0o (wrap .u64 (wrap .i64 (s.2.2.2.2.1-1))) 10 M);have htl:=c7v (t:=s.2.2.2.2.2.2.1) (n:=n) (wd:=((a0s s.2.2.2.2.2.2.2.2.1:Nat):Int)) (s:=s) ht 3 0 (a0o (wrap .u64 (wrap .i64 (s.2.2.2.2.1-1))) 10 M) (by omega) (by omega);simp only[nZ,a05]at hsl htl;have k2:a0n (wL M,wrap .u64 s.2.2.1,(3:Int))=some (a2W (wrap .u64 s.2.2.1) 3,wL (a0o (wrap .u64 s.2.2.1) 3 M)):=a4C (n:=3) (by omega) (by omega);have k4:a0n (wL M,wrap .u64 (wrap .i64 (s.2.2.2.2.1-1)),(10:Int))=some (a2W (wrap .u64 (wrap .i64 (s.2.2.2.2.1-1))) 10,wL (a0o (wrap .u64 (wrap .i64 (s.2.2.2.2.1-1))) 10 M)):=a4C (n:=10) (by omega) (by omega);have k5:a0n (wL M,wrap .u64 ((s.2.2.2.2.2.2.2.1.length:Nat):Int),(2:Int))=some (a2W (wrap .u64 ((s.2.2.2.2.2.2.2.1.length:Nat):Int)) 2,wL (a0o (wrap .u64 ((s.2.2.2.2.2.2.2.1.length:Nat):Int)) 2 M)):=a4C (n:=2) (by omega) (by omega);have c3:=c3D (s:=s) h.coefs (L:=M) (by omega);have c4:=c3D (s:=s) h.coefs (L:=a1J 8 s.2.2.2.2.2.2.1 (a0o (wrap .u64 (wrap .i64 (s.2.2.2.2.1-1))) 10 M)) (by omega);simp only[bT,cF,a7D hsw,oB,p1,p2,ew,p3];generalize hPM:a1J (a0s s.2.2.2.2.2.2.2.2.1) s.2.2.2.2.2.2.2.2.1 (a1K s M)=PM at hwl q6

  have tail:∀(hk01:s.1≠0∧s.1≠1),∃zn,PartsOk s.2.2.2.2.2.2.2.2.2.1 n ((s.2.2.2.2.2.2.2.2.1.length:Nat):Int) s.2.2.2.2.2.2.2.2.2.2.1 zn:=fun hk01=>by
   obtain⟨g1,g2⟩:=hparts hk01;rw[←hlen]at g1 g2;exact PartsOk.of g2 g1 hrw (by omega)
  rcases hkind with k|k|k|k|k|k;have kl:a1K s M=M:=by unfold a1K;simp[k]
  rw[kl]at hwl;refine⟨0,PM,?_,.inl rfl,by omega,fun _=>⟨rfl,[],by unfold a5p;rw[if_pos (by omega),hM,hPM],fun h=>absurd k (by omega)⟩,fun h=>by cases h⟩;simp only[k,show((0:Int)==2)=false from rfl,show((0:Int)==4)=false from rfl,show((0:Int)==3)=false from rfl,show((0:Int)==5)=false from rfl,cF,oB,hwl,b0e]
  simp
  have kl:a1K s M=M:=by unfold a1K;simp[k]
  rw[kl]at hwl;refine⟨0,PM,?_,.inl rfl,by omega,fun _=>⟨rfl,[],by unfold a5p;rw[if_pos (by omega),hM,hPM],fun h=>absurd k (by omega)⟩,fun h=>by cases h⟩;simp only[k,show((1:Int)==2)=false from rfl,show((1:Int)==4)=false from rfl,show((1:Int)==3)=false from rfl,show((1:Int)==5)=false from rfl,cF,oB,hwl,b0e]
  simp
  all_goals
   obtain⟨zn,hz⟩:=tail (by omega);have t1:=c9B (L:=PM) hz (by omega);have t3:(a3L s.2.2.2.2.2.2.2.2.2.1 zn s.2.2.2.2.2.2.2.2.2.2.1 PM).length≤L.length+700000:=by
    have z1:=a0v (wrap .u64 s.2.2.2.2.2.2.2.2.2.1.1) 4 PM;have z2:=b5q zn s.2.2.2.2.2.2.2.2.2.1.2.1 s.2.2.2.2.2.2.2.2.2.2.1 (a0o (wrap .u64 s.2.2.2.2.2.2.2.2.2.1.1) 4 PM) hz.all;have z3:=hz.len;unfold a3L;omega
   refine⟨0,a3L s.2.2.2.2.2.2.2.2.2.1 zn s.2.2.2.2.2.2.2.2.2.2.1 PM,?_,.inl rfl,t3,fun _=>⟨rfl,zn,by unfold a5p;rw[if_neg (by omega),hM,hPM],fun _=>hz⟩,fun h=>by cases h⟩
  have kl:a1K s M=a0o (wrap .u64 s.2.2.1) 3 M:=by unfold a1K;simp[k]
  rw[kl]at hwl;simp only[k,show((2:Int)==2)=true from rfl,cT,k2,oB,hwl,b0e];simp[t1];have kl:a1K s M=a6A s M:=by unfold a1K;simp[k]
  rw[kl]at hwl;simp only[k,show((3:Int)==2)=false from rfl,show((3:Int)==4)=false from rfl,show((3:Int)==3)=true from rfl,cT,cF,c3,oB,hwl,b0e];simp[t1];have kl:a1K s M=a6A s (a1J 8 s.2.2.2.2.2.2.1 (a0o (wrap .u64 (wrap .i64 (s.2.2.2.2.1-1))) 10 M)):=by unfold a1K;simp[k]
  rw[kl]at hwl;simp only[k,show((4:Int)==2)=false from rfl,show((4:Int)==4)=true from rfl,cT,cF,k4,htl,c4,oB,hwl,b0e];simp[t1];have kl:a1K s M=a4s s.2.2.2.2.2.2.2.1 (a0o (wrap .u64 ((s.2.2.2.2.2.2.2.1.length:Nat):Int)) 2 M):=by unfold a1K;simp[k]
  rw[kl]at hwl;simp only[k,show((5:Int)==2)=false from rfl,show((5:Int)==4)=false from rfl,show((5:Int)==3)=false from rfl,show((5:Int)==5)=true from rfl,cT,cF,k5,hsl,oB,hwl,b0e];simp[t1]
theorem d2O{s:Sub}(h:SmallS s){n:Int}{L:List Int}(hL:L.length<100000000):
  ∃(e:Int)(L':List Int),b3i ((L,()),s,n)=some (e,L',())∧(e=0∨L'=L)∧L'.length≤L.length+700000∧
   ((a3B s n).isSome=true→e=0∧∃zn,L'=a5p s zn L∧(s.1≠0∧s.1≠1→PartsOk s.2.2.2.2.2.2.2.2.2.1 n ((s.2.2.2.2.2.2.2.2.1.length:Nat):Int) s.2.2.2.2.2.2.2.2.2.2.1 zn))∧((a3B s n).isSome=false→e=1∧L'=L):=by
 unfold b3i;simp only[c7W h,oB];cases hs:(a3B s n).isSome with
 |false=>exact⟨1,L,rfl,.inr rfl,by omega,fun h=>(by cases h),fun _=>⟨rfl,rfl⟩⟩
 |true=>
  have hp:a1H s n:=by
   unfold a3B at hs
   split at hs
   assumption
   cases hs
  obtain⟨h1,h2,hf,-,-,-,-,hlen,hww,hrw,-,hparts⟩:=hp;have hkind:=b4X hf;have hwd:=a3K s.2.2.2.2.2.2.2.2.1;have hsw:short s.2.2.2.2.2.2.2.2.1:=by have:=h.warm;unfold short;omega
  have hwarm:=h.warm;have hrest:=h.rest;have hst:=h.stages;have ht:=h.taps;have q1:=a0v (wrap .u64 s.1) 3 L;have q2:=a0v (wrap .u64 s.2.1) 5 (a0o (wrap .u64 s.1) 3 L);have q3:=a0v ((a0s s.2.2.2.2.2.2.2.2.1:Nat):Int) 5 (a0o (wrap .u64 s.2.1) 5 (a0o (wrap .u64 s.1) 3 L));have ew:wrap .u64 ((a0s s.2.2.2.2.2.2.2.2.1:Nat):Int)=((a0s s.2.2.2.2.2.2.2.2.1:Nat):Int):=a1o (by omega);have r1:a0t ((L,()),wrap .u64 s.1,(3:Int))=some (a2W (wrap .u64 s.1) 3,a0o (wrap .u64 s.1) 3 L,()):=a1Z (n:=3) (by omega) (by omega);have r2:a0t ((a0o (wrap .u64 s.1) 3 L,()),wrap .u64 s.2.1,(5:Int))=some (a2W (wrap .u64 s.2.1) 5,a0o (wrap .u64 s.2.1) 5 (a0o (wrap .u64 s.1) 3 L),()):=a1Z (n:=5) (by omega) (by omega);have r3:a0t ((a0o (wrap .u64 s.2.1) 5 (a0o (wrap .u64 s.1) 3 L),()),((a0s s.2.2.2.2.2.2.2.2.1:Nat):Int),(5:Int))=some (a2W ((a0s s.2.2.2.2.2.2.2.2.1:Nat):Int) 5,b1N s L,()):=a1Z (n:=5) (by omega) (by omega);have q4:(b1N s L).length≤L.length+13:=by unfold b1N;omega
  generalize hM:b1N s L=M at r3 q4;have q5:=c2p h M;have q6:=a5g (a0s s.2.2.2.2.2.2.2.2.1) s.2.2.2.2.2.2.2.2.1 (a1K s M);have q7:a0s s.2.2.2.2.2.2.2.2.1*s.2.2.2.2.2.2.2.2.1.length≤32*5000:=a84 hwd hwarm;have hrl:=a8I (l:=s.2.2.2.2.2.2.2.2.1) (n:=a0s s.2.2.2.2.2.2.2.2.1) (L:=a1K s M) (by omega) (by omega) (by omega)

  have hrsl:=b7M (n:=n) (wd:=((a0s s.2.2.2.2.2.2.2.2.1:Nat):Int)) (s:=s) (by omega) s.2.2.2.2.2.2.2.1.length 0 (a0o (wrap .u64 ((s.2.2.2.2.2.2.2.1.length:Nat):Int)) 2 M) (by omega) (by have:=a0v (wrap .u64 ((s.2.2.2.2.2.2.2.1.length:Nat):Int)) 2 M;omega);have q8:=a0v (wrap .u64 (wrap .i64 (s.2.2.2.2.1-1))) 10 M;have q9:=a5g 8 s.2.2.2.2.2.2.1 (a0o (wrap .u64 (wrap .i64 (s.2.2.2.2.1-1))) 10 M);have hrtl:a3H ((a0o (wrap .u64 (wrap .i64 (s.2.2.2.2.1-1))) 10 M,()),s.2.2.2.2.2.2.1,(8:Int))=some (a1J 8 s.2.2.2.2.2.2.1 (a0o (wrap .u64 (wrap .i64 (s.2.2.2.2.1-1))) 10 M),()):=a8I (n:=8) (by omega) (by omega) (by omega);have etk:a70 3 s.2.2.2.2.2.2.1=s.2.2.2.2.2.2.1:=a28 (by omega);simp only[nZ,a05]at hrsl;have k2r:a0t ((M,()),wrap .u64 s.2.2.1,(3:Int))=some (a2W (wrap .u64 s.2.2.1) 3,a0o (wrap .u64 s.2.2.1) 3 M,()):=a1Z (n:=3) (by omega) (by omega);have k4r:a0t ((M,()),wrap .u64 (wrap .i64 (s.2.2.2.2.1-1)),(10:Int))=some (a2W (wrap .u64 (wrap .i64 (s.2.2.2.2.1-1))) 10,a0o (wrap .u64 (wrap .i64 (s.2.2.2.2.1-1))) 10 M,()):=a1Z (n:=10) (by omega) (by omega);have k5r:a0t ((M,()),wrap .u64 ((s.2.2.2.2.2.2.2.1.length:Nat):Int),(2:Int))=some (a2W (wrap .u64 ((s.2.2.2.2.2.2.2.1.length:Nat):Int)) 2,a0o (wrap .u64 ((s.2.2.2.2.2.2.2.1.length:Nat):Int)) 2 M,()):=a1Z (n:=2) (by omega) (by omega);have c3r:=b6Z (s:=s) h.coefs (L:=M) (by omega);have c4r:=b6Z (s:=s) h.coefs (L:=a1J 8 s.2.2.2.2.2.2.1 (a0o (wrap .u64 (wrap .i64 (s.2.2.2.2.1-1))) 10 M)) (by omega);simp only[bT,cF,b0f hsw,oB,r1,r2,ew,r3];generalize hPM:a1J (a0s s.2.2.2.2.2.2.2.2.1) s.2.2.2.2.2.2.2.2.1 (a1K s M)=PM at hrl q6

  have tail:∀(hk01:s.1≠0∧s.1≠1),∃zn,PartsOk s.2.2.2.2.2.2.2.2.2.1 n ((s.2.2.2.2.2.2.2.2.1.length:Nat):Int) s.2.2.2.2.2.2.2.2.2.2.1 zn:=fun hk01=>by
   obtain⟨g1,g2⟩:=hparts hk01;rw[←hlen]at g1 g2;exact PartsOk.of g2 g1 hrw (by omega)
  rcases hkind with k|k|k|k|k|k;have kl:a1K s M=M:=by unfold a1K;simp[k]
  rw[kl]at hrl;refine⟨0,PM,?_,.inl rfl,by omega,fun _=>⟨rfl,[],by unfold a5p;rw[if_pos (by omega),hM,hPM],fun h=>absurd k (by omega)⟩,fun h=>by cases h⟩;simp only[k,show((0:Int)==2)=false from rfl,show((0:Int)==4)=false from rfl,show((0:Int)==3)=false from rfl,show((0:Int)==5)=false from rfl,cF,oB,hrl,a5S]
  simp
  have kl:a1K s M=M:=by unfold a1K;simp[k]
  rw[kl]at hrl;refine⟨0,PM,?_,.inl rfl,by omega,fun _=>⟨rfl,[],by unfold a5p;rw[if_pos (by omega),hM,hPM],fun h=>absurd k (by omega)⟩,fun h=>by cases h⟩;simp only[k,show((1:Int)==2)=false from rfl,show((1:Int)==4)=false from rfl,show((1:Int)==3)=false from rfl,show((1:Int)==5)=false from rfl,cF,oB,hrl,a5S]
  simp
  all_goals
   obtain⟨zn,hz⟩:=tail (by omega);have t2:=c5C (L:=PM) hz (by omega);have t3:(a3L s.2.2.2.2.2.2.2.2.2.1 zn s.2.2.2.2.2.2.2.2.2.2.1 PM).length≤L.length+700000:=by
    have z1:=a0v (wrap .u64 s.2.2.2.2.2.2.2.2.2.1.1) 4 PM;have z2:=b5q zn s.2.2.2.2.2.2.2.2.2.1.2.1 s.2.2.2.2.2.2.2.2.2.2.1 (a0o (wrap .u64 s.2.2.2.2.2.2.2.2.2.1.1) 4 PM) hz.all;have z3:=hz.len;unfold a3L;omega
   refine⟨0,a3L s.2.2.2.2.2.2.2.2.2.1 zn s.2.2.2.2.2.2.2.2.2.2.1 PM,?_,.inl rfl,t3,fun _=>⟨rfl,zn,by unfold a5p;rw[if_neg (by omega),hM,hPM],fun _=>hz⟩,fun h=>by cases h⟩
  have kl:a1K s M=a0o (wrap .u64 s.2.2.1) 3 M:=by unfold a1K;simp[k]
  rw[kl]at hrl;simp only[k,show((2:Int)==2)=true from rfl,cT,k2r,oB,hrl,a5S];simp[t2];have kl:a1K s M=a6A s M:=by unfold a1K;simp[k]
  rw[kl]at hrl;simp only[k,show((3:Int)==2)=false from rfl,show((3:Int)==3)=true from rfl,cT,cF,c3r,oB,hrl,a5S];simp[t2];have kl:a1K s M=a6A s (a1J 8 s.2.2.2.2.2.2.1 (a0o (wrap .u64 (wrap .i64 (s.2.2.2.2.1-1))) 10 M)):=by unfold a1K;simp[k]
  rw[kl]at hrl;simp only[k,show((4:Int)==2)=false from rfl,show((4:Int)==3)=false from rfl,show((4:Int)==4)=true from rfl,cT,cF,k4r,etk,hrtl,c4r,oB,hrl,a5S];simp[t2];have kl:a1K s M=a4s s.2.2.2.2.2.2.2.1 (a0o (wrap .u64 ((s.2.2.2.2.2.2.2.1.length:Nat):Int)) 2 M):=by unfold a1K;simp[k]
  rw[kl]at hrl;simp only[k,show((5:Int)==2)=false from rfl,show((5:Int)==4)=false from rfl,show((5:Int)==3)=false from rfl,show((5:Int)==5)=true from rfl,cT,cF,k5r,hrsl,oB,hrl,a5S];simp[t2]
theorem b4A(zn:List Nat):(a1y zn).map a42=zn:=by
 unfold a1y;rw[List.map_map]
 have:a42∘(fun(a:Nat)=>(a:Int))=id:=by funext a;simp
 rw[this,List.map_id]
end Go.Ab
namespace Go.Ab
set_option maxRecDepth 100000 in
theorem d2P:b8v ()=some true:=by kernel_rfl
end Go.Ab
namespace Go.Ab
def a4w(s:Sub)(n:Int):Int:=
 if(a3B s n).isSome=true then(((a5p s ((a0U s.2.2.2.2.2.2.2.2.2.1.1 n ((s.2.2.2.2.2.2.2.2.1.length:Nat):Int)).map a42) []).length:Nat):Int)else 0
theorem c6F{s:Sub}{n:Int}{zn:List Nat}(hz:s.1≠0∧s.1≠1→PartsOk s.2.2.2.2.2.2.2.2.2.1 n ((s.2.2.2.2.2.2.2.2.1.length:Nat):Int) s.2.2.2.2.2.2.2.2.2.2.1 zn)(L:List Int):
  a5p s zn L=a5p s ((a0U s.2.2.2.2.2.2.2.2.2.1.1 n ((s.2.2.2.2.2.2.2.2.1.length:Nat):Int)).map a42) L:=by
 by_cases hk:s.1=0∨s.1=1
 unfold a5p;rw[if_pos hk,if_pos hk];rw[(hz (not_or.1 hk)).sizes,b4A]
theorem d6W{s:Sub}(h:SmallS s)(n:Int):b2W (s,n)=some (a4w s n):=by
 obtain⟨e,L',h1,-,-,h4,h5⟩:=c5E h (n:=n) (L:=[]) (by simp);have hw:wL []=(([]:List Int),(0:Int),()):=rfl;rw[hw]at h1;obtain⟨w1,-⟩:=c9v L';unfold b2W a4w;simp only[h1,oB,b0V];cases hs:(a3B s n).isSome with
 |false=>
  obtain⟨rfl,rfl⟩:=h5 hs;rfl
 |true=>
  obtain⟨rfl,zn,rfl,hz⟩:=h4 hs;rw[if_pos rfl,←c6F hz];simp only[w1,show((0:Int) != 0)=false from rfl,cF]
theorem d0F{s:Sub}(h:SmallS s)(n:Int):b1K (s,n)=some (a4w s n):=by
 obtain⟨e,L',h1,-,-,h4,h5⟩:=d2O h (n:=n) (L:=[]) (by simp);unfold b1K a4w;simp only[h1,oB,b3j];cases hs:(a3B s n).isSome with
 |false=>
  obtain⟨rfl,rfl⟩:=h5 hs;rfl
 |true=>
  obtain⟨rfl,zn,rfl,hz⟩:=h4 hs;rw[if_pos rfl,←c6F hz]
end Go.Ab
namespace Go.Ab
end Go.Ab
namespace Go.Ab
open IntKind(wrap)
def dif:List Int→List Int
 |a::b::r=>W (b-a)::dif (b::r)
 |_=>[]
theorem a4l:∀l:List Int,(dif l).length=l.length-1
 | []=>rfl
 | [_]=>rfl
 |a::b::r=>by simp[dif,a4l (b::r)]
theorem c2M:∀(l:List Int)(i:Nat)(x y:Int),l[i]?=some x→l[i+1]?=some y→(dif l)[i]?=some (W (y-x))
 |a::b::r,0,x,y,h1,h2=>by simp at h1 h2;subst h1;subst h2;rfl
 |a::b::r,i+1,x,y,h1,h2=>by
  simp only[dif,List.getElem?_cons_succ]at h1 h2⊢;exact c2M (b::r) i x y h1 h2
 | [_],0,x,y,h1,h2=>by simp at h2
 | [_],i+1,x,y,h1,h2=>by simp at h1
 | [],i,x,y,h1,h2=>by simp at h1
def a1I:Nat→List Int→List Int
 |0,l=>l
 |o+1,l=>dif (a1I o l)
theorem a5Y(l:List Int):∀o,(a1I o l).length=l.length-o
 |0=>rfl
 |o+1=>by simp only[a1I,a4l,a5Y l o];omega
theorem b3v{l:List Int}(h:short l)(o:Nat):short (a1I o l):=by
 have h:l.length<1000000:=h;show(a1I o l).length<1000000;rw[a5Y];omega
def b3w(l:List Int)(i:Nat):List Int:=(dif l).take i++l.drop i
theorem b8F{l:List Int}{i:Nat}(h:i≤l.length-1):(b3w l i).length=l.length:=by
 simp only[b3w,lN,a04,a09,a4l];omega
theorem c7x{l:List Int}{i j:Nat}(h:i≤l.length-1)(hj:i≤j):(b3w l i).getD j 0=l.getD j 0:=by
 have e:((dif l).take i).length=i:=by rw[a04,a4l];omega
 rw[lD,lD,b3w,a67 (by omega),e,a93];congr 2;omega
theorem d5t{l:List Int}{i:Nat}(h:i<l.length-1):(b3w l i).set i (W (l.getD (i+1) 0-l.getD i 0))=b3w l (i+1):=by
 have e:((dif l).take i).length=i:=by rw[a04,a4l];omega
 have h1:l[i]?=some l[i]:=lG (by omega);have h2:l[i+1]?=some l[i+1]:=lG (by omega);have hd:=c2M l i _ _ h1 h2;have hlt:i<(dif l).length:=by rw[a4l];omega
 simp only[b3w];rw[List.set_append,if_neg (by omega),e,a98,a01 (show i<l.length by omega),a64,a54 hlt,aA];have e2:(dif l)[i]=W (l.getD (i+1) 0-l.getD i 0):=by
  rw[lG hlt]at hd;rw[Option.some.inj hd,lD,lD,h1,h2];rfl
 rw[e2];rfl
theorem d2Q{l:List Int}{o k:Int}(hs:short l)(h:1≤l.length):a0e a7e ((0:Int),o,k,l,())=some (o,k,b3w l (l.length-1),()):=by
 have hs:l.length<1000000:=hs;have h0:b3w l 0=l:=by simp[b3w]
 have:=a0G (f:=a7e) (fun i:Nat=>((i:Int),o,k,b3w l i,())) (l.length-1) (b:=(o,k,b3w l (l.length-1),()))
  (fun i hi=>by
   have w1:wrap .i64 ((i:Int)+1)=((i+1:Nat):Int):=a0c (by omega);have hl:=b8F (l:=l) (i:=i) (by omega);have d0:decide (((i+1:Nat):Int)<((l.length:Nat):Int))=true:=by simp;omega
   have d1:decide ((0:Int)≤((i+1:Nat):Int))=true:=by simp;omega
   have d2:decide ((0:Int)≤(i:Int))=true:=by simp
   have d3:decide ((i:Int)<((l.length:Nat):Int))=true:=by simp;omega
   have n1:a42 ((i+1:Nat):Int)=i+1:=by omega
   have n2:a42 (i:Int)=i:=by omega
   have st:=d5t (l:=l) (i:=i) (by omega);have g1:=c7x (l:=l) (i:=i) (j:=i+1) (by omega) (by omega);have g2:=c7x (l:=l) (i:=i) (j:=i) (by omega) (by omega);simp only[W]at st;simp only[a7e,w1,hl,d0,d1,d2,d3,n1,n2,g1,g2,st,a02,cT])
  (by
   have hl:=b8F (l:=l) (i:=l.length-1) (by omega);have w1:wrap .i64 (((l.length-1:Nat):Int)+1)=((l.length:Nat):Int):=by rw[a0l (by omega)];omega
   have d0:decide (((l.length:Nat):Int)<((l.length:Nat):Int))=false:=by simp
   simp only[a7e,w1,hl,d0,cF])
 simp only[nZ,a44,h0]at this;exact this
theorem d4k{l:List Int}:(b3w l (l.length-1)).take (l.length-1)=dif l:=by
 have e:(dif l).take (l.length-1)=dif l:=a28 (by rw[a4l];omega);rw[b3w,e,List.take_append_of_le_length (by rw[a4l];omega),e]
theorem b5r{l:List Int}{o:Nat}(ho:o≤4)(hn:o≤l.length)(hs:short l)(hw:l.all a0b=true):
  a3Y (l,(o:Int))=some (bif (a1I o l).all a0b then(a1I o l,0)else([],6)):=by
 have hs':l.length<1000000:=hs;have loop:=a0G (f:=a9w) (fun k:Nat=>((o:Int),(k:Int),a1I k l,())) o (b:=(a1I o l,()))
  (fun k hk=>by
   have hk1:1≤(a1I k l).length:=by rw[a5Y];omega
   have hks:(a1I k l).length<1000000:=b3v hs k;have d0:decide ((k:Int)<(o:Int))=true:=by simp;omega
   have hm:=b8F (l:=a1I k l) (i:=(a1I k l).length-1) (by omega);have w1:wrap .i64 ((((a1I k l).length:Nat):Int)-1)=(((a1I k l).length-1:Nat):Int):=by rw[a0l (by omega)];omega
   have w2:wrap .i64 ((k:Int)+1)=((k+1:Nat):Int):=a0c (by omega);have d1:decide ((0:Int)≤(((a1I k l).length-1:Nat):Int))=true:=by simp
   have d2:decide ((((a1I k l).length-1:Nat):Int)≤(((a1I k l).length:Nat):Int))=true:=by simp
   have d3:decide ((a1I k l).length-1≤(a1I k l).length)=true:=by simp
   have n1:a42 (((a1I k l).length-1:Nat):Int)=(a1I k l).length-1:=by omega
   simp only[a9w,d0,cT,d2Q (b3v hs k) hk1,oB,hm,w1,w2,d1,d2,d3,n1,a02,d4k,a1I])
  (by
   have d0:decide ((o:Int)<(o:Int))=false:=by simp
   simp only[a9w,d0,cF])
 have c1:decide ((o:Int)<0)=false:=by simp
 have c2:decide ((o:Int) > 4)=false:=by simp;omega
 have c3:decide (((l.length:Nat):Int)<(o:Int))=false:=by simp;omega
 have c4:lim l.length=true:=a9Z (by omega);simp only[nZ,a44]at loop;have e0:a1I 0 l=l:=rfl;rw[e0]at loop;unfold a3Y;simp only[c1,c2,c3,c4,cF,cT,oB,a9c hs,hw,bT,loop,a9c (b3v hs o)];cases (a1I o l).all a0b<;>rfl
def ex:Nat→(Nat→Int)→Nat→Int
 |0,f,i=>f i
 |o+1,f,i=>ex o f (i+1)-ex o f i
theorem c4k{l:List Int}(hw:l.all a0b=true):∀(o i:Nat),i+o<l.length→(a1I o l)[i]?=some (W (ex o (fun j=>l.getD j 0) i))
 |0,i,h=>by
  have h:i<l.length:=by omega
  have e:l.getD i 0=l[i]:=by simp[lD,h]
  simp only[a1I,ex,e];rw[lG h,b7I (lA.1 hw _ (a08 h))]
 |o+1,i,h=>by
  have h1:=c4k hw o i (by omega);have h2:=c4k hw o (i+1) (by omega);simp only[a1I,ex];rw[c2M _ i _ _ h1 h2];simp only[W,a8t,Int.sub_bmod_bmod,Int.bmod_sub_bmod]
theorem d4l{l:List Int}(hw:l.all a0b=true){o j:Nat}(ho:o≤4)(h:o+j<l.length):W (W (ex o (fun j=>l.getD j 0) j)+a3y o (l.take (o+j)))=l.getD (o+j) 0:=by
 have hwide:a0b (l.getD (o+j) 0)=true:=by
  have e:l.getD (o+j) 0=l[o+j]:=by simp[lD,h]
  rw[e];exact lA.1 hw _ (a08 h)
 have at_eq:∀i:Nat,1≤i→i≤o→atB (l.take (o+j)) i=l.getD (o+j-i) 0:=fun i h1 h2=>by
  simp only[atB,a04,a57 (a76 h),lD,List.getElem?_take];rw[if_pos (by omega)]
 have key:ex o (fun j=>l.getD j 0) j+a3y o (l.take (o+j))=l.getD (o+j) 0:=by
  have h5:o=0∨o=1∨o=2∨o=3∨o=4:=by omega
  rcases h5 with rfl|rfl|rfl|rfl|rfl;simp[ex,a3y];simp only[ex,a3y,at_eq 1 (by omega) (by omega)];have e1:1+j-1=j:=by omega
  have e2:j+1=1+j:=by omega
  rw[e1,e2];omega;simp only[ex,a3y,at_eq 1 (by omega) (by omega),at_eq 2 (by omega) (by omega)];have e1:2+j-1=j+1:=by omega
  have e2:2+j-2=j:=by omega
  have e3:j+1+1=2+j:=by omega
  rw[e1,e2,e3];omega;simp only[ex,a3y,at_eq 1 (by omega) (by omega),at_eq 2 (by omega) (by omega),at_eq 3 (by omega) (by omega)];have e1:3+j-1=j+1+1:=by omega
  have e2:3+j-2=j+1:=by omega
  have e3:3+j-3=j:=by omega
  have e4:j+1+1+1=3+j:=by omega
  rw[e1,e2,e3,e4];omega;simp only[ex,a3y,at_eq 1 (by omega) (by omega),at_eq 2 (by omega) (by omega),at_eq 3 (by omega) (by omega),at_eq 4 (by omega) (by omega)];have e1:4+j-1=j+1+1+1:=by omega
  have e2:4+j-2=j+1+1:=by omega
  have e3:4+j-3=j+1:=by omega
  have e4:4+j-4=j:=by omega
  have e5:j+1+1+1+1=4+j:=by omega
  rw[e1,e2,e3,e4,e5];omega
 have:W (W (ex o (fun j=>l.getD j 0) j)+a3y o (l.take (o+j)))=W (ex o (fun j=>l.getD j 0) j+a3y o (l.take (o+j))):=by
  simp only[W,a8t,b03]
 rw[this,key,b7I hwide]
theorem c9C{l:List Int}(hw:l.all a0b=true){o:Nat}(ho:o≤4):∀(k j:Nat),o+j+k=l.length→a4k (a3y o) ((a1I o l).drop j) (l.take (o+j))=some l
 |0,j,h=>by
  rw[List.drop_of_length_le (by rw[a5Y];omega),a28 (by omega)];rfl
 |k+1,j,h=>by
  have hlt:j<(a1I o l).length:=by rw[a5Y];omega
  have hg:=c4k hw o j (by omega);rw[lG hlt]at hg;have e:=Option.some.inj hg;have e2:l.getD (o+j) 0=l[o+j]:=by simp[lD,show o+j<l.length by omega]
  have st:=d4l hw ho (show o+j<l.length by omega);rw[e2]at st;rw[a01 hlt,e];simp only[a4k,st,lA.1 hw _ (a08 (show o+j<l.length by omega)),cT];have et:l.take (o+j)++[l[o+j]]=l.take (o+(j+1)):=by
   rw[show o+(j+1)=(o+j)+1 by omega]
   simp
  rw[et];exact c9C hw ho k (j+1) (by omega)
end Go.Ab
namespace Go.Ab
open IntKind(wrap)
theorem a9p{σ β:Type}{f:σ→Option (σ ⊕ β)}(I:Nat→σ→Prop)(Q:β→Prop)(n:Nat)(hstep:∀i s,i<n→I i s→∃s',f s=some (.inl s')∧I (i+1) s')
  (hexit:∀s,I n s→∃b,f s=some (.inr b)∧Q b):∀(k i:Nat)(s:σ),i+k=n→I i s→∃b,a0e f s=some b∧Q b
 |0,i,s,h,hi=>by
  obtain rfl:i=n:=by omega
  obtain⟨b,h1,h2⟩:=hexit s hi;exact⟨b,a0h h1,h2⟩
 |k+1,i,s,h,hi=>by
  obtain⟨s',h1,h2⟩:=hstep i s (by omega) hi;rw[a0k h1];exact a9p I Q n hstep hexit k (i+1) s' (by omega) h2
theorem c3E(y:Int):0≤wrap .u64 y∧wrap .u64 y<18446744073709551616:=by
 simp only[wrap,IntKind.bits,IntKind.signed]
 simp
 omega
def b4B(n:Int)(x:Int):Bool:=a0b x&&!(a92 x (a0D .i64 1 n) != 0)
def c0i{β:Type}(n:Int)(bad:β)(out:List Int)(x:Int):List Int ⊕ β:=bif b4B n x then .inl (out++[a0m .i64 x n])else .inr bad
def b3x(n:Int)(l:List Int):Option (List Int):=bif l.all (b4B n)then some (l.map fun x=>a0m .i64 x n)else none
theorem c0U{β:Type}(n:Int)(bad:β)(fin:List Int→β):∀(l out:List Int),b3k fin (a3s (c0i n bad) l out)=match b3x n l with|some r=>fin (out++r)|none=>bad
 | [],out=>by simp[a3s,b3k,b3x]
 |x::l,out=>by
  simp only[a3s,c0i,b3x,a23];cases hx:b4B n x with
  |true=>
   simp only[cT,a21];rw[c0U n bad fin l _];simp only[b3x];cases l.all (b4B n)with
   |true=>simp
   |false=>rfl
  |false=>rfl
theorem d2R{o:Nat}(h:o≤30):a0D .i64 1 (o:Int)=((2^o:Nat):Int):=by
 have h2:2^o≤2^30:=a25 (by omega) h
 have:=c0d (N:=1) (o:=o) (by omega) (by omega)
 simpa using this
theorem b9q{l:List Int}{o:Nat}(h1:o≤30)(hr:l.length<100000):a8R (l,(o:Int))=some (a1d (b3x (o:Int) l)):=by
 have hsr:short l:=by unfold short;omega
 have g1:¬ (o:Int)<0:=by omega
 have g2:¬ (o:Int) > 30:=by omega
 have g3:(a0D .i64 (1:Int) (o:Int)==0)=false:=by
  rw[d2R h1]
  have:0<2^o:=a29 o
  simp only[beq_eq_false_iff_ne,ne_eq];omega
 unfold a8R;simp only[g1,g2,decide_false,cF,oB]
 have:=a2F (f:=a8w) l (fun i out=>((o:Int),l,(l.length:Int),(i:Int),out,())) (c0i (o:Int) (Sum.inr ((6:Int),([]:List Int),())))
  (fun i out=>out.length=i) (fun out=>Sum.inl (out,()))
  (fun i h out hI=>by
   have hlt:i<1000000:=by omega
   simp only[a8w,dlt h,cT,a0d h,oB,b9j,c0i,b4B,g1,g3,decide_false,cF];cases hb:a0b l[i]with
   |true=>
    cases hb2:(a92 l[i] (a0D .i64 1 (o:Int)) != 0)with
    |false=>
     simp only[cT,bT,cF,oB,g1,decide_false,a0q (show out.length+1<1000000 by omega),a0c hlt,a02,a07,hb2];refine⟨fun a' ha=>?_,fun b hb=>(by cases hb)⟩;simp only[Sum.inl.injEq]at ha;subst ha;exact⟨rfl,by simp;omega⟩
    |true=>
     refine⟨fun a' ha=>(by simp at ha),fun b hb=>?_⟩;simp only[a21,bT,cF,Sum.inr.injEq]at hb;subst hb;simp[hb2]
   |false=>
    refine⟨fun a' ha=>(by simp at ha),fun b hb=>?_⟩;simp only[a33,cF,Sum.inr.injEq]at hb;subst hb;rfl)
  (fun out _=>by simp[a8w]) (a:=[]) rfl
 simp only[nZ,c0U,a17]at this;rw[this];cases b3x (o:Int) l<;>rfl
theorem c4l{o:Nat}(h:o≤30){x:Int}(hx:b4B (o:Int) x=true):a0b (a0m .i64 x (o:Int))=true∧a0D .i64 (a0m .i64 x (o:Int)) (o:Int)=x∧a0b x=true:=by
 simp only[b4B,d2R h,bA,a37,bne_eq_false_iff_eq]at hx;obtain⟨hw,hm⟩:=hx;obtain⟨c,rfl⟩:=Int.dvd_of_tmod_eq_zero hm;have hw':=a3h.1 hw;have e:min (a42 (o:Int)) (IntKind.bits .i64)=o:=by simp only[tN,IntKind.bits];omega
 have hp:(0:Int)<2^o:=Int.pow_pos (by omega);have ep:((2^o:Nat):Int)=2^o:=by simp
 rw[ep]at hw' hw⊢;have e1:a0m .i64 (2^o*c) (o:Int)=c:=by
  unfold a0m;rw[e];exact a71 _ (by omega)
 rw[e1];refine⟨a3h.2 ?_,?_,hw⟩;generalize (2:Int)^o=p at hp hw';have hs:p*c=(p-1)*c+c:=by rw[b06];omega
 by_cases hc:0≤c
 have:=a62 (show 0≤p-1 by omega) hc
 omega
 have:=a62 (show 0≤p-1 by omega) (show 0≤-c by omega)
 rw[Int.mul_neg]at this;omega;unfold a0D;rw[e,a99];exact a0l (by omega)
theorem d6X{o:Nat}(h:o≤30){l d:List Int}(hd:b3x (o:Int) l=some d):d.all a0b=true∧d.length=l.length∧upO (o:Int) d=some l:=by
 unfold b3x at hd;cases ha:l.all (b4B (o:Int))with
 |false=>rw[ha]at hd;cases hd
 |true=>
  rw[ha]at hd;simp only[cT,sj]at hd;subst hd;have hall:=lA.1 ha;refine⟨?_,by simp,?_⟩;simp only[List.all_map];exact lA.2 fun x hx=>(c4l h (hall x hx)).1;have e1:(l.map fun x=>a0m .i64 x (o:Int)).all (fun x=>a0b x&&a0b (a0D .i64 x (o:Int)))=true:=by
   simp only[List.all_map];refine lA.2 fun x hx=>?_
   obtain⟨h1,h2,h3⟩:=c4l h (hall x hx);simp only[Function.comp,h1,h2,h3,a02]
  unfold upO;rw[e1];simp only[cT,sj,List.map_map];have em:l.map ((fun x=>a0D .i64 x (o:Int))∘fun x=>a0m .i64 x (o:Int))=l.map id:=List.map_congr_left (fun x hx=>(c4l h (hall x hx)).2.1);rw[em,List.map_id]
end Go.Ab
namespace Go.Ab
theorem d2S{n warm:Int}(h:a3z n warm=true):(a0U 0 n warm).length≠0:=by
 have h':=h;simp only[a3z,bA,dT]at h';unfold a0U b3r;have e:((n.toNat / 2^(0:Int).toNat:Nat):Int)=n:=by simp;omega
 have e2:n.toNat%2^(0:Int).toNat=0:=by simp;omega
 simp only[h,e,e2];simp[h'.2.2.2]
end Go.Ab
namespace Go.Ab
open IntKind(wrap)
theorem a8K{N n:Nat}(hn:n≤63)(h:N<2^n)(L:List Int):(a0o (N:Int) n L).length=L.length+n:=by
 unfold a0o;rw[a8u (N:=N) (o:=n) (by omega),Nat.div_eq_of_lt h];simp[c2k]
def a3i(k:Nat)(x:Int):Nat:=if a0z x / 2^k<32 then a0z x / 2^k+1+k else 65
theorem c4m{k:Nat}(hk:k≤25)(x:Int):a3i k x≤65:=by
 unfold a3i;split;rename_i h;generalize a0z x / 2^k=q at h;omega;omega
theorem d4m{k:Nat}(hk:k≤25){x:Int}(hw:a0b x=true)(L:List Int):(a8J k x L).length=L.length+a3i k x:=by
 unfold a8J a3i;have hp:0<2^k:=a29 k;have hm:a0z x%2^k<2^k:=b18 _ hp;have hf:=b2f hw;split;rw[a8K (by omega) hm,a7C];omega;rw[a8K (n:=32) (by omega) (by omega),a7C]
theorem c5F{k:Nat}(hk:k≤25):∀(l L:List Int),l.all a0b=true→(a5K k l L).length=L.length+(l.map (a3i k)).sum
 | [],L,_=>by simp[a5K]
 |x::l,L,h=>by
  simp only[a23,bA]at h;have e:a5K k (x::l) L=a5K k l (a8J k x L):=rfl;rw[e,c5F hk l _ h.2,d4m hk h.1,a69,a49];omega
theorem c9D{k:Nat}(hk:k≤25){x:Int}(hw:a0b x=true):a9l ((k:Int),x)=some ((a3i k x:Nat):Int):=by
 have hy:=b2f hw;have eq:a0m .u64 ((a0z x:Nat):Int) (k:Int)=((a0z x / 2^k:Nat):Int):=a8u (by omega);have ew:wrap .i64 ((a0z x / 2^k:Nat):Int)=((a0z x / 2^k:Nat):Int):=b4a (a36 (a34 _ _) hy);have hk0:decide ((k:Int)<0)=false:=by simp
 unfold a9l a3i;simp only[b0Z hk,b3t,hw,oB,bT,cF,b3u hw,hk0,eq,ew];generalize a0z x / 2^k=q
 by_cases hq:q<32
 have hd:decide ((q:Int)<32)=true:=decide_eq_true (by omega);simp only[hd,cT,if_pos hq];rw[a0l (n:=(q:Int)+1) (by omega),a0l (by omega)];rfl;have hd:decide ((q:Int)<32)=false:=decide_eq_false (by omega);simp only[hd,cF,if_neg hq];rfl
theorem c5G{f:Int→Nat}{M:Nat}(h:∀x,f x≤M):∀l:List Int,(l.map f).sum≤M*l.length
 | []=>by simp
 |x::l=>by
  have:=h x
  have:=c5G h l
  rw[a69,a49,lC,a82,b05];omega
theorem c0j{f:Int→Nat}{l:List Int}{i:Nat}(h:i<l.length):((l.take (i+1)).map f).sum=((l.take i).map f).sum+f l[i]:=by
 rw[a54 h,pA,List.sum_append];simp only[a69,List.map_nil,a49,List.sum_nil,a60]
theorem c3F{k:Nat}(hk:k≤25){l:List Int}(hw:l.all a0b=true)(hl:l.length<10000):a4R ((k:Int),l)=some (((l.map (a3i k)).sum:Nat):Int):=by
 have:=a0G (f:=a5t) (fun i:Nat=>((k:Int),((((l.take i).map (a3i k)).sum:Nat):Int),l,(l.length:Int),(i:Int),())) l.length (b:=((((l.map (a3i k)).sum:Nat):Int),()))
  (fun i hi=>by
   have hc:=c9D hk (lA.1 hw _ (a08 hi));have h1:=c5G (c4m hk) (l.take (i+1));rw[c0j hi]at h1;rw[a04]at h1;have e:wrap .i64 (((((l.take i).map (a3i k)).sum:Nat):Int)+((a3i k l[i]:Nat):Int))=((((l.take (i+1)).map (a3i k)).sum:Nat):Int):=by
    rw[c0j hi,a0l (by omega)];omega
   simp only[a5t,dlt hi,cT,a0d hi,oB,hc,e,a0c (show i<1000000 by omega)])
  (by simp only[a5t,dge,cF,a22])
 unfold a4R;have e0:(((l.take 0).map (a3i k)).sum:Nat)=0:=rfl;simp only[e0,nZ]at this;simp only[this,oB]
theorem d5u(x:Int){n:Nat}(hn:n≤62):∃N:Nat,a3t x n=(N:Int)∧N<2^n:=by
 obtain⟨h1,h2⟩:=c3E x;obtain⟨y,hy⟩:=a03 h1;have hp:0<2^n:=a29 n;refine⟨y%2^n,?_,b18 _ hp⟩;unfold a3t;rw[hy];exact c9z (by omega) hn
theorem b7N{n:Nat}(hn:n≤62):∀(l L:List Int),(a1J n l L).length=L.length+n*l.length
 | [],L=>by simp[a1J]
 |x::l,L=>by
  have e:a1J n (x::l) L=a1J n l (a0o (a3t x n) n L):=rfl;obtain⟨N,h1,h2⟩:=d5u x hn;rw[e,b7N hn l,h1,a8K (by omega) h2,lC,a82,b05];omega
theorem d7X{x:Int}(h:a0b x=true):a2B x ((31:Nat):Int)=true:=by
 have:=a3h.1 h
 have e1:a0D .i64 (-1) (((31:Nat):Int)-1)=-1073741824:=by decide
 have e2:wrap .i64 (a0D .i64 1 (((31:Nat):Int)-1)-1)=1073741823:=by decide
 unfold a2B;rw[e1,e2];simp only[bA,dT];omega
theorem c5H{x:Int}(h:a0b x=true):∀(k w:Nat),w+k=32→1≤k→a2a x k w≤31
 |k+1,w,hk,_=>by
  simp only[a2a]
  by_cases h31:w=31
  subst h31;rw[d7X h]
  simp
  ·cases (x != 0)&&!a2B x w with
   |true=>exact c5H h k (w+1) (by omega) (by omega)
   |false=>simp only[cF];omega
theorem b7O:∀(l:List Int)(w:Nat),l.all a0b=true→w≤31→l.foldl (fun w x=>a2a x (32-w) w) w≤31
 | [],w,_,h=>h
 |x::l,w,hl,h=>by
  simp only[a23,bA]at hl;exact b7O l _ hl.2 (c5H hl.1 (32-w) w (by omega) (by omega))
theorem b4C{l:List Int}(h:l.all a0b=true):a0s l≤31:=b7O l 0 h (by omega)
theorem b7a{l:List Int}(hl:l.length<10000):a7H l=some (((5+a0s l*l.length:Nat)):Int):=by
 have hw:=a3K l;have hm:a0s l*l.length≤32*l.length:=a40 _ hw;unfold a7H;simp only[a7D (show short l by unfold short;omega),oB];have e:((a0s l:Nat):Int)*((l.length:Nat):Int)=((a0s l*l.length:Nat):Int):=by simp
 rw[e,a0l (n:=((a0s l*l.length:Nat):Int)) (by omega),a0l (by omega)];congr 1
def b0M(k:Int)(part:List Int):Nat:=5+(if k=31 then 5+a0s part*part.length else(part.map (a3i k.toNat)).sum)
def a2z:List Nat→List Int→List Int→Nat
 |z::zs,k::ks,l=>b0M k (l.take z)+a2z zs ks (l.drop z)
 |_,_,_=>0
theorem b7P{q:Nat}(h:q<2147483648):wrap .u64 (q:Int)=(q:Int):=a1o (by omega)
theorem d4n{k:Int}(hk:kB k=true){part:List Int}(hw:part.all a0b=true)(L:List Int):(b0L k part L).length=L.length+b0M k part:=by
 simp only[kB,a18,bA,dT,beq_iff_eq]at hk;obtain⟨K,rfl⟩:=a03 (show 0≤k by omega);have hK:K≤31:=by omega
 have h1:=a8K (N:=K) (n:=5) (by omega) (by omega) L;have hwd:=b4C hw;unfold b0L b0M;rw[b7P (by omega)];split;rw[b7N (by omega),a8K (n:=5) (by omega) (by omega),h1];omega;rw[c5F (by omega) _ _ hw,h1];omega
theorem c5I:∀(zs:List Nat)(ks l L:List Int),ks.all kB=true→l.all a0b=true→(a5L zs ks l L).length=L.length+a2z zs ks l
 |z::zs,k::ks,l,L,h,hw=>by
  simp only[a23,bA]at h;have hwp:(l.take z).all a0b=true:=lA.2 fun x hx=>lA.1 hw x (a26 hx);have hwr:(l.drop z).all a0b=true:=lA.2 fun x hx=>lA.1 hw x (a27 hx);simp only[a5L,a2z];rw[c5I zs ks _ _ h.2 hwr,d4n h.1 hwp];omega
 | [],_,_,_,_,_=>by simp[a5L,a2z]
 |_::_,[],_,_,_,_=>by simp[a5L,a2z]
theorem c9E{k:Int}(hk:kB k=true)(part:List Int):b0M k part≤10+65*part.length:=by
 simp only[kB,a18,bA,dT,beq_iff_eq]at hk;unfold b0M;split;have hm:a0s part*part.length≤32*part.length:=a40 _ (a3K part);omega
 have:=c5G (c4m (k:=k.toNat) (by omega)) part
 omega
theorem b7b{zn:List Nat}{p:Prt}(hk:p.2.1.length=zn.length)(hall:p.2.1.all kB=true)(hz:zn.length≤256):∀(j i:Nat)(l:List Int)(c:Nat),i+j=zn.length→(zn.drop i).sum=l.length→l.all a0b=true→l.length≤5000→c+10*j+65*l.length<1000000→
  a0e a1Y (l,(c:Int),(zn.length:Int),(i:Int),a1y zn,p,())=some (((c+a2z (zn.drop i) (p.2.1.drop i) l:Nat):Int),())
 |0,i,l,c,hi,_,_,_,_=>by
  obtain rfl:i=zn.length:=by omega
  rw[a06];exact a0h (by simp[a1Y,a2z])
 |j+1,i,l,c,hi,hsum,hw,hl5,hb=>by
  have hlt:i<zn.length:=by omega
  have hki:i<p.2.1.length:=by omega
  have hkb:=lA.1 hall _ (a08 hki);rw[b0g hlt]at hsum;have h0:decide ((0:Int)≤(i:Int))=true:=by simp
  have h1:decide ((i:Int)<(((a1y zn).length:Nat):Int))=true:=by rw[a1a];simp;omega
  have h2:decide ((0:Int)≤((zn[i]:Nat):Int))=true:=by simp
  have h3:decide (((zn[i]:Nat):Int)≤((l.length:Nat):Int))=true:=by simp;omega
  have hpart:(l.take zn[i]).length=zn[i]:=by rw[a04];omega
  have hrest:(l.drop zn[i]).length=(zn.drop (i+1)).sum:=by rw[a09];omega
  have hwp:(l.take zn[i]).all a0b=true:=lA.2 fun x hx=>lA.1 hw x (a26 hx);have hwr:(l.drop zn[i]).all a0b=true:=lA.2 fun x hx=>lA.1 hw x (a27 hx);have hle:=c9E hkb (l.take zn[i]);rw[hpart]at hle;have goal:a1Y (l,(c:Int),(zn.length:Int),(i:Int),a1y zn,p,())=some (.inl (l.drop zn[i],((c+b0M p.2.1[i] (l.take zn[i]):Nat):Int),(zn.length:Int),((i+1:Nat):Int),a1y zn,p,())):=by
   by_cases h31:p.2.1[i]=31
   have hne:(p.2.1[i]==31)=true:=by rw[h31];rfl
   have hr:=b7a (l:=l.take zn[i]) (by omega);have ec:b0M p.2.1[i] (l.take zn[i])=5+(5+a0s (l.take zn[i])*(l.take zn[i]).length):=by unfold b0M;rw[if_pos h31]
   rw[ec]at hle⊢;generalize 5+a0s (l.take zn[i])*(l.take zn[i]).length=r at hr hle⊢;have e1:wrap .i64 (5+(r:Int))=5+(r:Int):=a0l (by omega);have e2:wrap .i64 ((c:Int)+(5+(r:Int)))=((c+(5+r):Nat):Int):=by rw[a0l (by omega)];omega
   simp only[a1Y,dlt hlt,h0,h1,a4t hlt,h2,h3,cT,a02,tN,a0d hki,oB,hne,hr,e1,e2,a22,a0c (show i<1000000 by omega)];have hne:(p.2.1[i]==31)=false:=by simp[h31]
   have hkb':=hkb;simp only[kB,a18,bA,dT,beq_iff_eq]at hkb';obtain⟨K,hK⟩:=a03 (show 0≤p.2.1[i]by omega);have hr:=c3F (k:=K) (by omega) hwp (by omega);have ec:b0M p.2.1[i] (l.take zn[i])=5+((l.take zn[i]).map (a3i K)).sum:=by unfold b0M;rw[if_neg h31,hK];rfl
   rw[←hK]at hr;rw[ec]at hle⊢;generalize ((l.take zn[i]).map (a3i K)).sum=r at hr hle⊢;have e1:wrap .i64 (5+(r:Int))=5+(r:Int):=a0l (by omega);have e2:wrap .i64 ((c:Int)+(5+(r:Int)))=((c+(5+r):Nat):Int):=by rw[a0l (by omega)];omega
   simp only[a1Y,dlt hlt,h0,h1,a4t hlt,h2,h3,cT,cF,a02,tN,a0d hki,oB,hne,hr,e1,e2,a22,a0c (show i<1000000 by omega)]
  rw[a0k goal,b7b hk hall hz j (i+1) (l.drop zn[i]) _ (by omega) hrest.symm hwr (by rw[a09];omega) (by rw[a09];omega)];rw[a01 hlt,a01 hki];simp only[a2z];congr 3;omega
theorem c7Z{p:Prt}{n warm:Int}{l:List Int}{zn:List Nat}(h:PartsOk p n warm l zn):a6s (p,n,warm,l)=some ((4+a2z zn p.2.1 l:Nat):Int):=by
 have hk:Go.Ab.short p.2.1:=by have:=h.ks;have:=h.len;unfold Go.Ab.short;omega
 have h5:=h.short;have hz:=h.len;have h1:=b7b h.ks h.all h.len zn.length 0 l 4 (by omega) (by rw[a05];exact h.sum) h.wide h.short (by omega);simp only[nZ,a44,a05]at h1;unfold a6s;simp only[b3s hk,h.may,b4b h.row h.rest h.wide h.short,oB,bT,cF,a3J,h.sizes,a1a,h1]
theorem c8a{p:Prt}{n warm:Int}{l:List Int}{zn:List Nat}(h:PartsOk p n warm l zn)(L:List Int):(a3L p zn l L).length=L.length+(4+a2z zn p.2.1 l):=by
 obtain⟨o,ho⟩:=a03 h.order.1;have h2:=h.order.2;unfold a3L;rw[c5I _ _ _ _ h.all h.wide,ho,b7P (by omega),a8K (by omega) (by omega)];omega
end Go.Ab
namespace Go.Ab
def a0Q(o:Int):Sub:=((0:Int),(0:Int),o,(0:Int),(0:Int),([]:List Int),a00 3 (0:Int),([]:List Stg),([]:List Int),((0:Int),([]:List Int),()),([]:List Int),())
theorem d0G(o:Int):SmallS (a0Q o):=⟨by simp[a0Q],by simp[a0Q],by simp[a0Q],by simp[a0Q],by simp[a0Q],by simp[a0Q]⟩
end Go.Ab
namespace Go.Ab
end Go.Ab
namespace Go.Ab
open IntKind(wrap)
theorem d2T{x:Int}(h:-1048576≤x∧x≤1048575):a2d (a1r x (-1048576)) 1048575=x:=by
 unfold a2d a1r;have h1:decide ((-1048576:Int) > x)=false:=decide_eq_false (by omega);have h2:decide ((1048575:Int)<x)=false:=decide_eq_false (by omega);simp only[h1,cF,h2]
theorem c8t{x:Int}(h:a0b x=true):-1048576≤a0m .i64 x ((10:Nat):Int)∧a0m .i64 x ((10:Nat):Int)≤1048575:=by
 have hx:=a3h.1 h;have e:a0m .i64 x ((10:Nat):Int)=x / 1024:=by
  show Int.fdiv x 1024=_;exact a46 _ (by decide)
 rw[e];omega
theorem c7y{x:Int}(hx:a0b x=true){a l:List Int}{n i:Int}:∀(k s:Nat),s+k=10→∃s':Nat,s'≤10∧a0e a2q (a,(s:Int),x,l,n,i,())=some (a,(s':Int),l,n,i,())
 |0,s,h=>by
  obtain rfl:s=10:=by omega
  have d0:decide (((10:Nat):Int)<0)=false:=by decide
  have hs:=d2T (c8t hx);refine⟨10,a41 _,a0h ?_⟩;simp only[a2q,d0,cF,a2l,oB,hs,bne_self_eq_false]
 |k+1,s,h=>by
  have d0:decide ((s:Int)<0)=false:=decide_eq_false (by omega);cases hc:(a2d (a1r (a0m .i64 x (s:Int)) (-1048576)) 1048575 != a0m .i64 x (s:Int))with
  |false=>exact⟨s,by omega,a0h (by simp only[a2q,d0,cF,a2l,oB,hc])⟩
  |true=>
   obtain⟨s',h1,h2⟩:=c7y hx (a:=a) (l:=l) (n:=n) (i:=i) k (s+1) (by omega);refine⟨s',h1,?_⟩;rw[a0k (s':=(a,((s+1:Nat):Int),x,l,n,i,())) (by simp only[a2q,d0,cF,a2l,oB,hc,cT,a0c (show s<1000000 by omega)])];exact h2
theorem d0H{l:List Int}(hw:l.all a0b=true)(hl:l.length<100000):∃r,a4b l=some r∧r.length=l.length:=by
 obtain⟨b,h1,s,h2,h3⟩:=a9p (f:=a2L) (fun i st=>∃s:Nat,s≤10∧st=(l,(s:Int),l,(l.length:Int),(i:Int),())) (fun b=>∃s:Nat,s≤10∧b=(l,(s:Int),())) l.length
  (fun i st hi h=>by
   obtain⟨s,hs,rfl⟩:=h;obtain⟨s',hs',e⟩:=c7y (lA.1 hw _ (a08 hi)) (a:=l) (l:=l) (n:=(l.length:Int)) (i:=(i:Int)) (10-s) s (by omega);exact⟨_,by simp only[a2L,dlt hi,cT,a0d hi,oB,e,a0c (show i<1000000 by omega)]<;>rfl,s',hs',rfl⟩)
  (fun st h=>by
   obtain⟨s,hs,rfl⟩:=h;exact⟨_,by simp only[a2L,dge,cF]<;>rfl,s,hs,rfl⟩) l.length 0 _ (by omega) ⟨0,by omega,rfl⟩
 subst h3;obtain⟨c,g1,o,g2,g3⟩:=a9p (f:=a2M) (fun i st=>∃o:List Int,st=((s:Int),l,(l.length:Int),(i:Int),o,())∧o.length=l.length) (fun b=>∃o:List Int,b=(o,())∧o.length=l.length) l.length
  (fun i st hi h=>by
   obtain⟨o,rfl,ho⟩:=h;have d0:decide ((s:Int)<0)=false:=decide_eq_false (by omega);have d1:decide ((0:Int)≤(i:Int))=true:=by simp
   have d2:decide ((i:Int)<((o.length:Nat):Int))=true:=decide_eq_true (by omega);exact⟨_,by simp only[a2M,dlt hi,cT,a0d hi,oB,d0,cF,d1,d2,a02,a0c (show i<1000000 by omega)]<;>rfl,_,rfl,by simp[ho]⟩)
  (fun st h=>by
   obtain⟨o,rfl,ho⟩:=h;exact⟨_,by simp only[a2M,dge,cF]<;>rfl,o,rfl,ho⟩) l.length 0 _ (by omega) ⟨a00 l.length 0,rfl,by simp⟩
 subst g2;refine⟨o,?_,g3⟩;have d0:decide ((0:Int)≤((l.length:Nat):Int))=true:=by simp
 have d1:decide (((l.length:Nat):Int)≤((l.length:Nat):Int))=true:=by simp
 have d2:lim l.length=true:=a0q (by omega);simp only[nZ]at h1 g1;unfold a4b;simp only[h1,oB,d0,d1,d2,tN,a02,cT,g1]
theorem c5J:∀(N:Nat)(num den:Int),den.toNat≤N→∃a b,a0e a3p (num,den,())=some (a,b,())
 |N,num,den,h=>by
  by_cases hd:den≥1099511627776
  ·have d0:decide (den≥(1099511627776:Int))=true:=decide_eq_true hd;have e:a0m .i64 den 1=den / 2:=by
    show Int.fdiv den 2=_;exact a46 _ (by decide)
   rw[a0k (s':=(a0m .i64 num 1,den / 2,())) (by simp only[a3p,d0,cT,e])]
   match N with
   |0=>omega
   |N+1=>exact c5J N _ _ (by omega)
  have d0:decide (den≥(1099511627776:Int))=false:=decide_eq_false hd;exact⟨num,den,a0h (by simp only[a3p,d0,cF])⟩
theorem b7Q{f g:List Int}{m:Nat}(hm:1≤m)(hg:g.length=f.length)(hl:f.length<100000)(hm2:m<1000):∃k,a3m (f,g,(m:Int))=some k:=by
 obtain⟨b,h1,num,den,h2⟩:=a9p (f:=a2C) (fun i st=>∃num den:Int,st=(f,g,num,den,((m+i:Nat):Int),())) (fun b=>∃num den:Int,b=(num,den,())) (f.length-m)
  (fun i st hi h=>by
   obtain⟨num,den,rfl⟩:=h;have hlt:m+i<f.length:=by omega
   have e:wrap .i64 (((m+i:Nat):Int)-1)=((m+i-1:Nat):Int):=by rw[a0l (by omega)];omega
   exact⟨_,by simp only[a2C,dlt hlt,cT,a0d hlt,e,a0d (show m+i-1<g.length by omega),oB,a0c (show m+i<1000000 by omega)]<;>rfl,_,_,rfl⟩)
  (fun st h=>by
   obtain⟨num,den,rfl⟩:=h;have d0:decide (((m+(f.length-m):Nat):Int)<((f.length:Nat):Int))=false:=decide_eq_false (by omega);exact⟨_,by simp only[a2C,d0,cF]<;>rfl,_,_,rfl⟩) (f.length-m) 0 (f,g,0,0,(m:Int),()) (by omega) ⟨0,0,rfl⟩
 subst h2;obtain⟨a,c,h3⟩:=c5J den.toNat num den (a41 _);unfold a3m;simp only[h1,oB,h3];cases hc:(c==0)with
 |true=>exact⟨0,rfl⟩
 |false=>
  simp only[cF];cases decide ((a0D .i64 a 15).tmod c<0)<;>exact⟨_,rfl⟩
theorem c8b{f g ks:List Int}{m:Nat}{order k:Int}(hm:1≤m)(hg:g.length=f.length)(hl:f.length<100000)(hm2:m<1000):
  ∃f' g':List Int,a0e a1z (order,(m:Int),k,((f.length:Nat):Int)-1,f,g,ks,())=some (order,(m:Int),f',g',ks,())∧f'.length=f.length∧g'.length=f.length:=by
 obtain⟨b,h1,f',g',h2,h3⟩:=a9p (f:=a1z) (fun i st=>∃f' g':List Int,st=(order,(m:Int),k,((f.length:Nat):Int)-1-(i:Int),f',g',ks,())∧f'.length=f.length∧g'.length=f.length)
  (fun b=>∃f' g':List Int,b=(order,(m:Int),f',g',ks,())∧f'.length=f.length∧g'.length=f.length) (f.length-m)
  (fun i st hi h=>by
   obtain⟨f',g',rfl,hf',hg'⟩:=h;have d0:decide (((f.length:Nat):Int)-1-(i:Int)≥(m:Int))=true:=decide_eq_true (by omega);have d1:decide ((0:Int)≤((f.length:Nat):Int)-1-(i:Int))=true:=decide_eq_true (by omega);have d2:decide (((f.length:Nat):Int)-1-(i:Int)<((f'.length:Nat):Int))=true:=decide_eq_true (by omega);have d3:decide (((f.length:Nat):Int)-1-(i:Int)<((g'.length:Nat):Int))=true:=decide_eq_true (by omega);have e:wrap .i64 (((f.length:Nat):Int)-1-(i:Int)-1)=((f.length:Nat):Int)-1-((i+1:Nat):Int):=by rw[a0l (by omega)];omega
   have d4:decide ((0:Int)≤((f.length:Nat):Int)-1-((i+1:Nat):Int))=true:=decide_eq_true (by omega);have d5:decide (((f.length:Nat):Int)-1-((i+1:Nat):Int)<((g'.length:Nat):Int))=true:=decide_eq_true (by omega);exact⟨_,by simp only[a1z,d0,d1,d2,d3,e,d4,d5,cT,a02,a2l,oB]<;>rfl,_,_,rfl,by simp[hf'],by simp[hg']⟩)
  (fun st h=>by
   obtain⟨f',g',rfl,hf',hg'⟩:=h;have d0:decide (((f.length:Nat):Int)-1-((f.length-m:Nat):Int)≥(m:Int))=false:=decide_eq_false (by omega);exact⟨_,by simp only[a1z,d0,cF]<;>rfl,f',g',rfl,hf',hg'⟩) (f.length-m) 0 _ (by omega) ⟨f,g,rfl,rfl,hg⟩
 subst h2;simp only[nZ,Int.sub_zero]at h1;exact⟨f',g',h1,h3⟩
theorem c9F{f g:List Int}{o:Nat}(ho:o≤32)(hg:g.length=f.length)(hl:f.length<100000):∃ks:List Int,a0e a2f ((o:Int),(1:Int),f,g,([]:List Int),())=some (ks,())∧ks.length=o:=by
 obtain⟨b,h1,ks,h2,h3⟩:=a9p (f:=a2f) (fun i st=>∃f' g' ks:List Int,st=((o:Int),((i+1:Nat):Int),f',g',ks,())∧f'.length=f.length∧g'.length=f.length∧ks.length=i)
  (fun b=>∃ks:List Int,b=(ks,())∧ks.length=o) o
  (fun i st hi h=>by
   obtain⟨f',g',ks,rfl,hf',hg',hk⟩:=h;have d0:decide (((i+1:Nat):Int)≤(o:Int))=true:=decide_eq_true (by omega);obtain⟨k,hk2⟩:=b7Q (f:=f') (g:=g') (m:=i+1) (by omega) (by omega) (by omega) (by omega);have e:wrap .i64 (((f'.length:Nat):Int)-1)=((f'.length:Nat):Int)-1:=a0l (by omega);obtain⟨f2,g2,h1,h2,h3⟩:=c8b (f:=f') (g:=g') (ks:=ks++[k]) (m:=i+1) (order:=(o:Int)) (k:=k) (by omega) (by omega) (by omega) (by omega);have hlim:lim (ks.length+1)=true:=a0q (by omega);exact⟨_,by simp only[a2f,d0,cT,hk2,oB,hlim,e,a16,h1,a0c (show i+1<1000000 by omega)]<;>rfl,f2,g2,ks++[k],rfl,by omega,by omega,by simp[hk]⟩)
  (fun st h=>by
   obtain⟨f',g',ks,rfl,hf',hg',hk⟩:=h;have d0:decide (((o+1:Nat):Int)≤(o:Int))=false:=decide_eq_false (by omega);exact⟨_,by simp only[a2f,d0,cF]<;>rfl,ks,rfl,hk⟩) o 0 _ (by omega) ⟨f,g,[],rfl,rfl,hg,rfl⟩
 subst h2;exact⟨ks,h1,h3⟩
theorem c2q{l:List Int}(hw:l.all a0b=true)(hl:l.length≤4096){o:Nat}(h1:1≤o)(h2:o≤32):∃ks:List Int,a3x (l,(o:Int))=some (ks,0)∧ks.length=o:=by
 have hs:short l:=by unfold short;omega
 obtain⟨r,e1,e2⟩:=d0H hw (by omega);have hr:short r:=by unfold short;omega
 obtain⟨ks,e3,e4⟩:=c9F (f:=r) (g:=r) h2 rfl (by omega);have c1:decide ((o:Int)<1)=false:=decide_eq_false (by omega);have c2:decide ((o:Int) > 32)=false:=decide_eq_false (by omega);have c3:decide (((l.length:Nat):Int) > 4096)=false:=decide_eq_false (by omega);have c4:decide ((0:Int)≤(o:Int))=true:=by simp
 have c5:lim o=true:=a0q (by omega);refine⟨ks,?_,e4⟩;unfold a3x;simp only[c1,c2,c3,c4,c5,cF,cT,oB,a5I hs,hw,bT,e1,a8G hr,tN,a02,e3]
end Go.Ab
namespace Go.Ab
open IntKind(wrap)
theorem b7c{σ β:Type}{f:σ→Option (σ ⊕ β)}(I:Nat→σ→Prop)(Q:β→Prop)(n:Nat)(hstep:∀i s,i<n→I i s→(∃s',f s=some (.inl s')∧I (i+1) s')∨(∃b,f s=some (.inr b)∧Q b))
  (hexit:∀s,I n s→∃b,f s=some (.inr b)∧Q b):∀(k i:Nat)(s:σ),i+k=n→I i s→∃b,a0e f s=some b∧Q b
 |0,i,s,h,hi=>by
  obtain rfl:i=n:=by omega
  obtain⟨b,h1,h2⟩:=hexit s hi;exact⟨b,a0h h1,h2⟩
 |k+1,i,s,h,hi=>by
  rcases hstep i s (by omega) hi with⟨s',h1,h2⟩|⟨b,h1,h2⟩;rw[a0k h1];exact b7c I Q n hstep hexit k (i+1) s' (by omega) h2;exact⟨b,a0h h1,h2⟩
theorem d0I{ks:List Int}(hl:ks.length≤32):∃b,a0e a1e (ks,ks,(ks.length:Int),(0:Int),())=some b∧(b=.inl (ks,())∨b=.inr (([]:List Int),(1:Int),())):=
 b7c (f:=a1e) (fun i s=>s=(ks,ks,(ks.length:Int),(i:Int),())) (fun b=>b=.inl (ks,())∨b=.inr (([]:List Int),(1:Int),())) ks.length
  (fun i s hi h=>by
   subst h;cases h1:decide (ks[i]<(-16383:Int))with
   |true=>exact Or.inr ⟨_,by simp only[a1e,dlt hi,cT,a0d hi,oB,h1]<;>rfl,Or.inr rfl⟩
   |false=>
    cases h2:decide (ks[i] > (16383:Int))with
    |true=>exact Or.inr ⟨_,by simp only[a1e,dlt hi,cT,cF,a0d hi,oB,h1,h2]<;>rfl,Or.inr rfl⟩
    |false=>exact Or.inl ⟨_,by simp only[a1e,dlt hi,cT,cF,a0d hi,oB,h1,h2,a0c (show i<1000000 by omega)]<;>rfl,rfl⟩)
  (fun s h=>by
   subst h;exact⟨_,by simp only[a1e,dge,cF]<;>rfl,Or.inl rfl⟩) ks.length 0 _ (by omega) rfl
theorem d0J{c a:List Int}{i:Nat}{k n:Int}(hc:c.length=i)(hi:i≤32):
  ∃nx:List Int,a0e a2h (c,(i:Int),k,a,n,(i:Int),c,(c.length:Int),(0:Int),([]:List Int),())=some (k,a,n,(i:Int),nx,())∧nx.length=i:=by
 obtain⟨b,h1,nx,h2,h3⟩:=a9p (f:=a2h) (fun j s=>∃nx:List Int,s=(c,(i:Int),k,a,n,(i:Int),c,(c.length:Int),(j:Int),nx,())∧nx.length=j)
  (fun b=>∃nx:List Int,b=(k,a,n,(i:Int),nx,())∧nx.length=c.length) c.length
  (fun j s hj h=>by
   obtain⟨nx,rfl,hn⟩:=h;have e1:wrap .i64 ((i:Int)-1)=(i:Int)-1:=a0l (by omega);have e2:wrap .i64 ((i:Int)-1-(j:Int))=((i-1-j:Nat):Int):=by rw[a0l (by omega)];omega
   have hlim:lim (nx.length+1)=true:=a0q (by omega);exact⟨_,by simp only[a2h,dlt hj,cT,a0d hj,oB,e1,e2,a0d (show i-1-j<c.length by omega),hlim,a0c (show j<1000000 by omega),a16]<;>rfl,_,rfl,by simp[hn]⟩)
  (fun s h=>by
   obtain⟨nx,rfl,hn⟩:=h;exact⟨_,by simp only[a2h,dge,cF]<;>rfl,nx,rfl,hn⟩) c.length 0 _ (by omega) ⟨[],rfl,rfl⟩
 subst h2;exact⟨nx,h1,by omega⟩
theorem c5K{ks:List Int}(h1:1≤ks.length)(hl:ks.length≤32):∃c e,a4I ks=some (c,e)∧(e=0→c.length=ks.length):=by
 obtain⟨b,g1,g2⟩:=d0I hl;have c1:decide (((ks.length:Nat):Int)<1)=false:=decide_eq_false (by omega);have c2:decide (((ks.length:Nat):Int) > 32)=false:=decide_eq_false (by omega);unfold a4I;simp only[c1,c2,cF,oB,g1];rcases g2 with rfl|rfl;obtain⟨r,h2,c,h3,h4⟩:=a9p (f:=a3b) (fun i s=>∃c:List Int,s=(c,ks,(ks.length:Int),(i:Int),())∧c.length=i) (fun r=>∃c:List Int,r=(c,())∧c.length=ks.length) ks.length
  (fun i s hi h=>by
   obtain⟨c,rfl,hc⟩:=h;have e1:wrap .i64 ((i:Int)+1)=((i+1:Nat):Int):=a0c (by omega);have d1:decide ((0:Int)≤((i+1:Nat):Int))=true:=by simp;omega
   have l1:lim (i+1)=true:=a0q (by omega);obtain⟨nx,n1,n2⟩:=d0J (c:=c) (a:=ks) (i:=i) (k:=ks[i]) (n:=(ks.length:Int)) hc (by omega);have l2:lim (nx.length+1)=true:=a0q (by omega);exact⟨_,by simp only[a3b,dlt hi,cT,a0d hi,oB,e1,d1,tN,l1,a02,n1,l2,a16]<;>rfl,_,rfl,by simp[n2]⟩)
  (fun s h=>by
   obtain⟨c,rfl,hc⟩:=h;exact⟨_,by simp only[a3b,dge,cF]<;>rfl,c,rfl,hc⟩) ks.length 0 _ (by omega) ⟨[],rfl,rfl⟩
 subst h3;simp only[nZ]at h2;exact⟨c,0,by simp only[h2,oB],fun _=>h4⟩;exact⟨[],1,rfl,fun h=>absurd h (by decide)⟩
theorem d0K{c:List Int}{s:Nat}{w:Nat}{half:Int}(hc:c.length≤32)(hw:w≤32):
  ∃out:List Int,a0e a1B (c,(w:Int),(s:Int),half,c,(c.length:Int),(0:Int),([]:List Int),())=some (c,(w:Int),(s:Int),out,()):=by
 obtain⟨b,h1,out,h2⟩:=b7c (f:=a1B) (fun j st=>∃out:List Int,st=(c,(w:Int),(s:Int),half,c,(c.length:Int),(j:Int),out,())∧out.length=j)
  (fun b=>∃out:List Int,b=(c,(w:Int),(s:Int),out,())) c.length
  (fun j st hj h=>by
   obtain⟨out,rfl,ho⟩:=h;have d0:decide ((s:Int)<0)=false:=decide_eq_false (by omega);have hlim:lim (out.length+1)=true:=a0q (by omega);cases hf:a2B (a0m .i64 (wrap .i64 (c[j]+half)) (s:Int)) (w:Int)with
   |true=>exact Or.inl ⟨_,by simp only[a1B,dlt hj,cT,a0d hj,oB,d0,cF,a8o hw,hf,bT,hlim,a0c (show j<1000000 by omega),a16]<;>rfl,_,rfl,by simp[ho]⟩
   |false=>exact Or.inr ⟨_,by simp only[a1B,dlt hj,cT,a0d hj,oB,d0,cF,a8o hw,hf,a07]<;>rfl,out,rfl⟩)
  (fun st h=>by
   obtain⟨out,rfl,ho⟩:=h;exact⟨_,by simp only[a1B,dge,cF]<;>rfl,out,rfl⟩) c.length 0 _ (by omega) ⟨[],rfl,rfl⟩
 subst h2;exact⟨out,h1⟩
end Go.Ab
namespace Go.Ab
open IntKind(wrap)
theorem d0L{c:List Int}{w:Int}(hl:c.length≤32):∃b,a0e a1f (c,w,c,(c.length:Int),(0:Int),())=some b∧(b=.inl (c,w,())∨b=.inr ((0:Int),(1:Int),([]:List Int),())):=
 b7c (f:=a1f) (fun i s=>s=(c,w,c,(c.length:Int),(i:Int),())) (fun b=>b=.inl (c,w,())∨b=.inr ((0:Int),(1:Int),([]:List Int),())) c.length
  (fun i s hi h=>by
   subst h;cases h1:decide (c[i]<(-35184372088832:Int))with
   |true=>exact Or.inr ⟨_,by simp only[a1f,dlt hi,cT,a0d hi,oB,h1]<;>rfl,Or.inr rfl⟩
   |false=>
    cases h2:decide (c[i] > (35184372088832:Int))with
    |true=>exact Or.inr ⟨_,by simp only[a1f,dlt hi,cT,cF,a0d hi,oB,h1,h2]<;>rfl,Or.inr rfl⟩
    |false=>exact Or.inl ⟨_,by simp only[a1f,dlt hi,cT,cF,a0d hi,oB,h1,h2,a0c (show i<1000000 by omega)]<;>rfl,rfl⟩)
  (fun s h=>by
   subst h;exact⟨_,by simp only[a1f,dge,cF]<;>rfl,Or.inl rfl⟩) c.length 0 _ (by omega) rfl
theorem d2U{c:List Int}{w:Nat}(h1:1≤c.length)(hl:c.length≤32)(hw:2≤w∧w≤16):∃o sh e,a6g (c,(w:Int))=some (o,sh,e)∧(e=0→o.length=c.length):=by
 obtain⟨b,g1,g2⟩:=d0L (w:=(w:Int)) hl;have c1:decide (((c.length:Nat):Int)<1)=false:=decide_eq_false (by omega);have c2:decide (((c.length:Nat):Int) > 32)=false:=decide_eq_false (by omega);have c3:decide ((w:Int)<2)=false:=decide_eq_false (by omega);have c4:decide ((w:Int) > 16)=false:=decide_eq_false (by omega);unfold a6g;simp only[c1,c2,c3,c4,cF,oB,g1];rcases g2 with rfl|rfl
 ·obtain⟨r,h2,h3⟩:=b7c (f:=a1C) (fun i s=>s=(c,(w:Int),(i:Int),())) (fun r=>r=.inl ()∨∃(sh:Int)(o:List Int),r=.inr (sh,(0:Int),o,())∧o.length=c.length) 15
   (fun i s hi h=>by
    subst h;have d0:decide ((i:Int)≤14)=true:=decide_eq_true (by omega);have d1:decide ((0:Int)≤((c.length:Nat):Int))=true:=by simp
    have l1:lim c.length=true:=a0q (by omega);have step:∀half:Int,∃o:List Int,a0e a1B (c,(w:Int),(i:Int),half,c,(c.length:Int),(0:Int),([]:List Int),())=some (c,(w:Int),(i:Int),o,()):=fun half=>d0K hl (by omega)
    by_cases hp:(i:Int) > 0
    ·have e1:wrap .i64 ((i:Int)-1)=(i:Int)-1:=a0l (by omega);have d2:decide ((i:Int)-1<0)=false:=decide_eq_false (by omega);obtain⟨o,ho⟩:=step (a0D .i64 1 ((i:Int)-1));cases hc:((((o.length:Nat):Int))==((c.length:Nat):Int))with
     |true=>exact Or.inr ⟨_,by simp only[a1C,d0,cT,hp,decide_true,e1,d2,cF,oB,d1,tN,l1,a02,ho,hc]<;>rfl,Or.inr ⟨_,o,rfl,by have:=beq_iff_eq.1 hc;omega⟩⟩
     |false=>exact Or.inl ⟨_,by simp only[a1C,d0,cT,hp,decide_true,e1,d2,cF,oB,d1,tN,l1,a02,ho,hc,a0c (show i<1000000 by omega)]<;>rfl,rfl⟩
    ·obtain⟨o,ho⟩:=step 0;cases hc:((((o.length:Nat):Int))==((c.length:Nat):Int))with
     |true=>exact Or.inr ⟨_,by simp only[a1C,d0,cT,hp,decide_false,cF,oB,d1,tN,l1,a02,ho,hc]<;>rfl,Or.inr ⟨_,o,rfl,by have:=beq_iff_eq.1 hc;omega⟩⟩
     |false=>exact Or.inl ⟨_,by simp only[a1C,d0,cT,hp,decide_false,cF,oB,d1,tN,l1,a02,ho,hc,a0c (show i<1000000 by omega)]<;>rfl,rfl⟩)
   (fun s h=>by
    subst h;have d0:decide (((15:Nat):Int)≤14)=false:=by decide
    exact⟨_,by simp only[a1C,d0,cF]<;>rfl,Or.inl rfl⟩) 15 0 (c,(w:Int),(0:Int),()) (by omega) rfl
  rcases h3 with rfl|⟨sh,o,rfl,ho⟩;exact⟨[],0,6,by simp only[h2,oB],fun h=>absurd h (by decide)⟩;exact⟨o,sh,0,by simp only[h2,oB],fun _=>ho⟩
 exact⟨[],0,1,rfl,fun h=>absurd h (by decide)⟩
theorem c7z{l:List Int}(hw:l.all a0b=true)(hl:l.length≤4096){o w:Nat}(h1:1≤o)(h2:o≤32)(h3:2≤w∧w≤16):∃c sh e,a3q (l,(o:Int),(w:Int))=some (c,sh,e)∧(e=0→c.length=o):=by
 obtain⟨ks,e1,e2⟩:=c2q hw hl h1 h2;obtain⟨c,e,g1,g2⟩:=c5K (ks:=ks) (by omega) (by omega);unfold a3q;simp only[e1,oB,show((0:Int) != 0)=false from rfl,cF,g1]
 by_cases he:e=0
 subst he;obtain⟨o',sh,e',g3,g4⟩:=d2U (c:=c) (w:=w) (by have:=g2 rfl;omega) (by have:=g2 rfl;omega) h3
 have:=g2 rfl
 exact⟨o',sh,e',by simp only[show((0:Int) != 0)=false from rfl,cF,g3,oB],fun h=>by have:=g4 h;omega⟩;have hne:(e != 0)=true:=by simpa using he
 exact⟨[],0,e,by simp only[hne,cT],fun h=>absurd h he⟩
theorem d2V{l:List Int}{o:Nat}(hl:l.length<100000)(ho:o≤4):∃v,a6R (l,(o:Int))=some v:=by
 obtain⟨b,h1,v,h2⟩:=a9p (f:=a2v) (fun i s=>∃v:Int,s=((o:Int),v,l,(l.length:Int),(i:Int),())) (fun b=>∃v:Int,b=(v,())) l.length
  (fun i s hi h=>by
   obtain⟨v,rfl⟩:=h;cases hc:decide (wrap .i64 ((i:Int)+(o:Int))≥4)with
   |true=>exact⟨_,by simp only[a2v,dlt hi,cT,a0d hi,oB,hc,a0c (show i<1000000 by omega)]<;>rfl,_,rfl⟩
   |false=>exact⟨_,by simp only[a2v,dlt hi,cT,cF,a0d hi,oB,hc,a0c (show i<1000000 by omega)]<;>rfl,_,rfl⟩)
  (fun s h=>by
   obtain⟨v,rfl⟩:=h;exact⟨_,by simp only[a2v,dge,cF]<;>rfl,v,rfl⟩) l.length 0 ((o:Int),(0:Int),l,(l.length:Int),(0:Int),()) (by omega) ⟨0,rfl⟩
 subst h2;refine⟨v,?_⟩;unfold a6R;simp only[h1,oB]
theorem c5L{l:List Int}{o:Nat}(ho:o≤4)(hs:l.length<100000)(hw:l.all a0b=true):∃r e,a3Y (l,(o:Int))=some (r,e)∧r.length≤l.length:=by
 by_cases hn:o≤l.length
 ·rw[b5r ho hn (by unfold short;omega) hw];cases (a1I o l).all a0b with
  |true=>exact⟨_,_,rfl,by rw[a5Y];omega⟩
  |false=>exact⟨_,_,rfl,by simp⟩
 have c1:decide ((o:Int)<0)=false:=decide_eq_false (by omega);have c2:decide ((o:Int) > 4)=false:=decide_eq_false (by omega);have c3:decide (((l.length:Nat):Int)<(o:Int))=true:=decide_eq_true (by omega);exact⟨[],1,by unfold a3Y;simp only[c1,c2,c3,cF,cT,oB],by simp⟩
theorem c5M{l:List Int}(hs:l.length<100000)(hw:l.all a0b=true):∃o:Nat,a4Z l=some (o:Int)∧o≤4:=by
 obtain⟨b,h1,o,h2,h3⟩:=a9p (f:=a1x) (fun i s=>∃(o:Nat)(v:Int),s=(l,(o:Int),v,(i:Int),())∧o≤4) (fun b=>∃o:Nat,b=((o:Int),())∧o≤4) 5
  (fun i s hi h=>by
   obtain⟨o,v,rfl,ho⟩:=h;have d0:decide ((i:Int)≤4)=true:=decide_eq_true (by omega);obtain⟨r,e,g1,g2⟩:=c5L (o:=i) (by omega) hs hw;obtain⟨y,g3⟩:=d2V (l:=r) (o:=i) (by omega) (by omega);cases hc:(e != 0)with
   |true=>exact⟨_,by simp only[a1x,d0,cT,g1,oB,hc,a0c (show i<1000000 by omega)]<;>rfl,o,v,rfl,ho⟩
   |false=>
    cases h4:decide (v<0)with
    |true=>exact⟨_,by simp only[a1x,d0,cT,cF,g1,oB,hc,g3,h4,a0c (show i<1000000 by omega)]<;>rfl,i,y,rfl,by omega⟩
    |false=>
     cases h5:decide (y<v)with
     |true=>exact⟨_,by simp only[a1x,d0,cT,cF,g1,oB,hc,g3,h4,h5,a0c (show i<1000000 by omega)]<;>rfl,i,y,rfl,by omega⟩
     |false=>exact⟨_,by simp only[a1x,d0,cT,cF,g1,oB,hc,g3,h4,h5,a0c (show i<1000000 by omega)]<;>rfl,o,v,rfl,ho⟩)
  (fun s h=>by
   obtain⟨o,v,rfl,ho⟩:=h;have d0:decide (((5:Nat):Int)≤4)=false:=by decide
   exact⟨_,by simp only[a1x,d0,cF]<;>rfl,o,rfl,ho⟩) 5 0 (l,(0:Int),(-1:Int),(0:Int),()) (by omega) ⟨0,-1,rfl,by omega⟩
 subst h2;refine⟨o,?_,h3⟩;unfold a4Z;simp only[h1,oB]
end Go.Ab
namespace Go.Ab
open IntKind(wrap)
def a4U(g:List Int→Int):List Int→List Int→List Int
 | [],_=>[]
 |x::r,done=>W (x-g done)::a4U g r (done++[x])
theorem b0h(g:List Int→Int):∀r done,(a4U g r done).length=r.length
 | [],_=>rfl
 |x::r,done=>by simp[a4U,b0h g r]
theorem d4o{x g:Int}(h:a0b x=true):W (W (x-g)+g)=x:=by
 have:=b7I h
 simp only[W,a8t,b03]at *;rw[show x-g+g=x from by omega];exact this
theorem c0k(g:List Int→Int):∀(r done:List Int),r.all a0b=true→a4k g (a4U g r done) done=some (done++r)
 | [],done,_=>by simp[a4U,a4k]
 |x::r,done,h=>by
  rw[a23,bA]at h;simp only[a4U,a4k,d4o h.1,h.1,cT,c0k g r (done++[x]) h.2,aA,a32]
def b1O(g:List Int→Int)(r done:List Int):Option (List Int):=bif (a4U g r done).all a0b then some (a4U g r done)else none
def b7R{β:Type}(g:List Int→Int)(bad:β)(a:List Int×List Int)(x:Int):(List Int×List Int) ⊕ β:=
 bif a0b (W (x-g a.1))then .inl (a.1++[x],a.2++[W (x-g a.1)])else .inr bad
theorem c0l{β:Type}(g:List Int→Int)(bad:β)(fin:List Int×List Int→β):∀(r done acc:List Int),
  b3k fin (a3s (b7R g bad) r (done,acc))=match b1O g r done with|some e=>fin (done++r,acc++e)|none=>bad
 | [],done,acc=>by simp[a3s,b3k,b1O,a4U]
 |x::r,done,acc=>by
  simp only[a3s,b7R];cases h:a0b (W (x-g done))with
  |true=>
   simp only[cT];rw[c0l g bad fin r];simp only[b1O,a4U,a23,h,a21];cases (a4U g r (done++[x])).all a0b<;>simp
  |false=>simp[b3k,b1O,a4U,h]
def c2N(g:List Int→Int)(a:List Int×List Int)(x:Int):(List Int×List Int) ⊕ (List Int×Unit):=.inl (a.1++[x],a.2++[W (x-g a.1)])
theorem c0m(g:List Int→Int)(fin:List Int×List Int→List Int×Unit):∀(r done acc:List Int),
  b3k fin (a3s (c2N g) r (done,acc))=fin (done++r,acc++a4U g r done)
 | [],done,acc=>by simp[a3s,b3k,a4U]
 |x::r,done,acc=>by
  simp only[a3s,c2N];rw[c0m g fin r];simp[a4U]
theorem c5N{g:List Int→Int}{r done e:List Int}(h:b1O g r done=some e):e=a4U g r done∧e.all a0b=true:=by
 unfold b1O at h;cases hc:(a4U g r done).all a0b with
 |true=>simp only[hc,cT,sj]at h;subst h;exact⟨rfl,hc⟩
 |false=>simp[hc]at h
theorem b2q{l:List Int}{i:Nat}(h:i<l.length):l.take i++[l[i]]=l.take (i+1):=by rw[List.take_append_getElem h]
theorem a8L{l:List Int}{p:Int→Bool}(h:l.all p=true)(i:Nat):(l.take i).all p=true:=by
 rw[lA]at h⊢;exact fun x hx=>h x (a26 hx)
theorem c0n{l:List Int}{p:Int→Bool}(h:l.all p=true)(i:Nat):(l.drop i).all p=true:=by
 rw[lA]at h⊢;exact fun x hx=>h x (a27 hx)
theorem b7S{σ β:Type}{f:σ→Option (σ ⊕ β)}(l:List Int)(k:Nat)(hk:k≤l.length)(S:Nat→List Int→σ)(g:List Int×List Int→Int→(List Int×List Int) ⊕ β)(fin:List Int→β)
  (hstep:∀i (h:i<l.length) acc,k≤i→acc.length=i-k→(∀a',g (l.take i,acc) l[i]=.inl a'→f (S i acc)=some (.inl (S (i+1) a'.2))∧a'.1=l.take (i+1)∧a'.2.length=i+1-k)∧(∀b,g (l.take i,acc) l[i]=.inr b→f (S i acc)=some (.inr b)))
  (hexit:∀acc,acc.length=l.length-k→f (S l.length acc)=some (.inr (fin acc))):a0e f (S k [])=some (b3k (fun a=>fin a.2) (a3s g (l.drop k) (l.take k,[]))):=by
 have h:=a2F (f:=f) (l.drop k) (fun i a=>S (k+i) a.2) g (fun i a=>a.1=l.take (k+i)∧a.2.length=i) (fun a=>fin a.2)
  (fun i hi a ha=>by
   obtain⟨a1,acc⟩:=a;obtain⟨h1,h2⟩:=ha;simp only at h1 h2;subst h1;rw[a09]at hi;have hlt:k+i<l.length:=by omega
   have e:(l.drop k)[i]'(by rw[a09];exact hi)=l[k+i]:=by rw[List.getElem_drop]
   rw[e];obtain⟨g1,g2⟩:=hstep (k+i) hlt acc (by omega) (by omega);refine⟨fun a' ha'=>?_,g2⟩;obtain⟨q1,q2,q3⟩:=g1 a' ha';exact⟨q1,q2,by omega⟩)
  (fun a ha=>by
   rw[a09]at ha⊢;rw[show k+(l.length-k)=l.length from by omega];exact hexit a.2 ha.2) (a:=(l.take k,[])) ⟨by simp,rfl⟩
 exact h
def b1P(l c:List Int)(s:Int):Option (List Int):=bif l.all a0b then b1O (a7J c s) (l.drop c.length) (l.take c.length)else none
theorem b9r{l c:List Int}{s:Int}(hl:a6y c s=true)(hc:c.length≤l.length)(hr:l.length<100000):
  a8T (l,c,s)=some (a1d (b1P l c s)):=by
 have hs:short l:=by unfold short;omega
 have hcs:short c:=by unfold short;omega
 have h0:0≤s:=by simp only[a6y,bA,dT]at hl;omega
 have e1:decide (((l.length:Nat):Int)<((c.length:Nat):Int))=false:=by simp;omega
 unfold a8T b1P;simp only[b1M hcs,hl,oB,bT,cF,e1,a5I hs];cases hw:l.all a0b with
 |false=>rfl
 |true=>
  have e2:wrap .i64 (((l.length:Nat):Int)-((c.length:Nat):Int))=((l.length-c.length:Nat):Int):=by rw[a0l (by omega)];omega
  have e3:decide ((0:Int)≤((l.length-c.length:Nat):Int))=true:=by simp
  have e4:lim (l.length-c.length)=true:=a0q (by omega);simp only[bT,cF,cT,e2,e3,tN,e4,a02]
  have:=b7S (f:=a6q) l c.length hc (fun i acc=>(l,c,s,(i:Int),acc,())) (b7R (a7J c s) (.inr ((6:Int),([]:List Int),()))) (fun acc=>.inl (acc,()))
   (fun i hi acc hki hacc=>by
    have ht:short (l.take i):=by unfold short;rw[a04];omega
    have h1:decide ((0:Int)≤(i:Int))=true:=by simp
    have h2:decide ((i:Int)≤((l.length:Nat):Int))=true:=by simp;omega
    have h3:lim (acc.length+1)=true:=a0q (by omega);constructor
    ·intro a' ha';unfold b7R at ha';cases hq:a0b (W (l[i]-a7J c s (l.take i)))with
     |false=>simp[hq]at ha'
     |true=>
      simp only[hq,cT,Sum.inl.injEq]at ha';subst ha';refine⟨?_,b2q hi,by simp;omega⟩;simp only[a6q,dlt hi,cT,a0d hi,oB,h1,h2,a02,tN,b9Y ht hcs h0,a8m,hq,bT,cF,h3,a0c (a24 hi hs),a16]
    ·intro b hb;unfold b7R at hb;cases hq:a0b (W (l[i]-a7J c s (l.take i)))with
     |true=>simp[hq]at hb
     |false=>
      simp only[hq,cF,Sum.inr.injEq]at hb;subst hb;simp only[a6q,dlt hi,cT,a0d hi,oB,h1,h2,a02,tN,b9Y ht hcs h0,a8m,hq,a07])
   (fun acc hacc=>by simp[a6q])
  rw[this,c0l];cases b1O (a7J c s) (l.drop c.length) (l.take c.length)<;>rfl
theorem b5A{l c:List Int}{s:Int}(hl:a6y c s=true)(hc:c.length≤l.length)(hr:l.length<100000):
  a8C (l,c,s)=some (a1d (b1P l c s)):=by
 have hs:short l:=by unfold short;omega
 have hcs:short c:=by unfold short;omega
 have e1:decide (((l.length:Nat):Int)<((c.length:Nat):Int))=false:=by simp;omega
 unfold a8C b1P;simp only[a6z hcs,hl,oB,bT,cF,e1,a0B hs];cases hw:l.all a0b with
 |false=>rfl
 |true=>
  simp only[bT,cF,cT]
  have:=b7S (f:=a6E) l c.length hc (fun i acc=>(l,c,s,(i:Int),acc,())) (c2N (a7J c s)) (fun acc=>(acc,()))
   (fun i hi acc hki hacc=>by
    have ht:short (l.take i):=by unfold short;rw[a04];omega
    have h1:decide ((0:Int)≤(i:Int))=true:=by simp
    have h2:decide ((i:Int)≤((l.length:Nat):Int))=true:=by simp;omega
    have h3:lim (acc.length+1)=true:=a0q (by omega);refine⟨fun a' ha'=>?_,fun b hb=>by cases hb⟩;simp only[c2N,Sum.inl.injEq]at ha';subst ha';refine⟨?_,b2q hi,by simp;omega⟩;simp only[a6E,dlt hi,cT,a0d hi,oB,h1,h2,a02,tN,b4U ht hcs (a8L hw i) hl,h3,a0c (a24 hi hs),a16])
   (fun acc hacc=>by simp[a6E])
  rw[this,c0m];have hsr:short (a4U (a7J c s) (l.drop c.length) (l.take c.length)):=by unfold short;rw[b0h,a09];omega
  simp only[oB,a17,a0B hsr,b1O];cases (a4U (a7J c s) (l.drop c.length) (l.take c.length)).all a0b<;>rfl
theorem c0o{l c r:List Int}{s:Int}(h:b1P l c s=some r):b3o (l.take c.length) r c s=some l∧r.all a0b=true∧r.length=l.length-c.length:=by
 unfold b1P at h;cases hw:l.all a0b with
 |false=>simp[hw]at h
 |true=>
  simp only[hw,cT]at h;obtain⟨e,hr⟩:=c5N h;refine⟨?_,hr,by rw[e,b0h,a09]⟩;simp only[b3o,a8L hw,hr,a02,cT];rw[e,c0k _ _ _ (c0n hw _),List.take_append_drop]
def b0i(l:List Int)(lag:Int)(t:List Int):Option (List Int):=bif l.all a0b then b1O (a5o lag t) l []else none
theorem b7d{l t:List Int}{lag:Int}(hl:a5R lag t=true)(ht:t.length=3)(hr:l.length<100000):
  a9j (l,lag,t)=some (a1d (b0i l lag t)):=by
 have hs:short l:=by unfold short;omega
 obtain⟨h1,h2⟩:2≤lag∧lag≤1024:=by simp only[a5R,bA,dT]at hl;omega
 unfold a9j b0i;simp only[b8z ht,hl,oB,bT,cF,b3l hs];cases hw:l.all a0b with
 |false=>rfl
 |true=>
  have e3:decide ((0:Int)≤((l.length:Nat):Int))=true:=by simp
  have e4:lim l.length=true:=a0q (by omega);simp only[bT,cF,cT,e3,tN,e4,a02]
  have:=b7S (f:=a8c) l 0 (Nat.zero_le _) (fun i acc=>(l,lag,l,(l.length:Int),(i:Int),acc,t,())) (b7R (a5o lag t) (.inr ((6:Int),([]:List Int),()))) (fun acc=>.inl (acc,()))
   (fun i hi acc hki hacc=>by
    have h3:lim (acc.length+1)=true:=a0q (by omega);have hp:=b7J (lag:=lag) (t:=t) (a76 hi) hs ht h1 h2;constructor
    ·intro a' ha';unfold b7R at ha';cases hq:a0b (W (l[i]-a5o lag t (l.take i)))with
     |false=>simp[hq]at ha'
     |true=>
      simp only[hq,cT,Sum.inl.injEq]at ha';subst ha';refine⟨?_,b2q hi,by simp;omega⟩;simp only[a8c,dlt hi,cT,a0d hi,oB,hp,b0a,hq,bT,cF,h3,a0c (a24 hi hs),a16]
    ·intro b hb;unfold b7R at hb;cases hq:a0b (W (l[i]-a5o lag t (l.take i)))with
     |true=>simp[hq]at hb
     |false=>
      simp only[hq,cF,Sum.inr.injEq]at hb;subst hb;simp only[a8c,dlt hi,cT,a0d hi,oB,hp,b0a,hq,a07])
   (fun acc hacc=>by simp[a8c])
  simp only[nZ]at this;rw[this,c0l,a05,a53];cases b1O (a5o lag t) l []<;>rfl
theorem b3y{l t:List Int}{lag:Int}(hl:a5R lag t=true)(ht:t.length=3)(hr:l.length<100000):
  a6j (l,lag,t)=some (a1d (b0i l lag t)):=by
 have hs:short l:=by unfold short;omega
 obtain⟨h1,h2⟩:2≤lag∧lag≤1024:=by simp only[a5R,bA,dT]at hl;omega
 unfold a6j b0i;simp only[b3X ht,hl,oB,bT,cF,a0B hs];cases hw:l.all a0b with
 |false=>rfl
 |true=>
  simp only[bT,cF,cT]
  have:=b7S (f:=a7R) l 0 (Nat.zero_le _) (fun i acc=>(l,lag,(i:Int),acc,t,())) (c2N (a5o lag t)) (fun acc=>(acc,()))
   (fun i hi acc hki hacc=>by
    have hti:short (l.take i):=by unfold short;rw[a04];omega
    have hp:=b6S (out:=l.take i) (lag:=lag) (t:=t) hti ht h1 h2;have h4:decide ((0:Int)≤(i:Int))=true:=by simp
    have h5:decide ((i:Int)≤((l.length:Nat):Int))=true:=by simp;omega
    have h3:lim (acc.length+1)=true:=a0q (by omega);refine⟨fun a' ha'=>?_,fun b hb=>by cases hb⟩;simp only[c2N,Sum.inl.injEq]at ha';subst ha';refine⟨?_,b2q hi,by simp;omega⟩;simp only[a7R,dlt hi,cT,a0d hi,oB,h4,h5,a02,tN,hp,h3,a0c (a24 hi hs),a16])
   (fun acc hacc=>by simp[a7R])
  simp only[nZ]at this;rw[this,c0m,a05,a53];have hsr:short (a4U (a5o lag t) l []):=by unfold short;rw[b0h];omega
  simp only[oB,a17,a0B hsr,b1O];cases (a4U (a5o lag t) l []).all a0b<;>rfl
theorem b2r{l t r:List Int}{lag:Int}(h:b0i l lag t=some r):b3p r lag t=some l∧r.all a0b=true∧r.length=l.length:=by
 unfold b0i at h;cases hw:l.all a0b with
 |false=>simp[hw]at h
 |true=>
  simp only[hw,cT]at h;obtain⟨e,hr⟩:=c5N h;refine⟨?_,hr,by rw[e,b0h]⟩;simp only[b3p,hr,cT];rw[e,c0k _ _ _ hw,a17]
end Go.Ab
namespace Go.Ab
def rsG:List Int→Fil→List Int
 | [],_=>[]
 |x::r,f=>W (x-a0J f)::rsG r (b0K f x)
theorem b5V:∀r f,(rsG r f).length=r.length
 | [],_=>rfl
 |x::r,f=>by simp[rsG,b5V r]
def rsO:List Int→List Int→Fil→Option (List Int)
 | [],done,_=>some done
 |x::r,done,f=>bif a0b (W (x-a0J f))then rsO r (done++[W (x-a0J f)]) (b0K f x)else none
theorem c9G:∀(r done:List Int)(f:Fil),rsO r done f=bif (rsG r f).all a0b then some (done++rsG r f)else none
 | [],done,f=>by simp[rsO,rsG]
 |x::r,done,f=>by
  simp only[rsO,rsG,a23];cases a0b (W (x-a0J f))with
  |false=>rfl
  |true=>simp only[cT,a21,c9G r,aA,a32]
theorem d1o:∀(r z:List Int)(f:Fil),r.all a0b=true→stO (rsG r f) z f=some (z++r)
 | [],z,f,_=>by simp[rsG,stO]
 |x::r,z,f,h=>by
  rw[a23,bA]at h;have e:W (a0J f+W (x-a0J f))=x:=by rw[Int.add_comm];exact d4o h.1
  simp only[rsG,stO,e,h.1,cT,d1o r _ _ h.2,aA,a32]
theorem b7T{row:List Int}{a:List Stg}{b c:Int}(hs:short row):∀(k i:Nat)(done:List Int)(f:Fil),i+k=row.length→done.length=i→FilOk f→
  a0e a7h (a,b,c,(row.length:Int),(i:Int),done++row.drop i,f,())=some (match rsO (row.drop i) done f with
   |some r=>.inl (a,b,c,r,())
   |none=>.inr ((6:Int),([]:List Int),()))
 |0,i,done,f,h,hd,hf=>by
  obtain rfl:i=row.length:=by omega
  rw[a06,a19];exact a0h (b:=Sum.inl (a,b,c,done,())) (by simp[a7h])
 |k+1,i,done,f,h,hd,hf=>by
  have hi:i<row.length:=by omega
  have hs':row.length<1000000:=hs;have h0:decide ((0:Int)≤(i:Int))=true:=by simp
  have hl:(done++row.drop i).length=row.length:=by simp;omega
  have h1:decide ((i:Int)<(((done++row.drop i).length:Nat):Int))=true:=by rw[hl];simp;omega
  have hst:rsO (row.drop i) done f=bif a0b (W (row[i]-a0J f))then rsO (row.drop (i+1)) (done++[W (row[i]-a0J f)]) (b0K f row[i])else none:=by
   rw[a01 hi];rfl
  rw[hst];cases hw:a0b (W (row[i]-a0J f))with
  |true=>
   rw[a0k (s':=(a,b,c,(row.length:Int),((i+1:Nat):Int),(done++[W (row[i]-a0J f)])++row.drop (i+1),b0K f row[i],())) (by
    simp only[a7h,dlt hi,h0,h1,cT,a02,a8n hf,oB,tN,b0d hd hi,a6W,hw,bT,cF,c0N hf,c0b hd hi,a0c (show i<1000000 by omega)])]
   exact b7T hs k (i+1) _ _ (by omega) (by simp;omega) (c0a hf _)
  |false=>
   exact a0h (by
    simp only[a7h,dlt hi,h0,h1,cT,a02,a8n hf,oB,tN,b0d hd hi,a6W,hw,a07];rfl)
theorem c0V{row:List Int}{a:List Stg}{b:Int}(hs:short row):∀(k i:Nat)(done:List Int)(f:Fil),i+k=row.length→done.length=i→FilOk f→
  a0e a7t (a,b,(i:Int),done++row.drop i,f,())=some (a,b,done++rsG (row.drop i) f,())
 |0,i,done,f,h,hd,hf=>by
  obtain rfl:i=row.length:=by omega
  rw[a06,a19];have hl:done.length=row.length:=hd;exact a0h (by rw[←hl];simp[a7t,rsG])
 |k+1,i,done,f,h,hd,hf=>by
  have hi:i<row.length:=by omega
  have hs':row.length<1000000:=hs;have h0:decide ((0:Int)≤(i:Int))=true:=by simp
  have hl:(done++row.drop i).length=row.length:=by simp;omega
  have h1:decide ((i:Int)<(((done++row.drop i).length:Nat):Int))=true:=by rw[hl];simp;omega
  rw[a0k (s':=(a,b,((i+1:Nat):Int),(done++[W (row[i]-a0J f)])++row.drop (i+1),b0K f row[i],())) (by
    simp only[a7t,h0,h1,cT,a02,b3q hf,oB,tN,b0d hd hi,c3y hf,c0b hd hi,a0c (show i<1000000 by omega)]),
   c0V hs k (i+1) _ _ (by omega) (by simp;omega) (c0a hf _),a01 hi]
  simp only[rsG,aA,a32]
def lRO:List Stg→List Int→Option (List Int)
 | [],row=>some row
 |s::r,row=>match rsO row [] (a7K s)with
  |some row'=>lRO r row'
  |none=>none
theorem c9H{row d:List Int}{f:Fil}(h:rsO row [] f=some d):d=rsG row f∧d.all a0b=true:=by
 rw[c9G]at h;cases hc:(rsG row f).all a0b with
 |true=>simp only[hc,cT,a17,sj]at h;subst h;exact⟨rfl,hc⟩
 |false=>simp[hc]at h
theorem c7A:∀(a b:List Stg)(row:List Int),lO (a++b) row=match lO a row with|some r=>lO b r|none=>none
 | [],b,row=>rfl
 |s::a,b,row=>by
  simp only[b04,lO];split;exact c7A a b _;rfl
theorem c9I:∀(st:List Stg)(row d:List Int),row.all a0b=true→lRO st row=some d→lO st.reverse d=some row∧d.all a0b=true∧d.length=row.length
 | [],row,d,hw,h=>by
  simp only[lRO,sj]at h;subst h;exact⟨rfl,hw,rfl⟩
 |s::st,row,d,hw,h=>by
  simp only[lRO]at h
  split at h
  rename_i row' hr;obtain⟨e,hw'⟩:=c9H hr;obtain⟨h1,h2,h3⟩:=c9I st row' d hw' h;refine⟨?_,h2,by rw[h3,e,b5V]⟩;rw[List.reverse_cons,c7A,h1];simp only[lO];rw[e,d1o row [] _ hw,a17];cases h
theorem b5B{st:List Stg}(hst:∀s∈st,a3I s=true)(hl:st.length≤3):∀(j k:Nat)(row:List Int),k+j=st.length→short row→
  a0e a7i (st,(st.length:Int),(k:Int),row,())=some (match lRO (st.drop k) row with
   |some r=>.inl (r,())
   |none=>.inr ((6:Int),([]:List Int),()))
 |0,k,row,h,hs=>by
  obtain rfl:k=st.length:=by omega
  rw[a06];exact a0h (by simp[a7i,lRO])
 |j+1,k,row,h,hs=>by
  have hk:k<st.length:=by omega
  have hstage:=hst _ (a08 hk);have h1:=b7T (a:=st) (b:=(st.length:Int)) (c:=(k:Int)) hs row.length 0 [] (a7K st[k]) (by omega) rfl (c2L hstage);simp only[nZ,a05,a17]at h1;have hne:((0:Int) != 0)=false:=rfl;rw[a01 hk];simp only[lRO];cases hr:rsO row [] (a7K st[k])with
  |some r=>
   rw[hr]at h1;rw[a0k (s':=(st,(st.length:Int),((k+1:Nat):Int),r,())) (by simp only[a7i,dlt hk,cT,a0d hk,oB,b6U hstage,hne,cF,h1,a0c (show k<1000000 by omega)])];exact b5B hst hl j (k+1) r (by omega) (by have:=(c9H hr).1;unfold short at hs⊢;rw[this,b5V];exact hs)
  |none=>
   rw[hr]at h1;exact a0h (by simp only[a7i,dlt hk,cT,a0d hk,oB,b6U hstage,hne,cF,h1])
theorem b7U{st:List Stg}(hst:∀s∈st,a3I s=true)(hl:st.length≤3):∀(j k:Nat)(row:List Int),k+j=st.length→short row→
  a0e a5c (st,(k:Int),row,())=some (match lRO (st.drop k) row with
   |some r=>.inl (r,())
   |none=>.inr ((6:Int),([]:List Int),()))
 |0,k,row,h,hs=>by
  obtain rfl:k=st.length:=by omega
  rw[a06];exact a0h (by simp[a5c,lRO])
 |j+1,k,row,h,hs=>by
  have hk:k<st.length:=by omega
  have hstage:=hst _ (a08 hk);have h1:=c0V (a:=st) (b:=(k:Int)) hs row.length 0 [] (a7K st[k]) (by omega) rfl (c2L hstage);simp only[nZ,a05,a17]at h1;have hsr:short (rsG row (a7K st[k])):=by unfold short;rw[b5V];exact hs
  rw[a01 hk];simp only[lRO,c9G,a17];cases hr:(rsG row (a7K st[k])).all a0b with
  |true=>
   rw[a0k (s':=(st,((k+1:Nat):Int),rsG row (a7K st[k]),())) (by simp only[a5c,dlt hk,cT,a0d hk,oB,a8H hstage,h1,a0B hsr,hr,bT,cF,a0c (show k<1000000 by omega)])];exact b7U hst hl j (k+1) _ (by omega) hsr
  |false=>
   exact a0h (by simp only[a5c,dlt hk,cT,a0d hk,oB,a8H hstage,h1,a0B hsr,hr,a07];rfl)
def b0N(l:List Int)(st:List Stg):Option (List Int):=bif l.all a0b then lRO st l else none
theorem c8c{l:List Int}{st:List Stg}(hl:a5J st=true)(hr:l.length<100000):b2M (l,st)=some (a1d (b0N l st)):=by
 have hl':=hl;simp only[a5J,bA,dT]at hl';have hss:short st:=by unfold short;omega
 have hsr:short l:=by unfold short;omega
 unfold b2M b0N;simp only[b6R hss,hl,oB,bT,cF,b6Q hsr];cases hw:l.all a0b with
 |false=>rfl
 |true=>
  have:=b5B (lA.1 hl'.2) hl'.1 st.length 0 l (by omega) hsr
  simp only[nZ,a05]at this;simp only[bT,cF,cT,a8G hsr,oB,this];cases lRO st l<;>rfl
theorem c4n{l:List Int}{st:List Stg}(hl:a5J st=true)(hr:l.length<100000):a9B (l,st)=some (a1d (b0N l st)):=by
 have hl':=hl;simp only[a5J,bA,dT]at hl';have hss:short st:=by unfold short;omega
 have hsr:short l:=by unfold short;omega
 have hlm:lim (0+l.length)=true:=a0q (by omega);unfold a9B b0N;simp only[b3n hss,hl,oB,bT,cF,a0B hsr];cases hw:l.all a0b with
 |false=>rfl
 |true=>
  have:=b7U (lA.1 hl'.2) hl'.1 st.length 0 l (by omega) hsr
  simp only[nZ,a05]at this;simp only[bT,cF,cT,hlm,oB,a16,a17,this];cases lRO st l<;>rfl
theorem c5O{l r:List Int}{st:List Stg}(h:b0N l st=some r):b1m r st=some l∧r.all a0b=true∧r.length=l.length:=by
 unfold b0N at h;cases hw:l.all a0b with
 |false=>simp[hw]at h
 |true=>
  simp only[hw,cT]at h;obtain⟨h1,h2,h3⟩:=c9I st l r hw h;exact⟨by simp only[b1m,h2,cT,h1],h2,h3⟩
end Go.Ab
namespace Go.Ab
open IntKind(wrap)
theorem p64{w:Nat}(h:w≤64):((2^w:Nat):Int) ∣ 18446744073709551616:=a35.2 (a81 2 h)
theorem d7Y(n:Int):∃q,wrap .i64 n=n+18446744073709551616*q:=by
 rw[a8t,Int.bmod];split;exact⟨-(n / 18446744073709551616),by omega⟩;exact⟨-(n / 18446744073709551616)-1,by omega⟩
theorem d5v{w:Nat}(h:w≤64)(n:Int):((2^w:Nat):Int) ∣ wrap .i64 n↔((2^w:Nat):Int) ∣ n:=by
 obtain⟨q,hq⟩:=d7Y n;rw[hq];exact a73 (a51 (p64 h))
theorem c7B{w:Nat}(h:w≤64)(a:Int):2^w ∣ (a20 64 a).toNat↔((2^w:Nat):Int) ∣ a:=by
 have e:(((a20 64 a).toNat:Nat):Int)=a+18446744073709551616*-(a / 18446744073709551616):=by
  rw[a97]
  have:((2^64:Nat):Int)=18446744073709551616:=rfl
  rw[this];omega
 rw[←a35,e];exact a73 (a51 (p64 h))
theorem d2W(w x y:Nat):2^w ∣ (x ||| y)↔2^w ∣ x∧2^w ∣ y:=by
 rw[a52,a52,a52,Nat.or_mod_two_pow];exact Nat.or_eq_zero_iff
theorem d7Z{w:Nat}(h:w≤64)(a b:Int):((2^w:Nat):Int) ∣ bits .i64 .or a b↔((2^w:Nat):Int) ∣ a∧((2^w:Nat):Int) ∣ b:=by
 show((2^w:Nat):Int) ∣ wrap .i64 ((((a20 64 a) ||| (a20 64 b)).toNat:Nat):Int)↔_;rw[d5v h,a35,BitVec.toNat_or,d2W,c7B h,c7B h]
def orI(l:List Int)(a:Int):Int:=l.foldl (fun a x=>bits .i64 .or a x) a
theorem b6b{w:Nat}(h:w≤64):∀(l:List Int)(a:Int),((2^w:Nat):Int) ∣ orI l a↔((2^w:Nat):Int) ∣ a∧∀x∈l,((2^w:Nat):Int) ∣ x
 | [],a=>by simp[orI]
 |x::l,a=>by
  show((2^w:Nat):Int) ∣ orI l (bits .i64 .or a x)↔_;rw[b6b h l,d7Z h];simp only[mC,forall_eq_or_imp,and_assoc]
theorem c4o:∀(l:List Int),(∀x∈l,x=0)→orI l 0=0
 | [],_=>rfl
 |x::l,h=>by
  have hx:=h x (a65);subst hx;show orI l (bits .i64 .or 0 0)=0;rw[show bits .i64 .or 0 0=0 from by decide];exact c4o l fun y hy=>h y (a88 _ hy)
theorem d4p{l:List Int}(hw:l.all a0b=true)(h:∃x∈l,x≠0):orI l 0≠0:=by
 intro e;obtain⟨x,hx,hne⟩:=h;have hd:=((b6b (w:=62) (by omega) l 0).1 (by rw[e];exact a77 _)).2 x hx;have hwx:=a3h.1 (lA.1 hw x hx);have e62:((2^62:Nat):Int)=4611686018427387904:=rfl;rw[e62]at hd;omega
def a9q(l:List Int)(w:Nat):Prop:=
 ((∀x∈l,x=0)∧w=0)∨((∃x∈l,x≠0)∧w≤30∧(∀x∈l,((2^w:Nat):Int) ∣ x)∧(w=30∨∃x∈l,¬ ((2^(w+1):Nat):Int) ∣ x))
theorem d2X{v w:Nat}(h:v≤w){x:Int}(hx:((2^w:Nat):Int) ∣ x):((2^v:Nat):Int) ∣ x:=
 Int.dvd_trans (a35.2 (a81 2 h)) hx
theorem a9q.unique{l:List Int}{v w:Nat}(hv:a9q l v)(hw:a9q l w):v=w:=by
 have key:∀{v w:Nat},v≤30→w≤30→(∀x∈l,((2^w:Nat):Int) ∣ x)→(v=30∨∃x∈l,¬ ((2^(v+1):Nat):Int) ∣ x)→w≤v:=by
  intro v w h30 h30' h1 h2;rcases h2 with h2|⟨x,hx,h2⟩;omega;exact b07 fun hlt=>h2 (d2X (show v+1≤w by omega) (h1 x hx))
 rcases hv with⟨h0,hv⟩|⟨⟨x,hx,hne⟩,hv1,hv2,hv3⟩;rcases hw with⟨-,hw⟩|⟨⟨x,hx,hne⟩,-⟩;omega;exact absurd (h0 x hx) hne;rcases hw with⟨h0,-⟩|⟨-,hw1,hw2,hw3⟩;exact absurd (h0 x hx) hne;exact Nat.le_antisymm (key hw1 hv1 hv2 hw3) (key hv1 hw1 hw2 hv3)
theorem c9J:∀(n N:Nat),N≤n→0<N→∃k m,N=2^k*(2*m+1)
 |0,N,h,h0=>absurd h0 (by omega)
 |n+1,N,h,h0=>by
  by_cases he:N%2=0
  obtain⟨k,m,e⟩:=c9J n (N / 2) (by omega) (by omega);refine⟨k+1,m,?_⟩;rw[b00,a74 (2^k) 2,Nat.mul_assoc,←e];omega;exact⟨0,N / 2,by omega⟩
theorem d6Y{k m:Nat}(h:2^k*(2*m+1)<2^64):(2^k*(2*m+1)) &&& (2^64-2^k*(2*m+1))=2^k:=by
 have hp:1≤2^k:=a95;have hk:k<64:=by
  refine b08 fun hge=>?_
  have h1:2^64≤2^k:=a25 (by decide) hge;have h2:2^k*1≤2^k*(2*m+1):=Nat.mul_le_mul_left _ (by omega);omega
 have e:2^k*(2*m+1)=(2^k*(2*m)+(2^k-1))+1:=by rw[a82];omega
 have hx:2^k*(2*m)+(2^k-1)<2^64:=by omega
 refine Nat.eq_of_testBit_eq fun i=>?_
 have e2:(2^64-2^k*(2*m+1)).testBit i=(decide (i<64)&&!(2^k*(2*m)+(2^k-1)).testBit i):=by
  rw[e];exact Nat.testBit_two_pow_sub_succ hx i
 have e1:=a63 (2*m+1) (b:=0) (i:=k) (by omega) i;rw[a60]at e1;have e3:=a63 (2*m) (b:=2^k-1) (i:=k) (by omega) i;rw[Nat.testBit_and,e2,e1,e3,Nat.testBit_two_pow]
 by_cases h1:i<k
 have:¬ k=i:=by omega
 simp[h1,this]
 by_cases h2:k=i
 subst h2;simp[hk,Nat.testBit_zero];obtain⟨j,rfl⟩:∃j,i=k+(j+1):=⟨i-k-1,by omega⟩;have s1:k+(j+1)-k=j+1:=by omega
 have s2:(2*m+1) / 2=m:=by omega
 have s3:2*m / 2=m:=by omega
 simp only[h1,h2,if_false,s1,Nat.testBit_succ,s2,s3,decide_false];cases m.testBit j<;>simp
theorem d5w:∀k:Nat,k<64→b4k[(2^k*285870213051353865)%18446744073709551616 / 288230376151711744]?=some (k:Int):=by
 have h:∀k:Fin 64,b4k[(2^k.val*285870213051353865)%18446744073709551616 / 288230376151711744]?=some (k.val:Int):=by decide
 exact fun k hk=>h ⟨k,hk⟩
theorem d0M{k m:Nat}:¬ 2^(k+1) ∣ 2^k*(2*m+1):=by
 rintro⟨c,hc⟩
 rw[b00,Nat.mul_assoc]at hc
 have:=Nat.eq_of_mul_eq_mul_left (a29 k) hc
 omega
theorem d5x{N:Nat}(h0:0<N)(h:N<18446744073709551616):∃k:Nat,a2p (N:Int)=some (k:Int)∧2^k ∣ N∧¬ 2^(k+1) ∣ N:=by
 obtain⟨k,m,e⟩:=c9J N N (a41 _) h0;have h2:2^k≤N:=by rw[e];exact Nat.le_mul_of_pos_right _ (by omega)
 have hk:k<64:=by
  refine b08 fun hge=>?_
  have h1:2^64≤2^k:=a25 (by decide) hge;omega
 refine⟨k,?_,⟨_,e⟩,e▸d0M⟩;have hb:bits .u64 .and (N:Int) (wrap .u64 (0-(N:Int)))=((2^k:Nat):Int):=by
  have e1:wrap .u64 (0-(N:Int))=((18446744073709551616-N:Nat):Int):=by
   have:wrap .u64 (0-(N:Int))=(0-(N:Int))%18446744073709551616:=by simp[wrap,IntKind.bits,IntKind.signed]
   rw[this];omega
  rw[e1];show wrap .u64 (((a20 64 (N:Int)) &&& (a20 64 ((18446744073709551616-N:Nat):Int))).toNat:Int)=_;rw[a39,a39,a72,a43,a43,a47 h,a47 (by omega)]
  have:=d6Y (k:=k) (m:=m) (by rw[←e];exact h)
  rw[←e]at this;rw[show(18446744073709551616:Nat)=2^64 from rfl,this];exact a1o (by omega)
 have hx:((N:Int)==0)=false:=by simp only[beq_eq_false_iff_ne,ne_eq];omega
 unfold a2p;rw[hb,hx,cF];have e2:wrap .u64 (((2^k:Nat):Int)*285870213051353865)=(((2^k*285870213051353865)%18446744073709551616:Nat):Int):=by
  have:wrap .u64 (((2^k:Nat):Int)*285870213051353865)=(((2^k:Nat):Int)*285870213051353865)%18446744073709551616:=by simp[wrap,IntKind.bits,IntKind.signed]
  rw[this];omega
 have hg:=d5w k hk;generalize (2^k*285870213051353865)%18446744073709551616=M at e2 hg;have e3:=a8u (N:=M) (o:=58) (by omega);rw[e2,show(58:Int)=((58:Nat):Int)from rfl,e3,show 2^58=288230376151711744 from rfl];generalize M / 288230376151711744=J at hg;obtain⟨hi,hv⟩:=lS.1 hg;rw[a0d hi,hv];simp only[oB,a0l (show -9223372036854775808≤(k:Int)∧(k:Int)≤9223372036854775807 by omega)]
theorem d8a(y:Int):bits .i64 .and y 1=y%2:=by
 have h:((a20 64 y) &&& (a20 64 1)).toNat=(y%18446744073709551616).toNat%2:=by
  rw[a72,a97];have e:(a20 64 1).toNat=2^1-1:=by decide
  rw[e,a56];rfl
 show wrap .i64 ((((a20 64 y) &&& (a20 64 1)).toNat:Nat):Int)=_;rw[h,a0l (by omega)];omega
theorem c9K{n:Nat}(hn:n≤62)(c:Int):a0m .i64 (((2^n:Nat):Int)*c) (n:Int)=c:=by
 have hp:0<2^n:=a29 n;have e:min (a42 (n:Int)) (IntKind.bits .i64)=n:=by simp only[tN,IntKind.bits];omega
 have ep:((2^n:Nat):Int)=2^n:=by simp
 unfold a0m;rw[e,ep];exact a71 _ (by omega)
theorem b7V{a:Int}(h0:a≠0):∀(k n:Nat),n+k=30→((2^n:Nat):Int) ∣ a→
  ∃r:Nat,a0e a6h (a,(n:Int),())=some ((r:Int),())∧r≤30∧((2^r:Nat):Int) ∣ a∧(r=30∨¬ ((2^(r+1):Nat):Int) ∣ a)
 |0,n,h,hd=>by
  obtain rfl:n=30:=by omega
  exact⟨30,a0h (by simp[a6h,h0]),by omega,hd,.inl rfl⟩
 |k+1,n,h,hd=>by
  have h0':(a != 0)=true:=by simp[h0]
  have hlt:decide ((n:Int)<30)=true:=by simp;omega
  have hwr:wrap .u64 (n:Int)=(n:Int):=a1o (by omega);have hnn:decide ((n:Int)<0)=false:=by simp
  have hws:wrap .i64 ((n:Int)+1)=((n+1:Nat):Int):=a0c (by omega);obtain⟨c,hc⟩:=hd;have hg:a0m .i64 a (n:Int)=c:=by rw[hc];exact c9K (by omega) c
  have hdvd:((2^(n+1):Nat):Int) ∣ a↔c%2=0:=by
   have e2:((2^(n+1):Nat):Int)=((2^n:Nat):Int)*2:=by rw[b00];simp
   rw[e2,hc];have hp:((2^n:Nat):Int)≠0:=by have:=a29 n;omega
   rw[Int.mul_dvd_mul_iff_left hp];omega
  by_cases h2:c%2=0
  have hb:(bits .i64 .and c 1==0)=true:=by rw[d8a,h2];rfl
  obtain⟨r,h3,h4⟩:=b7V h0 k (n+1) (by omega) (hdvd.2 h2);refine⟨r,?_,h4⟩;rw[a0k (s':=(a,((n+1:Nat):Int),())) (by simp only[a6h,h0',cT,hlt,hwr,hnn,cF,hg,hb,hws])];exact h3;have hb:(bits .i64 .and c 1==0)=false:=by rw[d8a];simp only[beq_eq_false_iff_ne,ne_eq];exact h2
  exact⟨n,a0h (by simp only[a6h,h0',cT,hlt,hwr,hnn,cF,hg,hb]),by omega,⟨c,hc⟩,.inr fun hh=>h2 (hdvd.1 hh)⟩
theorem d1p{l:List Int}(hs:short l):∀(k i:Nat)(a:Int),i+k=l.length→a0e a7d (a,l,(l.length:Int),(i:Int),())=some (orI (l.drop i) a,())
 |0,i,a,h=>by
  obtain rfl:i=l.length:=by omega
  rw[a06];exact a0h (by simp[a7d,orI])
 |k+1,i,a,h=>by
  have hi:i<l.length:=by omega
  have hs':l.length<1000000:=hs;rw[a01 hi,a0k (s':=(bits .i64 .or a l[i],l,(l.length:Int),((i+1:Nat):Int),())) (by
   simp only[a7d,dlt hi,cT,a0d hi,oB,a0c (show i<1000000 by omega)])]
  exact d1p hs k (i+1) _ (by omega)
theorem c3G{l:List Int}(hs:short l):∀(k i:Nat)(a:Int),i+k=l.length→a0e b0B (l,a,(i:Int),())=some (orI (l.drop i) a,())
 |0,i,a,h=>by
  obtain rfl:i=l.length:=by omega
  rw[a06];exact a0h (by simp[b0B,orI])
 |k+1,i,a,h=>by
  have hi:i<l.length:=by omega
  have hs':l.length<1000000:=hs;rw[a01 hi,a0k (s':=(l,bits .i64 .or a l[i],((i+1:Nat):Int),())) (by
   simp only[b0B,dlt hi,cT,a0d hi,oB,a0c (show i<1000000 by omega)])]
  exact c3G hs k (i+1) _ (by omega)
theorem c3H{l:List Int}{r:Nat}(hr:r≤30)(h:r=30∨¬ ((2^(r+1):Nat):Int) ∣ orI l 0):r=30∨∃x∈l,¬ ((2^(r+1):Nat):Int) ∣ x:=by
 rcases h with h|h;exact .inl h;refine .inr (Classical.byContradiction fun hc=>h ((b6b (by omega) l 0).2 ⟨a77 _,fun x hx=>Classical.byContradiction fun hn=>hc ⟨x,hx,hn⟩⟩))
theorem c8d{l:List Int}(hs:short l)(hw:l.all a0b=true):∃w:Nat,a7I l=some (w:Int)∧w≤30∧a9q l w:=by
 have h1:=c3G hs l.length 0 0 (by omega);simp only[nZ,a05]at h1;unfold a7I;simp only[h1,oB]
 by_cases hz:∀x∈l,x=0
 have e:=c4o l hz;exact⟨0,by rw[e,a0h (b:=((0:Int),())) (by simp[a6h])];rfl,by omega,.inl ⟨hz,rfl⟩⟩;have hx:∃x∈l,x≠0:=Classical.byContradiction fun hc=>hz fun x hx=>Classical.byContradiction fun hn=>hc ⟨x,hx,hn⟩;obtain⟨r,h2,h3,h4,h5⟩:=b7V (d4p hw hx) 30 0 (by omega) (by simp);rw[nZ]at h2;exact⟨r,by rw[h2];rfl,h3,.inr ⟨hx,h3,((b6b (by omega) l 0).1 h4).2,c3H h3 h5⟩⟩
theorem c4p{l:List Int}(hs:short l)(hw:l.all a0b=true):∃w:Nat,a5j l=some (w:Int)∧w≤30∧a9q l w:=by
 have h1:=d1p hs l.length 0 0 (by omega);simp only[nZ,a05]at h1;unfold a5j;simp only[h1,oB]
 by_cases hz:∀x∈l,x=0
 have e:=c4o l hz;exact⟨0,by rw[e];rfl,by omega,.inl ⟨hz,rfl⟩⟩;have hx:∃x∈l,x≠0:=Classical.byContradiction fun hc=>hz fun x hx=>Classical.byContradiction fun hn=>hc ⟨x,hx,hn⟩;have hne:=d4p hw hx;have he:(orI l 0==0)=false:=by simpa using hne
 obtain⟨q,hq⟩:∃q,wrap .u64 (orI l 0)=orI l 0+18446744073709551616*q:=⟨-(orI l 0 / 18446744073709551616),by
  have:wrap .u64 (orI l 0)=orI l 0%18446744073709551616:=by simp[wrap,IntKind.bits,IntKind.signed]
  rw[this];omega⟩
 obtain⟨r1,r2⟩:=c3E (orI l 0);obtain⟨N,hN⟩:=a03 r1;have hdN:∀v,v≤64→(2^v ∣ N↔((2^v:Nat):Int) ∣ orI l 0):=fun v hv=>by
  rw[←a35,←hN,hq];exact a73 (a51 (p64 hv))
 have hN0:0<N:=by
  refine Nat.pos_of_ne_zero fun e0=>?_
  obtain⟨x,hxl,hx0⟩:=hx;have hd:=((b6b (w:=62) (by omega) l 0).1 ((hdN 62 (by omega)).1 (by rw[e0];exact Nat.dvd_zero _))).2 x hxl;have hwx:=a3h.1 (lA.1 hw x hxl);rw[show((2^62:Nat):Int)=4611686018427387904 from rfl]at hd;omega
 obtain⟨k,hk,hk1,hk2⟩:=d5x hN0 (by omega);have hk64:k≤63:=by
  refine b07 fun hgt=>?_
  have h1:2^64≤2^k:=a25 (by decide) (by omega)
  have:=Nat.le_of_dvd hN0 hk1
  omega
 simp only[he,cF,hN,hk,oB];have em:a2d (k:Int) 30=((min k 30:Nat):Int):=by rw[c6x];omega
 refine⟨min k 30,by rw[em],by omega,.inr ⟨hx,by omega,?_,?_⟩⟩;exact((b6b (by omega) l 0).1 ((hdN _ (by omega)).1 (Nat.dvd_trans (a81 2 (by omega)) hk1))).2;refine c3H (by omega) ?_
 by_cases hk30:30≤k
 exact .inl (by omega)
 have:min k 30=k:=by omega
 rw[this];exact .inr fun hh=>hk2 ((hdN _ (by omega)).2 hh)
theorem d6Z{l:List Int}{w:Nat}(hw30:w≤30)(hw:l.all a0b=true)(h:a9q l w):b3x (w:Int) l=some (l.map fun x=>a0m .i64 x (w:Int)):=by
 have hd:∀x∈l,((2^w:Nat):Int) ∣ x:=by
  rcases h with⟨h,-⟩|⟨-,-,h,-⟩;exact fun x hx=>by rw[h x hx];exact a77 _
  exact h
 have:l.all (b4B (w:Int))=true:=by
  rw[lA];intro x hx;obtain⟨c,hc⟩:=hd x hx;have hm:a92 x (a0D .i64 1 (w:Int))=0:=by rw[d2R hw30,hc];exact Int.mul_tmod_right _ _
  simp only[b4B,lA.1 hw x hx,hm,a21];rfl
 simp only[b3x,this,cT]
end Go.Ab
namespace Go.Ab
open IntKind(wrap)
theorem c5P{k:Nat}(hk:k≤25){x:Int}(hw:a0b x=true):a6T ((k:Int),x)=some ((a3i k x:Nat):Int):=by
 have hy:=b2f hw;have eq:a0m .u64 ((a0z x:Nat):Int) (k:Int)=((a0z x / 2^k:Nat):Int):=a8u (by omega);have ew:wrap .i64 ((a0z x / 2^k:Nat):Int)=((a0z x / 2^k:Nat):Int):=b4a (a36 (a34 _ _) hy);have eu:wrap .u64 (k:Int)=(k:Int):=a1o (by omega);have hk0:decide ((k:Int)<0)=false:=by simp
 unfold a6T a3i;simp only[b2g hk,a2Q,hw,oB,bT,cF,b4z hw,eu,hk0,eq,ew];generalize a0z x / 2^k=q
 by_cases hq:q<32
 have hd:decide ((q:Int)<32)=true:=decide_eq_true (by omega);simp only[hd,cT,if_pos hq];rw[a0l (n:=(q:Int)+1) (by omega),a0l (by omega)];rfl;have hd:decide ((q:Int)<32)=false:=decide_eq_false (by omega);simp only[hd,cF,if_neg hq];rfl
def b3z(k:Nat)(l:List Int):Nat:=(l.map (a3i k)).sum
theorem b0O{k:Nat}(hk:k≤25){l:List Int}(hw:l.all a0b=true)(hl:l.length<10000):a4j ((k:Int),l)=some ((b3z k l:Nat):Int):=by
 have:=a0G (f:=a4i) (fun i:Nat=>((k:Int),l,((((l.take i).map (a3i k)).sum:Nat):Int),(i:Int),())) l.length (b:=((((l.map (a3i k)).sum:Nat):Int),()))
  (fun i hi=>by
   have hc:=c5P hk (lA.1 hw _ (a08 hi));have h1:=c5G (c4m hk) (l.take (i+1));rw[c0j hi]at h1;rw[a04]at h1;have e:wrap .i64 (((((l.take i).map (a3i k)).sum:Nat):Int)+((a3i k l[i]:Nat):Int))=((((l.take (i+1)).map (a3i k)).sum:Nat):Int):=by
    rw[c0j hi,a0l (by omega)];omega
   simp only[a4i,dlt hi,cT,a0d hi,oB,hc,e,a0c (show i<1000000 by omega)])
  (by simp only[a4i,dge,cF,a22])
 unfold a4j;have e0:(((l.take 0).map (a3i k)).sum:Nat)=0:=rfl;simp only[e0,nZ]at this;simp only[this,oB,b3z]
def rbN(l:List Int):Nat→Nat
 |0=>0
 |i+1=>if b3z (i+1) l<b3z (rbN l i) l then i+1 else rbN l i
theorem c2r(l:List Int):∀i,rbN l i≤i
 |0=>a41 _
 |i+1=>by
  have:=c2r l i
  simp only[rbN]
  split<;>omega
theorem c0p{k:Nat}(hk:k≤25){l:List Int}(hw:l.all a0b=true)(hl:l.length<10000):a4R ((k:Int),l)=some ((b3z k l:Nat):Int):=c3F hk hw hl
theorem c6G{a b:Nat}(h:a<b):decide ((a:Int)<(b:Int))=true:=decide_eq_true (by omega)
theorem c2O{a b:Nat}(h:¬ a<b):decide ((a:Int)<(b:Int))=false:=decide_eq_false (by omega)
theorem c2s{l:List Int}(hw:l.all a0b=true)(hl:l.length<10000):b4q l=some ((rbN l 25:Nat):Int):=by
 have:=a0G (f:=a8e) (fun i:Nat=>(l,((rbN l i:Nat):Int),((b3z (rbN l i) l:Nat):Int),((i+1:Nat):Int),())) 25 (b:=(((rbN l 25:Nat):Int),()))
  (fun i hi=>by
   have d0:decide (((i+1:Nat):Int)≤25)=true:=decide_eq_true (by omega);have w1:wrap .i64 (((i+1:Nat):Int)+1)=((i+1+1:Nat):Int):=a0c (by omega);have hs:=c0p (k:=i+1) (by omega) hw hl
   by_cases hlt:b3z (i+1) l<b3z (rbN l i) l
   simp only[a8e,d0,cT,hs,oB,w1,c6G hlt,rbN,hlt,if_true];simp only[a8e,d0,cT,cF,hs,oB,w1,c2O hlt,rbN,hlt,if_false])
  (by
   have d0:decide (((25+1:Nat):Int)≤25)=false:=decide_eq_false (by omega);simp only[a8e,d0,cF])
 have h0:=c0p (k:=0) (by omega) hw hl;have e1:((0+1:Nat):Int)=1:=rfl;have e0:rbN l 0=0:=rfl;simp only[nZ]at h0;simp only[e0,nZ,e1]at this;unfold b4q;simp only[h0,oB,this]
theorem b7W{l:List Int}(hw:l.all a0b=true)(hl:l.length<10000):b1G l=some ((rbN l 25:Nat):Int):=by
 have:=a0G (f:=a6v) (fun i:Nat=>(l,((rbN l i:Nat):Int),((i+1:Nat):Int),())) 25 (b:=(((rbN l 25:Nat):Int),()))
  (fun i hi=>by
   have d0:decide (((i+1:Nat):Int)≤25)=true:=decide_eq_true (by omega);have w1:wrap .i64 (((i+1:Nat):Int)+1)=((i+1+1:Nat):Int):=a0c (by omega);have hs:=b0O (k:=i+1) (by omega) hw hl;have hs2:=b0O (k:=rbN l i) (by have:=c2r l i;omega) hw hl
   by_cases hlt:b3z (i+1) l<b3z (rbN l i) l
   simp only[a6v,d0,cT,hs,hs2,oB,w1,c6G hlt,rbN,hlt,if_true];simp only[a6v,d0,cT,cF,hs,hs2,oB,w1,c2O hlt,rbN,hlt,if_false])
  (by
   have d0:decide (((25+1:Nat):Int)≤25)=false:=decide_eq_false (by omega);simp only[a6v,d0,cF])
 have e1:((0+1:Nat):Int)=1:=rfl;have e0:rbN l 0=0:=rfl;simp only[e0,nZ,e1]at this;unfold b1G;simp only[this,oB]
def b0P(l:List Int):Int:=if 5+a0s l*l.length<b3z (rbN l 25) l then 31 else((rbN l 25:Nat):Int)
theorem d2Y(l:List Int):kB (b0P l)=true:=by
 have:=c2r l 25
 unfold b0P;split;rfl;simp only[kB,a18,bA,dT];omega
theorem c5Q{l:List Int}(hw:l.all a0b=true)(hl:l.length<10000):b0t l=some (b0P l):=by
 have h1:=c2r l 25;have hs:=c0p (k:=rbN l 25) h1 hw hl;unfold b0t b0P
 by_cases hlt:5+a0s l*l.length<b3z (rbN l 25) l
 simp only[c2s hw hl,b7a hl,hs,oB,c6G hlt,cT,hlt,if_true];simp only[c2s hw hl,b7a hl,hs,oB,c2O hlt,cF,hlt,if_false]
theorem c0q{l:List Int}(hl:l.length<10000):a3r ((31:Int),l)=some ((5+a0s l*l.length:Nat):Int):=by
 have hm:=c2n (a3K l) hl;have he:((31:Int)==31)=true:=rfl;unfold a3r;simp only[he,cT,b0f (show short l by unfold short;omega),oB];rw[a99 ((l.length:Nat):Int),a0l (n:=((a0s l:Nat):Int)*((l.length:Nat):Int)) (by omega),a0l (by omega),Int.natCast_add,a58];rfl
theorem c9L{l:List Int}(hw:l.all a0b=true)(hl:l.length<10000):b5N l=some (b0P l):=by
 have h1:=c2r l 25;have hs:=b0O (k:=rbN l 25) h1 hw hl;unfold b5N b0P
 by_cases hlt:5+a0s l*l.length<b3z (rbN l 25) l
 simp only[b7W hw hl,c0q hl,hs,oB,c6G hlt,cT,hlt,if_true];simp only[b7W hw hl,c0q hl,hs,oB,c2O hlt,cF,hlt,if_false]
def a1E:List Nat→List Int→List Int
 | [],_=>[]
 |z::zs,l=>b0P (l.take z)::a1E zs (l.drop z)
theorem b9s:∀zs l,(a1E zs l).length=zs.length
 | [],_=>rfl
 |z::zs,l=>by simp[a1E,b9s zs]
theorem c5R:∀zs l,(a1E zs l).all kB=true
 | [],_=>rfl
 |z::zs,l=>by simp[a1E,c5R zs,d2Y]
theorem c0W{zn:List Nat}{n warm most least order:Int}{L:List Int}{a b:Prt}(hz:zn.length≤256):∀(j i:Nat)(rest ks:List Int),i+j=zn.length→(zn.drop i).sum=rest.length→rest.all a0b=true→rest.length≤5000→ks.length=i→
  a0e a9x (n,warm,most,L,least,order,rest,((zn.length:Nat):Int),(i:Int),a1y zn,a,b,(order,ks,()),())=some (n,warm,most,L,least,order,a,b,(order,ks++a1E (zn.drop i) rest,()),())
 |0,i,rest,ks,h,_,_,_,_=>by
  obtain rfl:i=zn.length:=by omega
  rw[a06];exact a0h (by simp only[a9x,dge,cF,a1E,a19])
 |j+1,i,rest,ks,h,hr,hwr,hr5,hki=>by
  have hlt:i<zn.length:=by omega
  rw[b0g hlt]at hr;have h0:decide ((0:Int)≤(i:Int))=true:=by simp
  have h1:decide ((i:Int)<(((a1y zn).length:Nat):Int))=true:=by rw[a1a];simp;omega
  have h2:decide ((0:Int)≤((zn[i]:Nat):Int))=true:=by simp
  have h3:decide (((zn[i]:Nat):Int)≤((rest.length:Nat):Int))=true:=by simp;omega
  have hk:=c5Q (a8L hwr zn[i]) (by rw[a04];omega);have hlim:lim (ks.length+1)=true:=a0q (by omega);rw[a01 hlt,a0k (s':=(n,warm,most,L,least,order,rest.drop zn[i],((zn.length:Nat):Int),((i+1:Nat):Int),a1y zn,a,b,(order,ks++[b0P (rest.take zn[i])],()),())) (by
   simp only[a9x,dlt hlt,h0,h1,a4t hlt,h2,h3,cT,a02,tN,hk,oB,hlim,a22,a0c (show i<1000000 by omega),a16])]
  rw[c0W hz j (i+1) _ _ (by omega) (by rw[a09];omega) (c0n hwr _) (by rw[a09];omega) (by simp;omega)];simp only[a1E,aA,a32]
theorem b5C{zn:List Nat}{n warm most least order:Int}{l:List Int}{a b:Prt}(hz:zn.length≤256)(hw:l.all a0b=true)(h5:l.length≤5000):∀(j i off:Nat)(ks:List Int),i+j=zn.length→off+(zn.drop i).sum=l.length→ks.length=i→
  a0e a4q (n,warm,most,l,least,order,(off:Int),(i:Int),a1y zn,a,b,(order,ks,()),())=some (n,warm,most,l,least,order,a,b,(order,ks++a1E (zn.drop i) (l.drop off),()),())
 |0,i,off,ks,h,_,_=>by
  obtain rfl:i=zn.length:=by omega
  rw[a06];exact a0h (by simp only[a4q,a1a,dge,cF,a1E,a19])
 |j+1,i,off,ks,h,hr,hki=>by
  have hlt:i<zn.length:=by omega
  rw[b0g hlt]at hr;have h0:decide ((0:Int)≤(i:Int))=true:=by simp
  have h1:decide ((i:Int)<(((a1y zn).length:Nat):Int))=true:=by rw[a1a];simp;omega
  have eo:wrap .i64 ((off:Int)+((zn[i]:Nat):Int))=((off+zn[i]:Nat):Int):=by rw[a0l (by omega)];omega
  have h2:decide ((0:Int)≤((off+zn[i]:Nat):Int))=true:=by simp;omega
  have h3:decide (((off+zn[i]:Nat):Int)≤((l.length:Nat):Int))=true:=by simp only[dT];omega
  have h4:decide ((0:Int)≤(off:Int))=true:=by simp
  have h6:decide ((off:Int)≤((off+zn[i]:Nat):Int))=true:=by simp only[dT];omega
  have epart:b02 off (a70 (off+zn[i]) l)=(l.drop off).take zn[i]:=by rw[a61];congr 1;omega
  have hk:=c9L (a8L (c0n hw off) zn[i]) (by rw[a04];omega);have hlim:lim (ks.length+1)=true:=a0q (by omega);rw[a01 hlt,a0k (s':=(n,warm,most,l,least,order,((off+zn[i]:Nat):Int),((i+1:Nat):Int),a1y zn,a,b,(order,ks++[b0P ((l.drop off).take zn[i])],()),())) (by
   simp only[a4q,h0,h1,a4t hlt,eo,h2,h3,h4,h6,cT,a02,tN,epart,hk,oB,hlim,a0c (show i<1000000 by omega),a16])]
  rw[b5C hz hw h5 j (i+1) _ _ (by omega) (by omega) (by simp;omega)];simp only[a1E,aA,a32,a83]
theorem c5S{k:Int}(hk:kB k=true){l:List Int}(hw:l.all a0b=true)(hl:l.length<10000):∃d:Nat,a3r (k,l)=some (d:Int)∧b0M k l=5+d:=by
 by_cases h31:k=31
 subst h31;exact⟨_,c0q hl,by unfold b0M;rw[if_pos rfl]⟩;have hne:(k==31)=false:=by simp[h31]
 simp only[kB,a18,bA,dT,beq_iff_eq]at hk;obtain⟨K,rfl⟩:=a03 (show 0≤k by omega);have hr:=b0O (k:=K) (by omega) hw hl;exact⟨b3z K l,by unfold a3r;simp only[hne,cF,hr,oB],by unfold b0M;rw[if_neg h31];rfl⟩
theorem b3A{zn:List Nat}{p:Prt}{l:List Int}(hk:p.2.1.length=zn.length)(hall:p.2.1.all kB=true)(hz:zn.length≤256)(hw:l.all a0b=true)(hl5:l.length≤5000):∀(j i off:Nat)(c:Nat),i+j=zn.length→off+(zn.drop i).sum=l.length→c+10*j+65*(l.length-off)<1000000→
  a0e a3c (l,(c:Int),(off:Int),(i:Int),a1y zn,p,())=some (((c+a2z (zn.drop i) (p.2.1.drop i) (l.drop off):Nat):Int),())
 |0,i,off,c,hi,_,_=>by
  obtain rfl:i=zn.length:=by omega
  rw[a06];exact a0h (by simp[a3c,a1a,a2z])
 |j+1,i,off,c,hi,hsum,hb=>by
  have hlt:i<zn.length:=by omega
  have hki:i<p.2.1.length:=by omega
  have hkb:=lA.1 hall _ (a08 hki);rw[b0g hlt]at hsum;have h0:decide ((0:Int)≤(i:Int))=true:=by simp
  have h1:decide ((i:Int)<(((a1y zn).length:Nat):Int))=true:=by rw[a1a];simp;omega
  have eo:wrap .i64 ((off:Int)+((zn[i]:Nat):Int))=((off+zn[i]:Nat):Int):=by rw[a0l (by omega)];omega
  have h2:decide ((0:Int)≤((off+zn[i]:Nat):Int))=true:=by simp;omega
  have h3:decide (((off+zn[i]:Nat):Int)≤((l.length:Nat):Int))=true:=by simp only[dT];omega
  have h4:decide ((0:Int)≤(off:Int))=true:=by simp
  have h5:decide ((off:Int)≤((off+zn[i]:Nat):Int))=true:=by simp only[dT];omega
  have epart:b02 off (a70 (off+zn[i]) l)=(l.drop off).take zn[i]:=by rw[a61];congr 1;omega
  have hpart:((l.drop off).take zn[i]).length=zn[i]:=by rw[a04,a09];omega
  obtain⟨d,hd,hd1⟩:=c5S hkb (a8L (c0n hw off) zn[i]) (by omega);have hle:=c9E hkb ((l.drop off).take zn[i]);have e1:wrap .i64 ((c:Int)+5)=((c+5:Nat):Int):=by rw[a0l (by omega)];omega
  have e2:wrap .i64 (((c+5:Nat):Int)+(d:Int))=((c+5+d:Nat):Int):=by rw[a0l (by omega)];omega
  rw[a0k (s':=(l,((c+5+d:Nat):Int),((off+zn[i]:Nat):Int),((i+1:Nat):Int),a1y zn,p,())) (by
   simp only[a3c,h0,h1,a4t hlt,eo,h2,h3,h4,h5,cT,a02,tN,a0d hki,oB,epart,hd,e1,e2,a0c (show i<1000000 by omega)]),
   b3A hk hall hz hw hl5 j (i+1) (off+zn[i]) _ (by omega) (by omega) (by omega),
   a01 hlt,a01 hki]
  simp only[a2z,a83];congr 3;omega
theorem c4q{p:Prt}{n warm:Int}{l:List Int}{zn:List Nat}(h:PartsOk p n warm l zn):a2V (p,n,warm,l)=some ((4+a2z zn p.2.1 l:Nat):Int):=by
 have hk:Go.Ab.short p.2.1:=by have:=h.ks;have:=h.len;unfold Go.Ab.short;omega
 have hs:Go.Ab.short l:=by have:=h.short;unfold Go.Ab.short;omega
 have h5:=h.short;have hz:=h.len;have hr:=h.row;simp only[a3z,bA,dT]at hr;have e:wrap .i64 (n-warm)=n-warm:=a0l (by omega);have he:(((l.length:Nat):Int) != n-warm)=false:=by rw[h.rest];simp
 have h1:=b3A h.ks h.all h.len h.wide h.short zn.length 0 0 4 (by omega) (by rw[a05,h.sum];omega) (by omega);simp only[nZ,a44,a05]at h1;unfold a2V;simp only[a7B hk,h.may,oB,bT,cF,e,he,a0B hs,h.wide,a2G,h.sizes,h1]
theorem c2t{o n warm:Int}{l:List Int}(h:(a0U o n warm).length=0):a2V ((o,([]:List Int),()),n,warm,l)=some 0:=by
 have hm:a2Z (o,([]:List Int),()) n warm=false:=by simp[a2Z,h]
 unfold a2V;simp only[a7B (p:=(o,([]:List Int),())) (by simp[short]),hm,oB,a07,cT]
def zsN(o n warm:Int):List Nat:=(a0U o n warm).map a42
def b1Q(o n warm:Int)(l:List Int):Prt:=(o,a1E (zsN o n warm) l,())
def c0r(o n warm:Int)(l:List Int):Nat:=4+a2z (zsN o n warm) (a1E (zsN o n warm) l) l
def a0K(n warm:Int)(l:List Int):Nat→Prt×Nat
 |0=>((0,[],()),0)
 |i+1=>if(a0U (i:Int) n warm).length=0 then a0K n warm l i else
   if(a0K n warm l i).2=0∨c0r (i:Int) n warm l<(a0K n warm l i).2 then(b1Q (i:Int) n warm l,c0r (i:Int) n warm l)else a0K n warm l i
def b4D(n warm:Int)(l:List Int):Prt:=(a0K n warm l 7).1
theorem c6H{o:Nat}{n warm:Int}{l:List Int}(hs:(a0U (o:Int) n warm).length≠0)(hl:(l.length:Int)=n-warm)(hw:l.all a0b=true)(h5:l.length≤5000):
  ∃zn,a0U (o:Int) n warm=a1y zn∧zsN (o:Int) n warm=zn∧zn.length≤256∧zn.sum=l.length∧a2Z (b1Q (o:Int) n warm l) n warm=true∧PartsOk (b1Q (o:Int) n warm l) n warm l zn:=by
 obtain⟨zn,g1,g2,g3⟩:=b8E hs;have ez:zsN (o:Int) n warm=zn:=by unfold zsN;rw[g1,b4A]
 have hp:a2Z (b1Q (o:Int) n warm l) n warm=true:=by
  simp only[a2Z,b1Q,bA,a37,beq_eq_false_iff_ne,ne_eq,beq_iff_eq];exact⟨hs,by rw[g1,a1a,b9s,ez],c5R _ _⟩
 obtain⟨zn',hok⟩:=PartsOk.of hp hl hw h5
 have:zn'=zn:=by
  have h1:=hok.sizes;simp only[b1Q]at h1;rw[g1]at h1;rw[←b4A zn,h1,b4A]
 subst this;exact⟨_,g1,ez,g3,by omega,hp,hok⟩
theorem c0s{n warm:Int}{l:List Int}(hr:a3z n warm=true)(hl:(l.length:Int)=n-warm)(hw:l.all a0b=true)(h5:l.length≤5000):∀i,1≤i→(a0K n warm l i).2≠0∧a2Z (a0K n warm l i).1 n warm=true
 |0,h=>absurd h (by omega)
 |i+1,_=>by
  by_cases hs:(a0U (i:Int) n warm).length=0
  ·simp only[a0K,hs,if_true];cases i with
   |zero=>exact absurd hs (d2S hr)
   |succ i=>exact c0s hr hl hw h5 (i+1) (by omega)
  ·obtain⟨zn,-,-,-,-,hp,-⟩:=c6H hs hl hw h5;simp only[a0K,hs,if_false];split;exact⟨by simp only[c0r];omega,hp⟩
   ·rename_i hne;cases i with
    |zero=>exact absurd (Or.inl rfl) hne
    |succ i=>exact c0s hr hl hw h5 (i+1) (by omega)
theorem d5y{n warm:Int}{l:List Int}(hr:a3z n warm=true)(hl:(l.length:Int)=n-warm)(hw:l.all a0b=true)(h5:l.length≤5000):a2Z (b4D n warm l) n warm=true:=
 (c0s hr hl hw h5 7 (by omega)).2
theorem c8e{n warm:Int}{l:List Int}(hr:a3z n warm=true)(hl:(l.length:Int)=n-warm)(hw:l.all a0b=true)(h5:l.length≤5000):
  b2N (n,warm,(6:Int),l)=some (b4D n warm l,0):=by
 have:=a0G (f:=a3Z) (fun i:Nat=>(n,warm,(6:Int),l,(((a0K n warm l i).2:Nat):Int),(i:Int),((0:Int),([]:List Int),()),(a0K n warm l i).1,())) 7 (b:=(((0:Int),([]:List Int),()),b4D n warm l,()))
  (fun i hi=>by
   have d0:decide ((i:Int)≤a2d (a1r 6 0) 8)=true:=decide_eq_true (by have:a2d (a1r 6 0) 8=6:=rfl;omega);have w1:wrap .i64 ((i:Int)+1)=((i+1:Nat):Int):=a0c (by omega)
   by_cases hs:(a0U (i:Int) n warm).length=0
   have hb:((((a0U (i:Int) n warm).length:Nat):Int)==0)=true:=by rw[hs];rfl
   have eb:a0K n warm l (i+1)=a0K n warm l i:=by simp only[a0K,hs,if_true]
   simp only[a3Z,d0,cT,a3J,oB,hb,w1,eb];have hb:((((a0U (i:Int) n warm).length:Nat):Int)==0)=false:=by simp only[beq_eq_false_iff_ne,ne_eq];omega
   obtain⟨zn,g1,ez,g3,g4,-,hok⟩:=c6H hs hl hw h5;have g5:=c0W (n:=n) (warm:=warm) (most:=6) (least:=(((a0K n warm l i).2:Nat):Int)) (order:=(i:Int)) (L:=l) (a:=((0:Int),([]:List Int),())) (b:=(a0K n warm l i).1) g3 zn.length 0 l [] (by omega) (by rw[a05];exact g4) hw h5 rfl;simp only[nZ,a05,a17]at g5;have hc:=c7Z hok;simp only[b1Q,ez]at hc;have hb':(((zn.length:Nat):Int)==0)=false:=by rw[←a1a zn,←g1];exact hb
   have el:(((a1y zn).length:Nat):Int)=((zn.length:Nat):Int):=by rw[a1a]
   have eP:b1Q (i:Int) n warm l=((i:Int),a1E zn l,()):=by simp only[b1Q,ez]
   have eC:c0r (i:Int) n warm l=4+a2z zn (a1E zn l) l:=by simp only[c0r,ez]
   by_cases hz:(a0K n warm l i).2=0
   have hz':((((a0K n warm l i).2:Nat):Int)==0)=true:=by rw[hz];rfl
   have eb:a0K n warm l (i+1)=(((i:Int),a1E zn l,()),4+a2z zn (a1E zn l) l):=by simp only[a0K,hs,if_false,hz,true_or,if_true,eP,eC]
   simp only[a3Z,d0,cT,a3J,oB,g1,el,hb',cF,g5,hc,w1,eb,hz'];have hz':((((a0K n warm l i).2:Nat):Int)==0)=false:=by simp only[beq_eq_false_iff_ne,ne_eq];omega
   by_cases hlt:4+a2z zn (a1E zn l) l<(a0K n warm l i).2
   have eb:a0K n warm l (i+1)=(((i:Int),a1E zn l,()),4+a2z zn (a1E zn l) l):=by simp only[a0K,hs,if_false,hz,false_or,eP,eC,hlt,if_true]
   simp only[a3Z,d0,cT,a3J,oB,g1,el,hb',cF,g5,hc,w1,eb,hz',c6G hlt];have eb:a0K n warm l (i+1)=a0K n warm l i:=by simp only[a0K,hs,if_false,hz,false_or,eP,eC,hlt]
   simp only[a3Z,d0,cT,a3J,oB,g1,el,hb',cF,g5,hc,w1,eb,hz',c2O hlt])
  (by
   have d0:decide (((7:Nat):Int)≤a2d (a1r 6 0) 8)=false:=decide_eq_false (by have:a2d (a1r 6 0) 8=6:=rfl;omega);simp only[a3Z,d0,cF,b4D])
 simp only[a0K,nZ]at this;unfold b2N;simp only[b4b hr hl hw h5,oB,bT,cF,this]
theorem c4s{n warm:Int}{l:List Int}(hr:a3z n warm=true)(hl:(l.length:Int)=n-warm)(hw:l.all a0b=true)(h5:l.length≤5000):
  b0H (n,warm,(6:Int),l)=some (b4D n warm l,0):=by
 have:=a0G (f:=a3d) (fun i:Nat=>(n,warm,(6:Int),l,(((a0K n warm l i).2:Nat):Int),(i:Int),((0:Int),([]:List Int),()),(a0K n warm l i).1,())) 7 (b:=(((0:Int),([]:List Int),()),b4D n warm l,()))
  (fun i hi=>by
   have d0:decide ((i:Int)≤a2d (a1r 6 0) 8)=true:=decide_eq_true (by have:a2d (a1r 6 0) 8=6:=rfl;omega);have w1:wrap .i64 ((i:Int)+1)=((i+1:Nat):Int):=a0c (by omega)
   by_cases hs:(a0U (i:Int) n warm).length=0
   have hs0:a0U (i:Int) n warm=[]:=a75.1 hs;have g5:a0e a4q (n,warm,(6:Int),l,(((a0K n warm l i).2:Nat):Int),(i:Int),(0:Int),(0:Int),([]:List Int),((0:Int),([]:List Int),()),(a0K n warm l i).1,((i:Int),([]:List Int),()),())=some (n,warm,(6:Int),l,(((a0K n warm l i).2:Nat):Int),(i:Int),((0:Int),([]:List Int),()),(a0K n warm l i).1,((i:Int),([]:List Int),()),()):=a0h (by simp[a4q]);have hc:=c2t (l:=l) hs;have hd:decide ((0:Int) > 0)=false:=rfl;have eb:a0K n warm l (i+1)=a0K n warm l i:=by simp only[a0K,hs,if_true]
   simp only[a3d,d0,cT,a2G,oB,hs0,g5,hc,hd,cF,w1,eb];obtain⟨zn,g1,ez,g3,g4,-,hok⟩:=c6H hs hl hw h5;have g5:=b5C (n:=n) (warm:=warm) (most:=6) (least:=(((a0K n warm l i).2:Nat):Int)) (order:=(i:Int)) (a:=((0:Int),([]:List Int),())) (b:=(a0K n warm l i).1) g3 hw h5 zn.length 0 0 [] (by omega) (by rw[a05];omega) rfl;simp only[nZ,a05,a17]at g5;have hc:=c4q hok;simp only[b1Q,ez]at hc;have hp:decide (((4+a2z zn (a1E zn l) l:Nat):Int) > 0)=true:=decide_eq_true (by omega);have eP:b1Q (i:Int) n warm l=((i:Int),a1E zn l,()):=by simp only[b1Q,ez]
   have eC:c0r (i:Int) n warm l=4+a2z zn (a1E zn l) l:=by simp only[c0r,ez]
   by_cases hz:(a0K n warm l i).2=0
   have hz':((((a0K n warm l i).2:Nat):Int)==0)=true:=by rw[hz];rfl
   have eb:a0K n warm l (i+1)=(((i:Int),a1E zn l,()),4+a2z zn (a1E zn l) l):=by simp only[a0K,hs,if_false,hz,true_or,if_true,eP,eC]
   simp only[a3d,d0,cT,a2G,oB,g1,cF,g5,hc,hp,w1,eb,hz'];have hz':((((a0K n warm l i).2:Nat):Int)==0)=false:=by simp only[beq_eq_false_iff_ne,ne_eq];omega
   by_cases hlt:4+a2z zn (a1E zn l) l<(a0K n warm l i).2
   have eb:a0K n warm l (i+1)=(((i:Int),a1E zn l,()),4+a2z zn (a1E zn l) l):=by simp only[a0K,hs,if_false,hz,false_or,eP,eC,hlt,if_true]
   simp only[a3d,d0,cT,a2G,oB,g1,cF,g5,hc,hp,w1,eb,hz',c6G hlt];have eb:a0K n warm l (i+1)=a0K n warm l i:=by simp only[a0K,hs,if_false,hz,false_or,eP,eC,hlt]
   simp only[a3d,d0,cT,a2G,oB,g1,cF,g5,hc,hp,w1,eb,hz',c2O hlt])
  (by
   have d0:decide (((7:Nat):Int)≤a2d (a1r 6 0) 8)=false:=decide_eq_false (by have:a2d (a1r 6 0) 8=6:=rfl;omega);simp only[a3d,d0,cF,b4D])
 have hrr:=hr;simp only[a3z,bA,dT]at hrr;have e:wrap .i64 (n-warm)=n-warm:=a0l (by omega);have he:(((l.length:Nat):Int) != n-warm)=false:=by rw[hl];simp
 simp only[a0K,nZ]at this;unfold b0H;simp only[c5x,hr,oB,bT,cF,e,he,a0B (show short l by unfold short;omega),hw,this]
end Go.Ab
namespace Go.Ab
open IntKind(wrap)
def a0C(k:Int)(s:Sub):Sub:=
 (k,(0:Int),(if k=2 then s.2.2.1 else 0),(if k=3∨k=4 then s.2.2.2.1 else 0),(if k=4 then s.2.2.2.2.1 else 0),(if k=3∨k=4 then s.2.2.2.2.2.1 else[]),
  ((if k=4 then s.2.2.2.2.2.2.1 else a00 3 (0:Int)),(if k=5 then s.2.2.2.2.2.2.2.1 else[]),([]:List Int),((0:Int),([]:List Int),()),([]:List Int),()))
def z0:Prt:=((0:Int),([]:List Int),())
def a1P(s:Sub)(w:Nat)(wm:List Int)(p:Prt)(r:List Int):Sub:=
 (s.1,(w:Int),s.2.2.1,s.2.2.2.1,s.2.2.2.2.1,s.2.2.2.2.2.1,s.2.2.2.2.2.2.1,s.2.2.2.2.2.2.2.1,wm,p,r,())
theorem d4q{s:Sub}(h:SmallS s)(k:Int):a8b (k,s)=some (a0C k s):=by
 have hc:short s.2.2.2.2.2.1:=by have:=h.coefs;unfold short;omega
 have hst:short s.2.2.2.2.2.2.2.1:=by have:=h.stages;unfold short;omega
 obtain⟨k',w,o,sh,lag,c,t,st,wm,p,r,u⟩:=s;simp only at hc hst;unfold a8b a0C
 by_cases k2:k=2
 subst k2;rfl
 by_cases k4:k=4
 subst k4;simp[b5U hc]
 by_cases k3:k=3
 subst k3;simp[b5U hc]
 by_cases k5:k=5
 subst k5;simp[c3A hst];have e2:(k==2)=false:=by simp[k2]
 have e3:(k==3)=false:=by simp[k3]
 have e4:(k==4)=false:=by simp[k4]
 have e5:(k==5)=false:=by simp[k5]
 simp[e2,e3,e4,e5,k2,k3,k4,k5]
theorem c2u{s:Sub}(h:SmallS s)(k:Int):SmallS (a0C k s):=by
 have h1:=h.coefs;have h2:=h.taps;have h3:=h.stages;refine⟨?_,?_,?_,by simp[a0C],by simp[a0C],by simp[a0C]⟩<;>simp only[a0C]<;>split<;>first|omega|simp
theorem b5W{s:Sub}{k n:Int}:a3A (a0C k s).1 (a0C k s) n↔a3A k s n:=by
 unfold a3A a0C;constructor
 rintro(h|h|⟨h,h1⟩|⟨h,h1⟩|⟨h,h1⟩|⟨h,h1⟩)
 exact .inl h;exact .inr (.inl h);simp only at h;subst h;simpa using h1;simp only at h;subst h;simpa using h1;simp only at h;subst h;simpa using h1;simp only at h;subst h;simpa using h1
 rintro(h|h|⟨h,h1⟩|⟨h,h1⟩|⟨h,h1⟩|⟨h,h1⟩)
 exact .inl h;exact .inr (.inl h);subst h;simpa using h1;subst h;simpa using h1;subst h;simpa using h1;subst h;simpa using h1
open Classical in
def a2e (l:List Int):Nat:=if h:∃w,a9q l w then h.choose else 0
theorem d1q{l:List Int}{w:Nat}(h:a9q l w):a2e l=w:=by
 unfold a2e;rw[dif_pos ⟨w,h⟩];exact(Classical.choose_spec (⟨w,h⟩:∃w,a9q l w)).unique h
def a0F(l:List Int):List Int:=l.map fun x=>a0m .i64 x (a2e l:Int)
theorem a9r{l:List Int}(hs:short l)(hw:l.all a0b=true):a5j l=some ((a2e l:Nat):Int)∧a2e l≤30∧a9q l (a2e l):=by
 obtain⟨w,h1,h3,h4⟩:=c4p hs hw;rw[d1q h4];exact⟨h1,h3,h4⟩
theorem c2v{l:List Int}(hs:short l)(hw:l.all a0b=true):a7I l=some ((a2e l:Nat):Int):=by
 obtain⟨w,h1,-,h4⟩:=c8d hs hw;rw[d1q h4];exact h1
theorem a5T{l:List Int}(hs:l.length≤4096)(hw:l.all a0b=true):b3x ((a2e l:Nat):Int) l=some (a0F l)∧(a0F l).all a0b=true∧(a0F l).length=l.length∧upO ((a2e l:Nat):Int) (a0F l)=some l:=by
 obtain⟨-,h3,h4⟩:=a9r (show short l by unfold short;omega) hw;have h:=d6Z h3 hw h4;exact⟨h,d6X h3 h⟩
theorem c3I{l:List Int}(hs:l.length≤4096)(hw:l.all a0b=true):b4R (l,((a2e l:Nat):Int))=some (a0F l,0):=by
 have hsl:short l:=by unfold short;omega
 have h2:=c2v hsl hw;obtain⟨-,h3,-⟩:=a9r hsl hw;have g1:decide (((a2e l:Nat):Int)<0)=false:=by simp
 have g2:decide (((a2e l:Nat):Int) > 30)=false:=by simp;omega
 have g3:decide (((a2e l:Nat):Int)<((a2e l:Nat):Int))=false:=by simp
 have eu:wrap .u64 ((a2e l:Nat):Int)=((a2e l:Nat):Int):=a1o (by omega)
 have:=a0G (f:=b2X) (fun i:Nat=>(l,((a2e l:Nat):Int),(i:Int),(a0F l).take i,())) l.length (b:=(a0F l,()))
  (fun i hi=>by
   have hlen:(a0F l).length=l.length:=by simp[a0F]
   have hl:lim (((a0F l).take i).length+1)=true:=a0q (by rw[a04];omega);have e:(a0F l).take i++[a0m .i64 l[i] ((a2e l:Nat):Int)]=(a0F l).take (i+1):=by
    rw[←b2q (l:=a0F l) (by omega)];simp[a0F]
   simp only[b2X,dlt hi,cT,a0d hi,oB,eu,g1,cF,hl,a16,e,a0c (show i<1000000 by omega)])
  (by simp only[b2X,dge,cF];rw[a28 (by simp[a0F])])
 simp only[nZ,a53]at this;unfold b4R;simp only[g1,g2,cF,oB,a0B hsl,hw,bT,h2,g3,this]
theorem c8f{l d:List Int}{o k:Int}(hs:short d):a0e a5a (l,o,d,k,(1:Int),([]:List Int),())=some (l,o,k,dif d,()):=by
 have hs':d.length<1000000:=hs
 have:=a0G (f:=a5a) (fun i:Nat=>(l,o,d,k,((i+1:Nat):Int),(dif d).take i,())) (d.length-1) (b:=(l,o,k,dif d,()))
  (fun i hi=>by
   have h1:i+1<d.length:=by omega
   have h2:i<d.length:=by omega
   have hl:lim (((dif d).take i).length+1)=true:=a0q (by rw[a04,a4l];omega);have e1:wrap .i64 (((i+1:Nat):Int)-1)=(i:Int):=by rw[a0l (by omega)];omega
   have hg:=c2M d i _ _ (lG h2) (lG h1);have hlt:i<(dif d).length:=by rw[a4l];omega
   have e:(dif d).take i++[wrap .i64 (d[i+1]-d[i])]=(dif d).take (i+1):=by
    rw[←b2q hlt];congr 2
    have:=lG hlt
    rw[hg]at this;exact Option.some.inj this
   simp only[a5a,dlt h1,cT,a0d h1,e1,a0d h2,oB,hl,a16,e,a0c (show i+1<1000000 by omega)])
  (by
   have d0:decide (((d.length-1+1:Nat):Int)<((d.length:Nat):Int))=false:=decide_eq_false (by omega);simp only[a5a,d0,cF];rw[a28 (by rw[a4l];omega)])
 simpa using this
theorem b7e{l:List Int}{o:Nat}(ho:o≤4)(hn:o≤l.length)(hs:short l)(hw:l.all a0b=true):
  a3g (l,(o:Int))=some (bif (a1I o l).all a0b then(a1I o l,0)else([],6)):=by
 have hs':l.length<1000000:=hs;have loop:=a0G (f:=a7l) (fun k:Nat=>(l,(o:Int),a1I k l,(k:Int),())) o (b:=(l,a1I o l,()))
  (fun k hk=>by
   have d0:decide ((k:Int)<(o:Int))=true:=by simp;omega
   simp only[a7l,d0,cT,c8f (b3v hs k),oB,a0c (show k<1000000 by omega),a1I])
  (by
   have d0:decide ((o:Int)<(o:Int))=false:=by simp
   simp only[a7l,d0,cF])
 have c1:decide ((o:Int)<0)=false:=by simp
 have c2:decide ((o:Int) > 4)=false:=by simp;omega
 have c3:decide (((l.length:Nat):Int)<(o:Int))=false:=by simp;omega
 have c4:lim (0+l.length)=true:=a9Z (by omega);simp only[nZ]at loop;have e0:a1I 0 l=l:=rfl;rw[e0]at loop;unfold a3g;simp only[c1,c2,c3,c4,cF,cT,oB,a16,a17,loop,a0B hs,hw,bT,a0B (b3v hs o)];cases (a1I o l).all a0b<;>rfl
def a3j(k:Int)(s:Sub)(d:List Int):Option (List Int×List Int):=
 if k=2 then(bif (a1I s.2.2.1.toNat d).all a0b then some (d.take s.2.2.1.toNat,a1I s.2.2.1.toNat d)else none)
 else if k=3 then(b1P d s.2.2.2.2.2.1 s.2.2.2.1).map fun r=>(d.take s.2.2.2.2.2.1.length,r)
 else if k=4 then(b0i d s.2.2.2.2.1 s.2.2.2.2.2.2.1).bind fun x=>(b1P x s.2.2.2.2.2.1 s.2.2.2.1).map fun r=>(x.take s.2.2.2.2.2.1.length,r)
 else(b0N d s.2.2.2.2.2.2.2.1).map fun r=>([],r)
theorem c4t{k:Int}{s:Sub}{d wm r:List Int}(hk:k=2∨k=3∨k=4∨k=5)(hf:a3A k s (d.length:Int))(hw:d.all a0b=true)(h:a3j k s d=some (wm,r)):
  wm.length≤d.length∧r.length=d.length-wm.length∧r.all a0b=true∧wm.all a0b=true:=by
 have hf':=hf;simp only[a3A]at hf';rcases hk with rfl|rfl|rfl|rfl
 ·have:0≤s.2.2.1∧s.2.2.1≤(d.length:Int):=by simp at hf';omega
  simp only[a3j,if_true]at h;cases hq:(a1I s.2.2.1.toNat d).all a0b with
  |false=>simp[hq]at h
  |true=>
   simp only[hq,cT,sj,pJ]at h;obtain⟨rfl,rfl⟩:=h;refine⟨by rw[a04];omega,by rw[a5Y,a04];omega,hq,a8L hw _⟩
 have:(s.2.2.2.2.2.1.length:Int)≤(d.length:Int):=by simp at hf';omega
 simp only[a3j,show ¬ (3:Int)=2 by decide,if_false,if_true,a30,pJ]at h;obtain⟨r',h1,rfl,rfl⟩:=h;obtain⟨-,h2,h3⟩:=c0o h1;exact⟨by rw[a04];omega,by rw[h3,a04];omega,h2,a8L hw _⟩
 have:(s.2.2.2.2.2.1.length:Int)≤(d.length:Int):=by simp at hf';omega
 simp only[a3j,show ¬ (4:Int)=2 by decide,show ¬ (4:Int)=3 by decide,if_false,if_true,a50,a30,pJ]at h;obtain⟨x,h0,r',h1,rfl,rfl⟩:=h;obtain⟨-,g2,g3⟩:=b2r h0;obtain⟨-,h2,h3⟩:=c0o h1;exact⟨by rw[a04];omega,by rw[h3,a04];omega,h2,a8L g2 _⟩;simp only[a3j,show ¬ (5:Int)=2 by decide,show ¬ (5:Int)=3 by decide,show ¬ (5:Int)=4 by decide,if_false,a30,pJ]at h;obtain⟨r',h1,rfl,rfl⟩:=h;obtain⟨-,h2,h3⟩:=c5O h1;exact⟨by simp,by simpa using h3,h2,rfl⟩
theorem d5z{k:Int}{s:Sub}{d:List Int}(hk:k=2∨k=3∨k=4∨k=5)(h:SmallS s)(hf:a3A k s (d.length:Int))(hd:d.length≤4096)(hw:d.all a0b=true)(w:Nat):
  b4o (a1P (a0C k s) w [] z0 [],d)=some (match a3j k s d with|none=>(6,a1P (a0C k s) w [] z0 [])|some (wm,r)=>(0,a1P (a0C k s) w wm z0 r)):=by
 have ht:=h.taps;have hst:=h.stages;have hsd:short d:=by unfold short;omega
 obtain⟨k',w',o,sh,lag,c,t,st,wm',p,r',u⟩:=s;simp only[a3A]at hf ht hst;unfold b4o;rcases hk with rfl|rfl|rfl|rfl
 ·obtain⟨h0,h4,hn⟩:0≤o∧o≤4∧o≤(d.length:Int):=by simp at hf;omega
  obtain⟨O,rfl⟩:=a03 h0;have hst:short (d.take O):=by unfold short;rw[a04];omega
  have e2:decide ((O:Int)≤((d.length:Nat):Int))=true:=by simp;omega
  simp only[a1P,a0C,a3j,if_true,show((2:Int)==2)=true from rfl,cT,b5r (show O≤4 by omega) (show O≤d.length by omega) hsd hw,oB,tN];cases (a1I O d).all a0b with
  |false=>rfl
  |true=>simp[b4V,a0O,show O≤d.length by omega,a8G hst]
 ·obtain⟨hl,hn⟩:a6y c sh=true∧(c.length:Int)≤(d.length:Int):=by simpa using hf
  have hst:short (d.take c.length):=by unfold short;rw[a04];omega
  have e1:decide ((0:Int)≤((c.length:Nat):Int))=true:=by simp
  have e2:decide (((c.length:Nat):Int)≤((d.length:Nat):Int))=true:=by simp;omega
  simp only[a1P,a0C,a3j,show((3:Int)==2)=false from rfl,show((3:Int)==3)=true from rfl,show ¬ (3:Int)=2 by decide,show ¬ (3:Int)=4 by decide,show ¬ (3:Int)=5 by decide,true_or,if_true,if_false,cT,cF,b9r hl (show c.length≤d.length by omega) (show d.length<100000 by omega),oB];cases b1P d c sh with
  |none=>rfl
  |some r=>simp[a1d,b4V,a0O,show c.length≤d.length by omega,a8G hst]
 ·obtain⟨hl,hn,hlg⟩:a6y c sh=true∧(c.length:Int)≤(d.length:Int)∧a5R lag t=true:=by simpa using hf
  simp only[a1P,a0C,a3j,show((4:Int)==2)=false from rfl,show((4:Int)==3)=false from rfl,show((4:Int)==4)=true from rfl,show ¬ (4:Int)=2 by decide,show ¬ (4:Int)=3 by decide,show ¬ (4:Int)=5 by decide,or_true,if_true,if_false,cT,cF,b7d hlg ht (show d.length<100000 by omega),oB];cases hx:b0i d lag t with
  |none=>rfl
  |some x=>
   obtain⟨-,g2,g3⟩:=b2r hx;have hst:short (x.take c.length):=by unfold short;rw[a04];omega
   have e1:decide ((0:Int)≤((c.length:Nat):Int))=true:=by simp
   have e2:decide (((c.length:Nat):Int)≤((x.length:Nat):Int))=true:=by simp;omega
   simp only[a1d,show((0:Int)==0)=true from rfl,cT,b9r hl (show c.length≤x.length by omega) (show x.length<100000 by omega),oB];cases b1P x c sh with
   |none=>rfl
   |some r=>simp[a1d,b4V,a0O,show c.length≤x.length by omega,a8G hst]
 ·obtain⟨hn,hlr⟩:0<st.length∧a5J st=true:=by simpa using hf
  have hst:short (d.take 0):=by simp[short]
  simp only[a1P,a0C,a3j,show((5:Int)==2)=false from rfl,show((5:Int)==3)=false from rfl,show((5:Int)==4)=false from rfl,show((5:Int)==5)=true from rfl,show ¬ (5:Int)=2 by decide,show ¬ (5:Int)=3 by decide,show ¬ (5:Int)=4 by decide,or_self,if_true,if_false,cT,cF,c8c hlr (show d.length<100000 by omega),oB];cases b0N d st with
  |none=>rfl
  |some r=>
   have e1:decide ((0:Int)≤((d.length:Nat):Int))=true:=by simp
   have hc:=a8G hst;simp only[a53]at hc;simp[a1d,b4V,a0O,e1,hc]
theorem d7a{k:Int}{s:Sub}{d:List Int}(hk:k=2∨k=3∨k=4∨k=5)(h:SmallS s)(hf:a3A k s (d.length:Int))(hd:d.length≤4096)(hw:d.all a0b=true)(w:Nat):
  (a3j k s d=none→∃a b,b0F (a1P (a0C k s) w [] z0 [],d)=some (a,b,6))∧
   (∀wm r,a3j k s d=some (wm,r)→b0F (a1P (a0C k s) w [] z0 [],d)=some (wm,r,0)):=by
 have ht:=h.taps;have hst:=h.stages;have hsd:short d:=by unfold short;omega
 obtain⟨k',w',o,sh,lag,c,t,st,wm',p,r',u⟩:=s;simp only[a3A]at hf ht hst;unfold b0F;rcases hk with rfl|rfl|rfl|rfl
 ·obtain⟨h0,h4,hn⟩:0≤o∧o≤4∧o≤(d.length:Int):=by simp at hf;omega
  obtain⟨O,rfl⟩:=a03 h0;have e1:decide ((0:Int)≤(O:Int))=true:=by simp
  have e2:decide ((O:Int)≤((d.length:Nat):Int))=true:=by simp;omega
  simp only[a1P,a0C,a3j,if_true,show((2:Int)==2)=true from rfl,cT,b7e (show O≤4 by omega) (show O≤d.length by omega) hsd hw,oB,tN,e1,e2,a02];cases (a1I O d).all a0b with
  |false=>exact⟨fun _=>⟨_,_,rfl⟩,fun _ _ h=>by cases h⟩
  |true=>exact⟨fun h=>(by cases h),fun wm r h=>by cases h;rfl⟩
 ·obtain⟨hl,hn⟩:a6y c sh=true∧(c.length:Int)≤(d.length:Int):=by simpa using hf
  have e1:decide ((0:Int)≤((c.length:Nat):Int))=true:=by simp
  have e2:decide (((c.length:Nat):Int)≤((d.length:Nat):Int))=true:=by simp;omega
  simp only[a1P,a0C,a3j,show((3:Int)==2)=false from rfl,show((3:Int)==3)=true from rfl,show((3:Int)==4)=false from rfl,show ¬ (3:Int)=2 by decide,show ¬ (3:Int)=4 by decide,show ¬ (3:Int)=5 by decide,true_or,if_true,if_false,cT,cF,oB,b5A hl (show c.length≤d.length by omega) (show d.length<100000 by omega),e1,e2,a02,tN];cases b1P d c sh with
  |none=>exact⟨fun _=>⟨_,_,rfl⟩,fun _ _ h=>by cases h⟩
  |some r=>exact⟨fun h=>(by cases h),fun wm r h=>by cases h;rfl⟩
 ·obtain⟨hl,hn,hlg⟩:a6y c sh=true∧(c.length:Int)≤(d.length:Int)∧a5R lag t=true:=by simpa using hf
  simp only[a1P,a0C,a3j,show((4:Int)==2)=false from rfl,show((4:Int)==3)=false from rfl,show((4:Int)==4)=true from rfl,show ¬ (4:Int)=2 by decide,show ¬ (4:Int)=3 by decide,show ¬ (4:Int)=5 by decide,or_true,if_true,if_false,cT,cF,oB,b3y hlg ht (show d.length<100000 by omega)];cases hx:b0i d lag t with
  |none=>exact⟨fun _=>⟨_,_,rfl⟩,fun _ _ h=>by cases h⟩
  |some x=>
   obtain⟨-,g2,g3⟩:=b2r hx;have e1:decide ((0:Int)≤((c.length:Nat):Int))=true:=by simp
   have e2:decide (((c.length:Nat):Int)≤((x.length:Nat):Int))=true:=by simp;omega
   simp only[a1d,show((0:Int) != 0)=false from rfl,cF,oB,b5A hl (show c.length≤x.length by omega) (show x.length<100000 by omega),e1,e2,a02,cT,tN];cases b1P x c sh with
   |none=>exact⟨fun _=>⟨_,_,rfl⟩,fun _ _ h=>by cases h⟩
   |some r=>exact⟨fun h=>(by cases h),fun wm r h=>by cases h;rfl⟩
 ·obtain⟨hn,hlr⟩:0<st.length∧a5J st=true:=by simpa using hf
  simp only[a1P,a0C,a3j,show((5:Int)==2)=false from rfl,show((5:Int)==3)=false from rfl,show((5:Int)==4)=false from rfl,show((5:Int)==5)=true from rfl,show ¬ (5:Int)=2 by decide,show ¬ (5:Int)=3 by decide,show ¬ (5:Int)=4 by decide,or_self,if_true,if_false,cT,cF,oB,c4n hlr (show d.length<100000 by omega)];cases b0N d st with
  |none=>exact⟨fun _=>⟨_,_,rfl⟩,fun _ _ h=>by cases h⟩
  |some r=>exact⟨fun h=>(by cases h),fun wm r h=>by cases h;rfl⟩
end Go.Ab
namespace Go.Ab
open Classical in

def a1n (k:Int) (l:List Int) (s:Sub):Sub×Int:=
 if ¬ (1≤l.length∧l.length≤4096∧a3A k s (l.length:Int))then(a0Q 0,1)
 else if l.all a0b=false then(a0Q 0,6)
 else if k=0 then(bif l.all (fun x=>x==l.headD 0)then(a1P (a0C 0 s) 0 [l.headD 0] z0 [],0)else(a0Q 0,7))
 else if k=1 then(a1P (a0C 1 s) (a2e l) (a0F l) z0 [],0)
 else match a3j k s (a0F l)with
  |none=>(a0Q 0,6)
  |some (wm,r)=>(a1P (a0C k s) (a2e l) wm (b4D (l.length:Int) (wm.length:Int) r) r,0)
theorem c5T{l:List Int}(h:1≤l.length):a0r l 0=some (l.headD 0):=by
 cases l with
 |nil=>simp at h
 |cons a l=>rfl
theorem c9M{l:List Int}(h1:1≤l.length)(hs:short l)(a b:Sub):
  a0e a6Q (l,l,(l.length:Int),(0:Int),a,b,())=some (bif l.all (fun x=>x==l.headD 0)then .inl (l,a,b,())else .inr ((7:Int),a0Q 0,())):=by
 have:=a1V (f:=a6Q) l (fun i=>(l,l,(l.length:Int),(i:Int),a,b,())) (fun x=>x==l.headD 0) (bt:=Sum.inl (l,a,b,())) (bf:=Sum.inr ((7:Int),a0Q 0,()))
  (fun i h hp=>by
   have hne:(l[i] != l.headD 0)=false:=by simpa using hp
   simp only[a6Q,dlt h,cT,a0d h,oB,c5T h1,hne,cF,a0c (a24 h hs)])
  (fun i h hp=>by
   have hne:(l[i] != l.headD 0)=true:=by simpa using hp
   simp only[a6Q,dlt h,cT,a0d h,oB,c5T h1,hne];rfl)
  (by simp[a6Q])
 simpa using this
theorem c9N{l:List Int}(h1:1≤l.length)(hs:short l):b4w l=some (l.all (fun x=>x==l.headD 0)):=by
 have hg:∀i (h:i<l.length),(l[i]==l.headD 0)=true→a6l (l,(i:Int),())=some (.inl (l,((i+1:Nat):Int),())):=fun i h hp=>by
  have hne:(l[i] != l.headD 0)=false:=by simpa using hp
  simp only[a6l,dlt h,cT,a0d h,oB,c5T h1,hne,cF,a0c (a24 h hs)]
 have:=a1V (f:=a6l) l (fun i=>(l,(i:Int),())) (fun x=>x==l.headD 0) (bt:=Sum.inl ()) (bf:=Sum.inr (false,())) hg
  (fun i h hp=>by
   have hne:(l[i] != l.headD 0)=true:=by simpa using hp
   simp only[a6l,dlt h,cT,a0d h,oB,c5T h1,hne])
  (by simp[a6l])
 rw[a0k (hg 0 h1 (by cases l with|nil=>simp at h1|cons a l=>simp))]at this;unfold b4w;rw[show((0+1:Nat):Int)=1 from rfl]at this;rw[this];cases l.all (fun x=>x==l.headD 0)<;>rfl
theorem b8G{k n:Int}{s:Sub}(h:a3A k s n)(h0:k≠0)(h1:k≠1):k=2∨k=3∨k=4∨k=5:=by
 rcases h with h|h|⟨h,-⟩|⟨h,-⟩|⟨h,-⟩|⟨h,-⟩;exact absurd h h0;exact absurd h h1;exact .inl h;exact .inr (.inl h);exact .inr (.inr (.inl h));exact .inr (.inr (.inr h))
theorem d7b{s:Sub}(h:SmallS s)(k:Int){l:List Int}(hl:l.length≤100000):b2O (k,l,s)=some (a1n k l s):=by
 have hs:short l:=by unfold short;omega
 unfold b2O a1n
 by_cases h1:1≤l.length
 rotate_left;have e:decide (((l.length:Nat):Int)<1)=true:=decide_eq_true (by omega);rw[if_pos (fun hc=>h1 hc.1)];simp only[e,cT,oB];rfl;have e1:decide (((l.length:Nat):Int)<1)=false:=decide_eq_false (by omega)
 by_cases h2:l.length≤4096
 rotate_left;have e:decide (((l.length:Nat):Int) > 4096)=true:=decide_eq_true (by omega);rw[if_pos (fun hc=>h2 hc.2.1)];simp only[e1,e,cT,cF,oB];rfl;have e2:decide (((l.length:Nat):Int) > 4096)=false:=decide_eq_false (by omega)
 by_cases h3:a3A k s (l.length:Int)
 rotate_left;have e3:b8B k s (l.length:Int)=false:=by simp[b8B,h3]
 rw[if_pos (fun hc=>h3 hc.2.2)];simp only[e1,e2,c2f h,e3,cF,a07,cT,oB];rfl;have e3:b8B k s (l.length:Int)=true:=by simp[b8B,h3]
 rw[if_neg (fun hc=>hc ⟨h1,h2,h3⟩)];simp only[e1,e2,c2f h,e3,cF,bT,oB,a6m hs];cases hw:l.all a0b with
 |false=>rfl
 |true=>
  simp only[bT,cF,d4q h,oB];rw[if_neg (by decide)]
  by_cases h0:k=0
  ·subst h0;have hf:=c9M h1 hs (a0Q 0) (a0C 0 s);have ez:a0Q 0=((0:Int),(0:Int),(0:Int),(0:Int),(0:Int),([]:(List Int)),a00 3 (0:Int),([]:(List (Int×Int×Unit))),([]:(List Int)),((0:Int),([]:(List Int)),()),([]:(List Int)),()):=rfl;rw[←ez,if_pos rfl];simp only[show((0:Int)==0)=true from rfl,cT,hf,oB];cases l.all (fun x=>x==l.headD 0)with
   |false=>rfl
   |true=>simp only[cT,c5T h1,oB];rfl
  ·obtain⟨w1,w3,-⟩:=a9r hs hw;obtain⟨d1,d2,d3,-⟩:=a5T h2 hw;have he0:(k==0)=false:=by simp[h0]
   rw[if_neg h0];simp only[he0,cF,w1,oB,b9q w3 (show l.length<100000 by omega),d1,a1d,show((0:Int) != 0)=false from rfl]
   by_cases hk1:k=1
   subst hk1;rfl
   ·have he1:(k==1)=false:=by simp[hk1]
    have hk:=b8G h3 h0 hk1;rw[if_neg hk1];have hsp:=d5z hk h (d:=a0F l) (by rw[d3];exact h3) (by omega) d2 (a2e l);have e4:((a0C k s).1,((a2e l:Nat):Int),(a0C k s).2.2)=a1P (a0C k s) (a2e l) [] z0 []:=rfl;simp only[he1,cF,e4,hsp,oB];cases hr:a3j k s (a0F l)with
    |none=>rfl
    |some q=>
     obtain⟨wm,r⟩:=q;obtain⟨r1,r2,r3,-⟩:=c4t hk (by rw[d3];exact h3) d2 hr;have hrow:a3z (l.length:Int) (wm.length:Int)=true:=by simp only[a3z,bA,dT];omega
     have hb:=c8e hrow (l:=r) (by omega) r3 (by omega);simp only[show((0:Int) != 0)=false from rfl,cF,a1P,hb,oB]
theorem d0N{s:Sub}(h:SmallS s)(k:Int){l:List Int}(hl:l.length≤100000):b1I (k,l,s)=some (a1n k l s):=by
 have hs:short l:=by unfold short;omega
 have hz:a0Q 0=((0:Int),(0:Int),(0:Int),(0:Int),(0:Int),([]:(List Int)),a00 3 (0:Int),([]:(List (Int×Int×Unit))),([]:(List Int)),((0:Int),([]:(List Int)),()),([]:(List Int)),()):=rfl;have hch:(show Option (Int×(List Int×(Int×Sub×Sub×Unit)))from
   bif k==(2:Int)then some (k,l,((l.length:Nat):Int),a0Q 0,(k,(0:Int),s.2.2.1,(0:Int),(0:Int),([]:(List Int)),a00 3 (0:Int),([]:List Stg),([]:(List Int)),((0:Int),([]:(List Int)),()),([]:(List Int)),()),())
   else(bif k==(3:Int)then some (k,l,((l.length:Nat):Int),a0Q 0,(k,(0:Int),(0:Int),s.2.2.2.1,(0:Int),s.2.2.2.2.2.1,a00 3 (0:Int),([]:List Stg),([]:(List Int)),((0:Int),([]:(List Int)),()),([]:(List Int)),()),())
   else(bif k==(4:Int)then some (k,l,((l.length:Nat):Int),a0Q 0,(k,(0:Int),(0:Int),s.2.2.2.1,s.2.2.2.2.1,s.2.2.2.2.2.1,s.2.2.2.2.2.2.1,([]:List Stg),([]:(List Int)),((0:Int),([]:(List Int)),()),([]:(List Int)),()),())
   else(bif k==(5:Int)then some (k,l,((l.length:Nat):Int),a0Q 0,(k,(0:Int),(0:Int),(0:Int),(0:Int),([]:(List Int)),a00 3 (0:Int),s.2.2.2.2.2.2.2.1,([]:(List Int)),((0:Int),([]:(List Int)),()),([]:(List Int)),()),())
   else some (k,l,((l.length:Nat):Int),a0Q 0,(k,(0:Int),(0:Int),(0:Int),(0:Int),([]:(List Int)),a00 3 (0:Int),([]:List Stg),([]:(List Int)),((0:Int),([]:(List Int)),()),([]:(List Int)),()),())))))=some (k,l,((l.length:Nat):Int),a0Q 0,a0C k s,()):=by
  unfold a0C
  by_cases k2:k=2
  subst k2;rfl
  by_cases k3:k=3
  subst k3;rfl
  by_cases k4:k=4
  subst k4;rfl
  by_cases k5:k=5
  subst k5;rfl;have e2:(k==2)=false:=by simp[k2]
  have e3:(k==3)=false:=by simp[k3]
  have e4:(k==4)=false:=by simp[k4]
  have e5:(k==5)=false:=by simp[k5]
  simp[e2,e3,e4,e5,k2,k3,k4,k5]
 unfold b1I a1n;simp only[←hz];simp only[]at hch;rw[hch];simp only[oB]
 by_cases h1:1≤l.length
 rotate_left;have e:decide (((l.length:Nat):Int)<1)=true:=decide_eq_true (by omega);rw[if_pos (fun hc=>h1 hc.1)];simp only[e,cT,oB];have e1:decide (((l.length:Nat):Int)<1)=false:=decide_eq_false (by omega)
 by_cases h2:l.length≤4096
 rotate_left;have e:decide (((l.length:Nat):Int) > 4096)=true:=decide_eq_true (by omega);rw[if_pos (fun hc=>h2 hc.2.1)];simp only[e1,e,cT,cF,oB];have e2:decide (((l.length:Nat):Int) > 4096)=false:=decide_eq_false (by omega);have hcs:=c2u h k
 by_cases h3:a3A k s (l.length:Int)
 rotate_left;have e3:decide (b1o (a0C k s) (l.length:Int)<0)=true:=by simp[b1o,b5W,h3]
 rw[if_pos (fun hc=>h3 hc.2.2)];simp only[e1,e2,c4i hcs,e3,cF,cT,oB];have e3:decide (b1o (a0C k s) (l.length:Int)<0)=false:=by
  have:=b8C hcs (n:=(l.length:Int)) (by omega) (by omega) (b5W.2 h3)
  simp[b1o,b5W,h3];omega
 rw[if_neg (fun hc=>hc ⟨h1,h2,h3⟩)];simp only[e1,e2,c4i hcs,e3,cF,oB,a0B hs];cases hw:l.all a0b with
 |false=>rfl
 |true=>
  simp only[bT,cF,oB];rw[if_neg (by decide)]
  by_cases h0:k=0
  ·subst h0;rw[if_pos rfl];simp only[show((0:Int)==0)=true from rfl,cT,c9N h1 hs,oB];cases l.all (fun x=>x==l.headD 0)with
   |false=>rfl
   |true=>
    have e4:decide ((1:Int)≤((l.length:Nat):Int))=true:=decide_eq_true (by omega);have e5:a70 1 l=[l.headD 0]:=by cases l with|nil=>simp at h1|cons a l=>rfl
    simp only[bT,cF,e4,cT,e5];rfl
  ·have w1:=c2v hs hw;obtain⟨d1,d2,d3,-⟩:=a5T h2 hw;have he0:(k==0)=false:=by simp[h0]
   rw[if_neg h0];have e4:((a0C k s).1,((a2e l:Nat):Int),(a0C k s).2.2)=a1P (a0C k s) (a2e l) [] z0 []:=rfl;simp only[he0,cF,w1,oB,c3I h2 hw,e4]
   by_cases hk1:k=1
   subst hk1;have hlf:b0F (a1P (a0C 1 s) (a2e l) [] z0 [],a0F l)=some (a0F l,([]:List Int),0):=rfl;have hg:=a5S 1;simp only[hlf,oB,show((0:Int) != 0)=false from rfl,cF,hg];rfl
   ·have hk:=b8G h3 h0 hk1;rw[if_neg hk1];obtain⟨q1,q2⟩:=d7a hk h (d:=a0F l) (by rw[d3];exact h3) (by omega) d2 (a2e l);cases hr:a3j k s (a0F l)with
    |none=>
     obtain⟨a,b,q⟩:=q1 hr;simp only[q,oB,show((6:Int) != 0)=true from rfl,cT]
    |some q=>
     obtain⟨wm,r⟩:=q;obtain⟨r1,r2,r3,-⟩:=c4t hk (by rw[d3];exact h3) d2 hr;have hrow:a3z (l.length:Int) (wm.length:Int)=true:=by simp only[a3z,bA,dT];omega
     have hb:=c4s hrow (l:=r) (by omega) r3 (by omega);have hg:a5u k=some true:=by rw[a5S];congr 1;simp;omega
     simp only[q2 wm r hr,oB,show((0:Int) != 0)=false from rfl,cF,hg,cT,hb];rfl
end Go.Ab
namespace Go.Ab
theorem d4r{p:Prt}{n warm:Int}(h:a2Z p n warm=true):p.2.1.length≤256:=by
 simp only[a2Z,bA,a37,beq_eq_false_iff_ne,ne_eq,beq_iff_eq]at h;obtain⟨zn,h1,-,h3⟩:=b8E h.1;rw[←h.2.1,h1,a1a];exact h3
theorem c0t{s:Sub}(h:SmallS s){w:Nat}{wm r:List Int}{p:Prt}(h1:wm.length≤5000)(h2:r.length≤5000)(h3:p.2.1.length≤300):SmallS (a1P s w wm p r):=
 ⟨h.coefs,h.taps,h.stages,h1,h2,h3⟩
theorem d2Z{k:Int}{l:List Int}{s:Sub}(h0:(a1n k l s).2=0):
  1≤l.length∧l.length≤4096∧a3A k s (l.length:Int)∧l.all a0b=true∧
   ((k=0∧l.all (fun x=>x==l.headD 0)=true∧(a1n k l s).1=a1P (a0C 0 s) 0 [l.headD 0] z0 [])∨
    (k=1∧(a1n k l s).1=a1P (a0C 1 s) (a2e l) (a0F l) z0 [])∨
     ((k=2∨k=3∨k=4∨k=5)∧∃wm r,a3j k s (a0F l)=some (wm,r)∧(a1n k l s).1=a1P (a0C k s) (a2e l) wm (b4D (l.length:Int) (wm.length:Int) r) r)):=by
 unfold a1n at h0⊢
 split at h0
 cases h0;rename_i hc;have hc:1≤l.length∧l.length≤4096∧a3A k s (l.length:Int):=Classical.byContradiction hc;refine⟨hc.1,hc.2.1,hc.2.2,?_⟩;rw[if_neg (fun h=>h hc)]
 split at h0
 cases h0;rename_i hw;have hw':l.all a0b=true:=by simpa using hw
 refine⟨hw',?_⟩;rw[if_neg hw]
 split at h0
 ·rename_i k0;rw[if_pos k0];cases hq:l.all (fun x=>x==l.headD 0)with
  |false=>rw[hq]at h0;cases h0
  |true=>exact .inl ⟨k0,rfl,rfl⟩
 rename_i k0;rw[if_neg k0]
 split at h0
 rename_i k1;rw[if_pos k1];exact .inr (.inl ⟨k1,rfl⟩);rename_i k1;rw[if_neg k1];refine .inr (.inr ⟨b8G hc.2.2 k0 k1,?_⟩);cases hr:a3j k s (a0F l)with
 |none=>rw[hr]at h0;cases h0
 |some q=>
  obtain⟨wm,r⟩:=q;exact⟨wm,r,rfl,rfl⟩
theorem b7f{s:Sub}{k:Int}{w:Nat}{wm r:List Int}{p:Prt}:b4W (a1P (a0C k s) w wm p r):=by
 unfold b4W a1P a0C;refine⟨fun h=>if_neg h,fun h=>if_neg (not_or.2 h),fun h=>if_neg h,fun h=>if_neg h,fun h=>if_neg (not_or.2 h),fun h=>if_neg h⟩
theorem c4u{s:Sub}{k n:Int}{w:Nat}{wm r:List Int}{p:Prt}(h:a3A k s n):a3A (a1P (a0C k s) w wm p r).1 (a1P (a0C k s) w wm p r) n:=b5W.2 h
theorem d5A{l:List Int}(h:l.all (fun x=>x==l.headD 0)=true):a00 l.length (l.headD 0)=l:=by
 refine(List.eq_replicate_iff.2 ⟨rfl,fun x hx=>?_⟩).symm
 have:=lA.1 h x hx
 simpa using this
theorem c2P{k:Int}{l:List Int}{s:Sub}(hS:SmallS s)(h0:(a1n k l s).2=0):
  SmallS (a1n k l s).1∧(a1n k l s).1.1=k∧a1H (a1n k l s).1 (l.length:Int)∧a3B (a1n k l s).1 (l.length:Int)=some l:=by
 obtain⟨h1,h2,hf,hw,hc⟩:=d2Z h0;have hs:short l:=by unfold short;omega
 obtain⟨-,w3,-⟩:=a9r hs hw;obtain⟨d1,d2,d3,d4⟩:=a5T h2 hw;have key:∀m:Sub,a1H m (l.length:Int)→c2h m (l.length:Int)=some l→a3B m (l.length:Int)=some l:=fun m g1 g2=>by unfold a3B;rw[if_pos g1,g2]
 have hcs:=c2u hS k;rcases hc with⟨rfl,hall,e⟩|⟨rfl,e⟩|⟨hk,wm,r,hr,e⟩
 ·rw[e];have hst:a1H (a1P (a0C 0 s) 0 [l.headD 0] z0 []) (l.length:Int):=by
   have hh:a0b (l.headD 0)=true:=by
    cases l with
    |nil=>rfl
    |cons a l=>exact lA.1 hw _ a65
   exact⟨by omega,by omega,c4u hf,b7f,Int.le_refl _,(by decide:(0:Int)≤30),fun _=>rfl,rfl,by simp only[a1P,a23,hh,List.all_nil];rfl,rfl,fun _=>⟨rfl,rfl,rfl⟩,fun h=>absurd rfl h.1⟩
  refine⟨c0t hcs (by simp) (by simp) (by simp[z0]),rfl,hst,key _ hst ?_⟩;show some (a00 (l.length:Int).toNat (l.headD 0))=some l;rw[tN,d5A hall]
 rw[e];have hst:a1H (a1P (a0C 1 s) (a2e l) (a0F l) z0 []) (l.length:Int):=
  ⟨by omega,by omega,c4u hf,b7f,a66 _,(by show((a2e l:Nat):Int)≤30;omega),fun h=>absurd h (by decide:¬ (1:Int)=0),by show(((a0F l).length:Nat):Int)=(l.length:Int);rw[d3],d2,rfl,fun _=>⟨rfl,rfl,rfl⟩,fun h=>absurd rfl h.2⟩
 refine⟨c0t hcs (by omega) (by simp) (by simp[z0]),rfl,hst,key _ hst ?_⟩;show upO ((a2e l:Nat):Int) (a0F l)=some l;exact d4
 ·rw[e];obtain⟨r1,r2,r3,r4⟩:=c4t hk (by rw[d3];exact hf) d2 hr;have hrow:a3z (l.length:Int) (wm.length:Int)=true:=by simp only[a3z,bA,dT];omega
  have hp:=d5y hrow (l:=r) (by omega) r3 (by omega);generalize b4D (l.length:Int) (wm.length:Int) r=p at hp;have hks:=d4r hp

  have hwb:a0O (a1P (a0C k s) (a2e l) wm p r) (l.length:Int)=(wm.length:Int)∧backP (a1P (a0C k s) (a2e l) wm p r)=some (a0F l):=by
   simp only[a3A]at hf;rcases hk with rfl|rfl|rfl|rfl
   ·obtain⟨q0,q4,qn⟩:0≤s.2.2.1∧s.2.2.1≤4∧s.2.2.1≤(l.length:Int):=by simp at hf;omega
    simp only[a3j,if_true]at hr;cases hq:(a1I s.2.2.1.toNat (a0F l)).all a0b with
    |false=>simp[hq]at hr
    |true=>
     simp only[hq,cT,sj,pJ]at hr;obtain⟨rfl,rfl⟩:=hr;refine⟨?_,?_⟩;show s.2.2.1=_;rw[a04];omega;show c2g ((a0F l).take s.2.2.1.toNat) (a1I s.2.2.1.toNat (a0F l)) s.2.2.1=some (a0F l);have hb:=c9C d2 (o:=s.2.2.1.toNat) (by omega) ((a0F l).length-s.2.2.1.toNat) 0 (by omega);rw[a05,a60]at hb;unfold c2g;rw[a8L d2,hq];exact hb
   have qn:(s.2.2.2.2.2.1.length:Int)≤(l.length:Int):=by simp at hf;omega
   simp only[a3j,show ¬ (3:Int)=2 by decide,if_false,if_true,a30,pJ]at hr;obtain⟨r',g1,rfl,rfl⟩:=hr;obtain⟨g2,-,-⟩:=c0o g1;refine⟨?_,?_⟩;show((s.2.2.2.2.2.1.length:Nat):Int)=_;rw[a04];omega;exact g2;have qn:(s.2.2.2.2.2.1.length:Int)≤(l.length:Int):=by simp at hf;omega
   simp only[a3j,show ¬ (4:Int)=2 by decide,show ¬ (4:Int)=3 by decide,if_false,if_true,a50,a30,pJ]at hr;obtain⟨x,g0,r',g1,rfl,rfl⟩:=hr;obtain⟨f1,-,f3⟩:=b2r g0;obtain⟨g2,-,-⟩:=c0o g1;refine⟨?_,?_⟩;show((s.2.2.2.2.2.1.length:Nat):Int)=_;rw[a04];omega;show(b3o (x.take s.2.2.2.2.2.1.length) r' s.2.2.2.2.2.1 s.2.2.2.1).bind (fun l=>b3p l s.2.2.2.2.1 s.2.2.2.2.2.2.1)=_;rw[g2];exact f1;simp only[a3j,show ¬ (5:Int)=2 by decide,show ¬ (5:Int)=3 by decide,show ¬ (5:Int)=4 by decide,if_false,a30,pJ]at hr;obtain⟨r',g1,rfl,rfl⟩:=hr;obtain⟨g2,-,-⟩:=c5O g1;exact⟨rfl,g2⟩
  have hne:¬ (k=0∨k=1):=by rcases hk with rfl|rfl|rfl|rfl<;>decide
  have hst:a1H (a1P (a0C k s) (a2e l) wm p r) (l.length:Int):=by
   unfold a1H;rw[hwb.1];exact⟨by omega,by omega,c4u hf,b7f,a66 _,(by show((a2e l:Nat):Int)≤30;omega),fun h=>absurd (.inl h) hne,rfl,r4,r3,fun h=>absurd h hne,fun _=>⟨(by show((r.length:Nat):Int)=_;omega),hp⟩⟩
  refine⟨c0t hcs (by omega) (by omega) (by omega),rfl,hst,key _ hst ?_⟩;have e0:¬ (a1P (a0C k s) (a2e l) wm p r).1=0:=fun h=>hne (.inl h);unfold c2h;rw[if_neg e0,hwb.2];exact d4
theorem c5U:SmallS (a0Q 0):=d0G 0
end Go.Ab
namespace Go.Ab
def cS(k o sh:Int)(c:List Int)(st:List Stg):Sub:=
 (k,(0:Int),o,sh,(0:Int),c,a00 3 (0:Int),st,([]:List Int),((0:Int),([]:List Int),()),([]:List Int),())
theorem b4c{k o sh:Int}{c:List Int}{st:List Stg}(h:c.length≤40)(h2:st.length≤6):SmallS (cS k o sh c st):=
 ⟨h,rfl,h2,by simp[cS],by simp[cS],by simp[cS]⟩
def a6G(d:List Int)(o w:Int):List Int×(Int×Int):=(a3q (d,o,w)).getD ([],0,1)
def b1a(d:List Int)(o w:Int):List Sub:=bif (a6G d o w).2.2==0 then[cS 3 0 (a6G d o w).2.1 (a6G d o w).1 []]else[]
def c5V(d:List Int):Int:=(a4Z d).getD 0
def a5v(d:List Int):Sub×Bool:=(a1D d).getD (a0Q 0,false)
def b5s(d:List Int):List Sub:=bif (a5v d).2 then[(a5v d).1]else[]
def a5U(i:Nat):List Sub:=(List.range i).map fun(j:Nat)=>cS 2 (j:Int) 0 [] []
def a1h(d:List Int):List Sub:=[cS 0 0 0 [] [],cS 1 0 0 [] [],cS 2 (c5V d) 0 [] []]
def a1T(d:List Int)(k:Int):List Sub:=if 1≤k then b1a d 4 12++b1a d 8 12 else[]
def a6H(d:List Int)(k:Int):List Sub:=if 2≤k then[cS 5 0 0 [] [((16:Int),(4:Int),())],cS 5 0 0 [] [((32:Int),(3:Int),()),((16:Int),(5:Int),())]]++b5s d else[]
def c2Q(d:List Int)(k:Int):List Sub:=if 3≤k then a5U 5++(b1a d 1 12++(b1a d 2 12++(b1a d 12 14++b1a d 16 14)))else[]
def a3u(d:List Int)(k:Int):List Sub:=a1h d++(a1T d k++(a6H d k++c2Q d k))
def c0u(d:List Int):Prop:=a1D d=some (a5v d)∧((a5v d).2=true→SmallS (a5v d).1)
theorem c9O{d:List Int}(hw:d.all a0b=true)(hl:d.length≤4096){o w:Nat}(h1:1≤o)(h2:o≤32)(h3:2≤w∧w≤16):
  a3q (d,(o:Int),(w:Int))=some (a6G d o w)∧((a6G d o w).2.2=0→(a6G d o w).1.length=o):=by
 obtain⟨c,sh,e,g1,g2⟩:=c7z hw hl h1 h2 h3;unfold a6G;rw[g1];exact⟨rfl,g2⟩
theorem a5w(d:List Int)(o w:Int):(b1a d o w).length≤1:=by
 unfold b1a;cases (a6G d o w).2.2==0<;>simp
theorem b4d{d:List Int}(hw:d.all a0b=true)(hl:d.length≤4096){o w:Nat}(h1:1≤o)(h2:o≤32)(h3:2≤w∧w≤16){L:List Sub}(hL:L.length<1000):
  a0A ((o:Int),(w:Int),d,L)=some (d,L++b1a d o w):=by
 obtain⟨g1,-⟩:=c9O hw hl h1 h2 h3;have hlim:lim (L.length+1)=true:=a0q (by omega);unfold a0A b1a;simp only[g1,oB];cases (a6G d o w).2.2==0 with
 |true=>simp only[cT,hlim];rfl
 |false=>simp only[cF,a19]
theorem d3a{d:List Int}{L:List Sub}(hL:L.length<1000):a0e a2H ((0:Int),L,d,())=some (L++a5U 5,d,()):=by
 have:=a0G (f:=a2H) (fun i:Nat=>((i:Int),L++a5U i,d,())) 5 (b:=(L++a5U 5,d,()))
  (fun i hi=>by
   have d0:decide ((i:Int)<5)=true:=decide_eq_true (by omega);have hlim:lim ((L++a5U i).length+1)=true:=a0q (by simp[a5U];omega);have e:(L++a5U i)++[cS 2 (i:Int) 0 [] []]=L++a5U (i+1):=by simp[a5U,List.range_succ]
   rw[←e];simp only[a2H,d0,cT,hlim,a0c (show i<1000000 by omega)];rfl)
  (by
   have d0:decide (((5:Nat):Int)<5)=false:=by decide
   simp only[a2H,d0,cF])
 simp only[nZ]at this;rw[show a5U 0=[]from rfl,a19]at this;exact this
theorem d7c{d:List Int}(hw:d.all a0b=true)(hl:d.length≤4096)(hlag:c0u d)(k:Int):a8A (d,k)=some (a3u d k):=by
 obtain⟨o,ho,ho4⟩:=c5M (show d.length<100000 by omega) hw;have hb:c5V d=(o:Int):=by unfold c5V;rw[ho];rfl
 have hlc:(b5s d).length≤1:=by unfold b5s;cases (a5v d).2<;>simp
 have l4:=a5w d 4 12;have l8:=a5w d 8 12;have l1:=a5w d 1 12;have l2:=a5w d 2 12;have l12:=a5w d 12 14;have c4:=fun L (hL:L.length<1000)=>b4d (L:=L) hw hl (o:=4) (w:=12) (by omega) (by omega) (by omega) hL;have c8:=fun L (hL:L.length<1000)=>b4d (L:=L) hw hl (o:=8) (w:=12) (by omega) (by omega) (by omega) hL;have c1:=fun L (hL:L.length<1000)=>b4d (L:=L) hw hl (o:=1) (w:=12) (by omega) (by omega) (by omega) hL;have c2:=fun L (hL:L.length<1000)=>b4d (L:=L) hw hl (o:=2) (w:=12) (by omega) (by omega) (by omega) hL;have c12:=fun L (hL:L.length<1000)=>b4d (L:=L) hw hl (o:=12) (w:=14) (by omega) (by omega) (by omega) hL;have c16:=fun L (hL:L.length<1000)=>b4d (L:=L) hw hl (o:=16) (w:=14) (by omega) (by omega) (by omega) hL;simp only[a44]at c4 c8 c1 c2 c12 c16;have n0:(a1h d).length=3:=rfl;have n1:(a1T d k).length≤2:=by unfold a1T;split<;>simp<;>omega
 have n2:(a6H d k).length≤3:=by unfold a6H;split<;>simp<;>omega
 have n5:(a5U 5).length=5:=rfl;have s1:(bif decide (k≥1)then((a0A ((4:Int),(12:Int),d,a1h d)).bind fun y2=>(a0A ((8:Int),(12:Int),y2.1,y2.2)).bind fun y3=>some (k,y3.1,y3.2,()))else some (k,d,a1h d,()))=some (k,d,a1h d++a1T d k,()):=by
  unfold a1T
  by_cases h:1≤k
  have e:decide (k≥1)=true:=decide_eq_true h;simp only[e,cT,c4 (a1h d) (by omega),oB,c8 (a1h d++b1a d 4 12) (by simp;omega),if_pos h,aA];have e:decide (k≥1)=false:=decide_eq_false h;simp only[e,cF,if_neg h,a19]
 have hF:a8A (d,k)=(a4Z d).bind fun y1=>
   (show Option (Int×((List Int)×((List Sub)×Unit)))from bif decide (k≥1)then((a0A ((4:Int),(12:Int),d,[cS 0 0 0 [] [],cS 1 0 0 [] [],cS 2 y1 0 [] []])).bind fun y2=>(a0A ((8:Int),(12:Int),y2.1,y2.2)).bind fun y3=>some (k,y3.1,y3.2,()))else some (k,d,[cS 0 0 0 [] [],cS 1 0 0 [] [],cS 2 y1 0 [] []],())).bind fun z4=>
   (show Option (Int×((List Sub)×((List Int)×Unit)))from bif decide (z4.1≥2)then(bif lim (z4.2.2.1.length+1)then(bif lim ((z4.2.2.1++[cS 5 0 0 [] [((16:Int),(4:Int),())]]).length+1)then((a1D z4.2.1).bind fun y5=>
    bif y5.2 then(bif lim ((z4.2.2.1++[cS 5 0 0 [] [((16:Int),(4:Int),())]]++[cS 5 0 0 [] [((32:Int),(3:Int),()),((16:Int),(5:Int),())]]).length+1)then some (z4.1,z4.2.2.1++[cS 5 0 0 [] [((16:Int),(4:Int),())]]++[cS 5 0 0 [] [((32:Int),(3:Int),()),((16:Int),(5:Int),())]]++[y5.1],z4.2.1,())else none)
    else some (z4.1,z4.2.2.1++[cS 5 0 0 [] [((16:Int),(4:Int),())]]++[cS 5 0 0 [] [((32:Int),(3:Int),()),((16:Int),(5:Int),())]],z4.2.1,()))else none)else none)else some (z4.1,z4.2.2.1,z4.2.1,())).bind fun z6=>
   (show Option ((List Sub)×Unit)from bif decide (z6.1≥3)then((a0e a2H ((0:Int),z6.2.1,z6.2.2.1,())).bind fun w7=>(a0A ((1:Int),(12:Int),w7.2.1,w7.1)).bind fun y8=>(a0A ((2:Int),(12:Int),y8.1,y8.2)).bind fun y9=>
    (a0A ((12:Int),(14:Int),y9.1,y9.2)).bind fun y10=>(a0A ((16:Int),(14:Int),y10.1,y10.2)).bind fun y11=>some (y11.2,()))else some (z6.2.1,())).bind fun z12=>some z12.1:=rfl
 have e0:[cS 0 0 0 [] [],cS 1 0 0 [] [],cS 2 (o:Int) 0 [] []]=a1h d:=by unfold a1h;rw[hb]
 have s2:(bif decide (k≥2)then(bif lim ((a1h d++a1T d k).length+1)then(bif lim ((a1h d++a1T d k++[cS 5 0 0 [] [((16:Int),(4:Int),())]]).length+1)then((a1D d).bind fun y5=>
    bif y5.2 then(bif lim ((a1h d++a1T d k++[cS 5 0 0 [] [((16:Int),(4:Int),())]]++[cS 5 0 0 [] [((32:Int),(3:Int),()),((16:Int),(5:Int),())]]).length+1)then some (k,a1h d++a1T d k++[cS 5 0 0 [] [((16:Int),(4:Int),())]]++[cS 5 0 0 [] [((32:Int),(3:Int),()),((16:Int),(5:Int),())]]++[y5.1],d,())else none)
    else some (k,a1h d++a1T d k++[cS 5 0 0 [] [((16:Int),(4:Int),())]]++[cS 5 0 0 [] [((32:Int),(3:Int),()),((16:Int),(5:Int),())]],d,()))else none)else none)else some (k,a1h d++a1T d k,d,()):Option (Int×((List Sub)×((List Int)×Unit))))=some (k,a1h d++(a1T d k++a6H d k),d,()):=by
  unfold a6H
  by_cases h:2≤k
  have e:decide (k≥2)=true:=decide_eq_true h;have q1:lim ((a1h d++a1T d k).length+1)=true:=a0q (by simp;omega);have q2:lim ((a1h d++a1T d k++[cS 5 0 0 [] [((16:Int),(4:Int),())]]).length+1)=true:=a0q (by simp;omega);have q3:lim ((a1h d++a1T d k++[cS 5 0 0 [] [((16:Int),(4:Int),())]]++[cS 5 0 0 [] [((32:Int),(3:Int),()),((16:Int),(5:Int),())]]).length+1)=true:=a0q (by simp;omega);simp only[e,q1,q2,q3,cT,hlag.1,oB,if_pos h,b5s];cases (a5v d).2<;>simp;have e:decide (k≥2)=false:=decide_eq_false h;simp only[e,cF,if_neg h,a19]
 have s3:(bif decide (k≥3)then((a0e a2H ((0:Int),a1h d++(a1T d k++a6H d k),d,())).bind fun w7=>(a0A ((1:Int),(12:Int),w7.2.1,w7.1)).bind fun y8=>(a0A ((2:Int),(12:Int),y8.1,y8.2)).bind fun y9=>
    (a0A ((12:Int),(14:Int),y9.1,y9.2)).bind fun y10=>(a0A ((16:Int),(14:Int),y10.1,y10.2)).bind fun y11=>some (y11.2,()))else some (a1h d++(a1T d k++a6H d k),()):Option ((List Sub)×Unit))=some (a3u d k,()):=by
  unfold a3u c2Q
  by_cases h:3≤k
  have e:decide (k≥3)=true:=decide_eq_true h;simp only[e,cT,d3a (L:=a1h d++(a1T d k++a6H d k)) (by simp;omega),oB,if_pos h];rw[c1 _ (by simp;omega)];simp only[oB];rw[c2 _ (by simp;omega)];simp only[oB];rw[c12 _ (by simp;omega)];simp only[oB];rw[c16 _ (by simp;omega)];simp only[oB,aA];have e:decide (k≥3)=false:=decide_eq_false h;simp only[e,cF,if_neg h,a19]
 rw[hF,ho,oB,e0];simp only[];rw[s1];simp only[oB];rw[s2];simp only[oB];rw[s3];rfl
theorem c0v{d:List Int}(hw:d.all a0b=true)(hl:d.length≤4096)(hlag:c0u d)(k:Int):∀c∈a3u d k,SmallS c:=by
 have hlin:∀(o w:Nat),1≤o→o≤32→2≤w∧w≤16→∀c∈b1a d o w,SmallS c:=fun o w h1 h2 h3 c hc=>by
  obtain⟨-,g2⟩:=c9O hw hl h1 h2 h3;unfold b1a at hc;cases he:(a6G d o w).2.2==0 with
  |false=>rw[he]at hc;simp at hc
  |true=>
   rw[he]at hc;simp only[cT,a45]at hc;subst hc
   have:=g2 (by simpa using he)
   exact b4c (by omega) (by simp)
 intro c hc;simp only[a3u,mA]at hc;rcases hc with hc|hc|hc|hc;simp only[a1h,mC,b09,or_false]at hc;rcases hc with rfl|rfl|rfl<;>exact b4c (by simp) (by simp);unfold a1T at hc
 split at hc
 simp only[mA]at hc;rcases hc with hc|hc;exact hlin 4 12 (by omega) (by omega) (by omega) c hc;exact hlin 8 12 (by omega) (by omega) (by omega) c hc;simp at hc
 ·unfold a6H at hc
  split at hc
  ·simp only[mA,mC,b09,or_false]at hc;rcases hc with(rfl|rfl)|hc;exact b4c (by simp) (by simp);exact b4c (by simp) (by simp)
   ·unfold b5s at hc;cases hg:(a5v d).2 with
    |false=>rw[hg]at hc;simp at hc
    |true=>
     rw[hg]at hc;simp only[cT,a45]at hc;subst hc;exact hlag.2 hg
  simp at hc
 unfold c2Q at hc
 split at hc
 simp only[mA,a5U,List.mem_map]at hc;rcases hc with⟨j,-,rfl⟩|hc|hc|hc|hc;exact b4c (by simp) (by simp);exact hlin 1 12 (by omega) (by omega) (by omega) c hc;exact hlin 2 12 (by omega) (by omega) (by omega) c hc;exact hlin 12 14 (by omega) (by omega) (by omega) c hc;exact hlin 16 14 (by omega) (by omega) (by omega) c hc;simp at hc
theorem c9P{d:List Int}(hl:d.length≤256):a1D d=some (a0Q 0,false):=by
 have hF:a9m (d,(16:Int),(256:Int))=some (0,7):=by
  unfold a9m;have e1:decide (((d.length:Nat):Int) > 4096)=false:=decide_eq_false (by omega);have e2:decide (((d.length:Nat):Int)≤256)=true:=decide_eq_true (by omega);simp only[show decide ((16:Int)<2)=false from rfl,show decide ((16:Int) > 256)=false from rfl,show decide ((256:Int) > 1024)=false from rfl,cF,e1,oB,e2,cT]
 unfold a1D;simp only[hF,oB,show((7:Int) != 0)=true from rfl,cT];rfl
theorem d8b{d:List Int}(hl:d.length≤256):c0u d:=by
 have h:=c9P hl
 have:a5v d=(a0Q 0,false):=by unfold a5v;rw[h];rfl
 exact⟨by rw[this];exact h,fun hc=>by rw[this]at hc;cases hc⟩
def b0Q(l:List Int)(a:Int×(Bool×Sub))(c:Sub):Int×(Bool×Sub):=
 bif (a1n c.1 l c).2 != 0 then a else bif !a.2.1 || decide (a4w (a1n c.1 l c).1 (l.length:Int)<a.1)then(a4w (a1n c.1 l c).1 (l.length:Int),true,(a1n c.1 l c).1)else a
def b5X(l:List Int)(cs:List Sub):Int×(Bool×Sub):=cs.foldl (b0Q l) (0,false,a0Q 0)
theorem c0w{α A β:Type}(g:A→α→A)(fin:A→β):∀(l:List α)(a:A),b3k fin (a3s (fun a x=>.inl (g a x)) l a)=fin (l.foldl g a)
 | [],_=>rfl
 |x::l,a=>c0w g fin l (g a x)
theorem c3J{k:Int}{l:List Int}{s:Sub}(h:SmallS s):SmallS (a1n k l s).1:=by
 by_cases h0:(a1n k l s).2=0
 exact(c2P h h0).1
 ·have:(a1n k l s).1=a0Q 0:=by
   unfold a1n at h0⊢;split;rfl;rename_i hc;rw[if_neg hc]at h0;split;rfl;rename_i hw;rw[if_neg hw]at h0;split
   ·rename_i k0;rw[if_pos k0]at h0;cases hq:l.all (fun x=>x==l.headD 0)with
    |true=>rw[hq]at h0;exact absurd rfl h0
    |false=>rfl
   rename_i k0;rw[if_neg k0]at h0;split;rename_i k1;rw[if_pos k1]at h0;exact absurd rfl h0;rename_i k1;rw[if_neg k1]at h0;cases hr:a3j k s (a0F l)with
   |none=>rfl
   |some q=>rw[hr]at h0;exact absurd rfl h0
  rw[this];exact c5U
theorem d4s{l:List Int}{cs:List Sub}(hs:∀c∈cs,SmallS c)(hl:l.length≤4096)(hc:cs.length<1000):
  a0e a8Z (l,(0:Int),false,cs,((cs.length:Nat):Int),(0:Int),a0Q 0,a0Q 0,())=some (a0Q 0,(b5X l cs).2.2,()):=by
 have:=a2F (f:=a8Z) cs (fun i a=>(l,a.1,a.2.1,cs,((cs.length:Nat):Int),(i:Int),a0Q 0,a.2.2,())) (fun a x=>.inl (b0Q l a x)) (fun _ _=>True) (fun a=>(a0Q 0,a.2.2,()))
  (fun i hi a _=>by
   refine⟨fun a' ha'=>?_,fun b hb=>by cases hb⟩;simp only[Sum.inl.injEq]at ha';subst ha';refine⟨?_,trivial⟩;have hS:=hs _ (a08 hi);have c1:=d6W (c3J (k:=cs[i].1) (l:=l) hS) (l.length:Int);unfold b0Q;simp only[a8Z,dlt hi,cT,a0d hi,oB,d7b hS cs[i].1 (show l.length≤100000 by omega),c1,a0c (show i<1000000 by omega)];cases (a1n cs[i].1 l cs[i]).2 != 0 with
   |true=>rfl
   |false=>
    have hwr:=a0c (show i<1000000 by omega);cases ha:a.2.1 with
    |false=>simp only[cF,a07,Bool.true_or,cT,oB,hwr]
    |true=>
     simp only[cF,bT,Bool.false_or,oB];cases decide (a4w (a1n cs[i].1 l cs[i]).1 (l.length:Int)<a.1)<;>simp only[cF,cT,hwr,ha])
  (fun a _=>by simp only[a8Z,dge,cF]) (a:=((0:Int),false,a0Q 0)) trivial
 simp only[nZ]at this;rw[this,c0w];rfl
theorem d7d{l:List Int}(h1:1≤l.length)(h2:l.length≤4096)(hw:l.all a0b=true)(hlag:c0u (a0F l)){k:Int}(h0:0≤k)(h3:k≤3):
  b0A (l,k)=some ((b5X l (a3u (a0F l) k)).2.2,0):=by
 have hs:short l:=by unfold short;omega
 obtain⟨w1,w3,-⟩:=a9r hs hw;obtain⟨d1,d2,d3,-⟩:=a5T h2 hw;have e1:decide (((l.length:Nat):Int)<1)=false:=decide_eq_false (by omega);have e2:decide (((l.length:Nat):Int) > 4096)=false:=decide_eq_false (by omega);have e3:decide (k<0)=false:=decide_eq_false (by omega);have e4:decide (k > 3)=false:=decide_eq_false (by omega);have hlen:(a3u (a0F l) k).length<1000:=by
  have g:=fun o w=>a5w (a0F l) o w;have q1:=g 4 12;have q2:=g 8 12;have q3:=g 1 12;have q4:=g 2 12;have q5:=g 12 14;have q6:=g 16 14;have hlc:(b5s (a0F l)).length≤1:=by unfold b5s;cases (a5v (a0F l)).2<;>simp
  simp only[a3u,a1h,a1T,a6H,c2Q,lN]
  split<;>split<;>split<;>simp[a5U]<;>omega
 have hb:=d4s (l:=l) (c0v d2 (by omega) hlag k) h2 hlen;have hz:a0Q 0=((0:Int),(0:Int),(0:Int),(0:Int),(0:Int),([]:(List Int)),a00 3 (0:Int),([]:(List (Int×Int×Unit))),([]:(List Int)),((0:Int),([]:(List Int)),()),([]:(List Int)),()):=rfl;unfold b0A;simp only[←hz,e1,e2,e3,e4,cF,oB,a6m hs,hw,bT,w1,b9q w3 (show l.length<100000 by omega),d1,a1d,show((0:Int) != 0)=false from rfl,d7c d2 (show(a0F l).length≤4096 by omega) hlag,hb]
end Go.Ab
namespace Go.Ab
theorem a5x(v:Int)(n:Nat)(L:List Int):(a0o v n L).length=L.length+(a0o v n []).length:=by
 unfold a0o;cases (a0m .u64 v (n:Int) != 0)<;>simp
theorem b2t(n:Nat):∀(l L:List Int),(a1J n l L).length=L.length+(a1J n l []).length
 | [],L=>by simp[a1J]
 |x::l,L=>by
  show(a1J n l (a0o (a3t x n) n L)).length=L.length+(a1J n l (a0o (a3t x n) n [])).length;rw[b2t n l,b2t n l (a0o (a3t x n) n []),a5x];omega
theorem b4E:∀(st:List Stg)(L:List Int),(a4s st L).length=L.length+(a4s st []).length
 | [],L=>by simp[a4s]
 |s::st,L=>by
  show(a4s st (a8p s L)).length=L.length+(a4s st (a8p s [])).length;rw[b4E st,b4E st (a8p s [])];unfold a8p;rw[a5x,a5x _ 5 L,a5x _ 4 (a0o _ 5 [])];omega
theorem c0x(s:Sub)(L:List Int):(a6A s L).length=L.length+(a6A s []).length:=by
 unfold a6A;rw[b2t,a5x,a5x _ 4,a5x _ 5 L]
 conv=>rhs;rw[b2t,a5x,a5x _ 4]
 omega
theorem c7C(s:Sub)(L:List Int):(a1K s L).length=L.length+(a1K s []).length:=by
 unfold a1K;split;rw[a5x];split;rw[c0x];split;rw[c0x,b2t,a5x]
 conv=>rhs;rw[c0x,b2t]
 omega;split;rw[b4E,a5x]
 conv=>rhs;rw[b4E]
 omega
 simp
theorem d5B{s:Sub}(hk:0≤s.1∧s.1≤5)(hw:0≤s.2.1∧s.2.1≤30)(ha:s.2.2.2.2.2.2.2.2.1.all a0b=true)(L:List Int):(b1N s L).length=L.length+13:=by
 obtain⟨K,hK⟩:=a03 hk.1;obtain⟨w,hw'⟩:=a03 hw.1
 have:=b4C ha
 unfold b1N;rw[hK,hw',b7P (q:=K) (by omega),b7P (q:=w) (by omega),a8K (n:=5) (by omega) (by omega),a8K (n:=5) (by omega) (by omega),a8K (n:=3) (by omega) (by omega)]
def c9Q(s:Sub)(zn:List Nat):Nat:=
 13+(a1K s []).length+a0s s.2.2.2.2.2.2.2.2.1*s.2.2.2.2.2.2.2.2.1.length+if s.1=0∨s.1=1 then 0 else 4+a2z zn s.2.2.2.2.2.2.2.2.2.1.2.1 s.2.2.2.2.2.2.2.2.2.2.1
theorem d3b{k n:Int}{s:Sub}(h:a3A k s n):0≤k∧k≤5:=by
 rcases h with h|h|⟨h,-⟩|⟨h,-⟩|⟨h,-⟩|⟨h,-⟩<;>omega
theorem d0O{s:Sub}{n:Int}(h:(a3B s n).isSome=true):a1H s n:=by
 unfold a3B at h
 split at h
 assumption
 cases h
theorem d7e{s:Sub}{n:Int}(h:(a3B s n).isSome=true){zn:List Nat}(hz:s.1≠0∧s.1≠1→PartsOk s.2.2.2.2.2.2.2.2.2.1 n ((s.2.2.2.2.2.2.2.2.1.length:Nat):Int) s.2.2.2.2.2.2.2.2.2.2.1 zn)(L:List Int):
  (a5p s zn L).length=L.length+c9Q s zn:=by
 obtain⟨h1,h2,hf,-,h5,h6,-,-,hw,-⟩:=d0O h;have hwd:=b4C hw;have hh:=d5B (d3b hf) ⟨h5,h6⟩ hw L;unfold a5p c9Q
 by_cases hk:s.1=0∨s.1=1
 rw[if_pos hk,if_pos hk,b7N (by omega),c7C,hh];omega;rw[if_neg hk,if_neg hk,c8a (hz (not_or.1 hk)),b7N (by omega),c7C,hh];omega
theorem c9R{s:Sub}(h:SmallS s){n:Int}(hs:(a3B s n).isSome=true):∃zn,a4w s n=((c9Q s zn:Nat):Int)∧(s.1≠0∧s.1≠1→PartsOk s.2.2.2.2.2.2.2.2.2.1 n ((s.2.2.2.2.2.2.2.2.1.length:Nat):Int) s.2.2.2.2.2.2.2.2.2.2.1 zn):=by
 obtain⟨e,L',-,-,-,h4,-⟩:=c5E h (n:=n) (L:=[]) (by simp);obtain⟨-,zn,-,hz⟩:=h4 hs;refine⟨zn,?_,hz⟩;unfold a4w;rw[if_pos hs,←c6F hz,d7e hs hz]
 simp
theorem d4t{s:Sub}(h:SmallS s){n:Int}(hs:(a3B s n).isSome=true):13≤a4w s n:=by
 obtain⟨zn,h1,-⟩:=c9R h hs;rw[h1];unfold c9Q;omega
end Go.Ab
namespace Go.Ab
structure Shifted (l m:List Int) (n:Nat):Prop where
 len:m.length=l.length
 wl:l.all a0b=true
 wm:m.all a0b=true
 down:a0F m=a0F l
 waste:a2e m=a2e l+n
 fl:l.all (fun x=>x==l.headD 0)=false
 fm:m.all (fun x=>x==m.headD 0)=false
structure BestIs (l:List Int) (cs:List Sub) (a:Int×(Bool×Sub)):Prop where
 one:a.2.1=true→∃c∈cs,(a1n c.1 l c).2=0∧a.2.2=(a1n c.1 l c).1∧a.1=a4w a.2.2 (l.length:Int)
 least:∀c∈cs,(a1n c.1 l c).2=0→a.2.1=true∧a.1≤a4w (a1n c.1 l c).1 (l.length:Int)
theorem c2w{l:List Int}:∀(cs ds:List Sub)(a:Int×(Bool×Sub)),BestIs l ds a→BestIs l (ds++cs) (cs.foldl (b0Q l) a)
 | [],ds,a,h=>by rw[a19];exact h
 |c::cs,ds,a,h=>by
  rw[a59,show ds++c::cs=(ds++[c])++cs by simp];refine c2w cs (ds++[c]) _ ?_
  unfold b0Q
  by_cases h0:(a1n c.1 l c).2=0
  ·have n1:((a1n c.1 l c).2 != 0)=false:=by rw[h0];rfl
   rw[n1,cF];cases hq:(!a.2.1 || decide (a4w (a1n c.1 l c).1 (l.length:Int)<a.1))with
   |true=>
    refine⟨fun _=>⟨c,by simp,h0,rfl,rfl⟩,fun d hd hd0=>⟨rfl,?_⟩⟩;rcases mA.1 hd with hd|hd;obtain⟨g1,g2⟩:=h.least d hd hd0;rw[g1]at hq;simp only[bT,Bool.false_or,dT]at hq;exact Int.le_trans (Int.le_of_lt hq) g2;simp only[a45]at hd;subst hd;exact Int.le_refl _
   |false=>
    simp only[a85,Bool.not_eq_false',decide_eq_false_iff_not]at hq;refine⟨fun ht=>?_,fun d hd hd0=>?_⟩;obtain⟨d,hd,g⟩:=h.one ht;exact⟨d,a89 _ hd,g⟩;rcases mA.1 hd with hd|hd;exact h.least d hd hd0;simp only[a45]at hd;subst hd;exact⟨hq.1,b17.1 hq.2⟩
  have n1:((a1n c.1 l c).2 != 0)=true:=by simpa using h0
  rw[n1,cT];refine⟨fun ht=>?_,fun d hd hd0=>?_⟩;obtain⟨d,hd,g⟩:=h.one ht;exact⟨d,a89 _ hd,g⟩;rcases mA.1 hd with hd|hd;exact h.least d hd hd0;simp only[a45]at hd;subst hd;exact absurd hd0 h0
theorem c6I(l:List Int)(cs:List Sub):BestIs l cs (b5X l cs):=
 c2w cs [] _ ⟨fun h=>(by cases h),fun _ h=>(by cases h)⟩
theorem c0y{l:List Int}(h1:1≤l.length)(h2:l.length≤4096)(hw:l.all a0b=true):a1n 1 l (cS 1 0 0 [] [])=(a1P (a0C 1 (cS 1 0 0 [] [])) (a2e l) (a0F l) z0 [],0):=by
 unfold a1n;rw[if_neg (fun q=>q ⟨h1,h2,.inr (.inl rfl)⟩),if_neg (by rw[hw];decide),if_neg (by decide),if_pos rfl]
theorem d3c{l:List Int}(h1:1≤l.length)(h2:l.length≤4096)(hw:l.all a0b=true)(d:List Int)(k:Int):(b5X l (a3u d k)).2.1=true:=
 ((c6I l (a3u d k)).least (cS 1 0 0 [] []) (by simp[a3u,a1h]) (by rw[show(cS 1 0 0 [] []).1=1 from rfl,c0y h1 h2 hw])).1
end Go.Ab
namespace Go.Ab
open IntKind(wrap)
def inW(x:Int)(v:Nat):Bool:=decide (x=0) || a2B x (v:Int)
theorem d5C{x:Int}{v:Nat}:a2B x (v:Int)=true↔1≤v∧v≤31∧-((2^(v-1):Nat):Int)≤x∧x≤((2^(v-1):Nat):Int)-1:=by
 by_cases hv:1≤v∧v≤31
 have e:((v:Int)-1)=((v-1:Nat):Int):=by omega
 have hp:2^(v-1)≤2^30:=a25 (by omega) (by omega);have hp1:=a29 (v-1);have e1:a0D .i64 1 ((v-1:Nat):Int)=((2^(v-1):Nat):Int):=d2R (by omega);have e2:a0D .i64 (-1) ((v-1:Nat):Int)=-((2^(v-1):Nat):Int):=by
  have em:min (a42 ((v-1:Nat):Int)) (IntKind.bits .i64)=v-1:=by simp only[tN,IntKind.bits];omega
  unfold a0D;rw[em,show(-1:Int)*2^(v-1)=-((2^(v-1):Nat):Int)by simp];exact a0l (by omega)
 have e3:wrap .i64 (((2^(v-1):Nat):Int)-1)=((2^(v-1):Nat):Int)-1:=a0l (by omega);simp only[a2B,e,e1,e2,e3,bA,dT];constructor;intro h;exact⟨hv.1,hv.2,h.2.2.1,h.2.2.2⟩;intro h;exact⟨by omega,by omega,h.2.2.1,h.2.2.2⟩;constructor;intro h;simp only[a2B,bA,dT]at h;omega;intro h;omega
theorem c6J{x:Int}{v:Nat}:inW x v=true↔x=0∨(1≤v∧v≤31∧-((2^(v-1):Nat):Int)≤x∧x≤((2^(v-1):Nat):Int)-1):=by
 simp only[inW,a18,dT,d5C]
theorem d5D{x:Int}{v w:Nat}(h:v≤w)(hw:w≤31)(hx:inW x v=true):inW x w=true:=by
 rw[c6J]at hx⊢;rcases hx with hx|⟨h1,h2,h3,h4⟩;exact .inl hx
 have:2^(v-1)≤2^(w-1):=a25 (by omega) (by omega)
 exact .inr ⟨by omega,hw,by omega,by omega⟩
theorem d5E{x:Int}(h:a0b x=true):inW x 31=true:=by
 have:=a3h.1 h
 rw[c6J];exact .inr ⟨by omega,by omega,by rw[show((2^(31-1):Nat):Int)=1073741824 from rfl];omega,by rw[show((2^(31-1):Nat):Int)=1073741824 from rfl];omega⟩
theorem c7D{x:Int}(hx:a0b x=true):∀(k w:Nat),w+k=32→w≤31→w≤a2a x k w∧a2a x k w≤31∧inW x (a2a x k w)=true∧∀v,w≤v→inW x v=true→v≤31→a2a x k w≤v
 |0,w,h,h31=>absurd h31 (by omega)
 |k+1,w,h,h31=>by
  by_cases hin:inW x w=true
  ·have:a2a x (k+1) w=w:=by
    unfold a2a;cases hc:(x != 0)&&!a2B x (w:Int)with
    |false=>rfl
    |true=>
     simp only[bA,bne_iff_ne,ne_eq,a37]at hc;simp only[inW,a18,dT,hc.2,Bool.false_eq_true,or_false]at hin;exact absurd hin hc.1
   rw[this];exact⟨a41 _,h31,hin,fun v hv _ _=>hv⟩
  have hc:((x != 0)&&!a2B x (w:Int))=true:=by
   simp only[inW,a18,dT,not_or,Bool.not_eq_true]at hin;simp only[bA,bne_iff_ne,ne_eq,a37];exact hin
  have hne:w≠31:=fun e=>hin (by rw[e];exact d5E hx);have e:a2a x (k+1) w=a2a x k (w+1):=by
   show(bif (x != 0)&&!a2B x (w:Int)then a2a x k (w+1)else w)=_;rw[hc,cT]
  obtain⟨g1,g2,g3,g4⟩:=c7D hx k (w+1) (by omega) (by omega);rw[e];refine⟨by omega,g2,g3,fun v hv hvi h31=>g4 v ?_ hvi h31⟩;rcases Nat.lt_or_ge w v with q|q;exact q
  have:v=w:=by omega
  exact absurd (this▸hvi) hin
theorem b3B:∀(l:List Int)(w:Nat),l.all a0b=true→w≤31→
  w≤l.foldl (fun w x=>a2a x (32-w) w) w∧l.foldl (fun w x=>a2a x (32-w) w) w≤31∧(∀x∈l,inW x (l.foldl (fun w x=>a2a x (32-w) w) w)=true)∧∀v,w≤v→v≤31→(∀x∈l,inW x v=true)→l.foldl (fun w x=>a2a x (32-w) w) w≤v
 | [],w,_,h31=>⟨a41 _,h31,by simp,fun v hv _ _=>hv⟩
 |x::l,w,h,h31=>by
  rw[a23,bA]at h;obtain⟨g1,g2,g3,g4⟩:=c7D h.1 (32-w) w (by omega) h31;obtain⟨f1,f2,f3,f4⟩:=b3B l (a2a x (32-w) w) h.2 g2;simp only[a59];refine⟨by omega,f2,fun y hy=>?_,fun v hv hv31 hall=>?_⟩;rcases mC.1 hy with rfl|hy;exact d5D f1 f2 g3;exact f3 y hy;exact f4 v (g4 v hv (hall x a65) hv31) hv31 fun y hy=>hall y (a88 _ hy)
theorem d5F{l:List Int}(h:l.all a0b=true):∀x∈l,inW x (a0s l)=true:=(b3B l 0 h (by omega)).2.2.1
theorem d0P{l:List Int}(h:l.all a0b=true){v:Nat}(hv:v≤31)(hall:∀x∈l,inW x v=true):a0s l≤v:=(b3B l 0 h (by omega)).2.2.2 v (by omega) hv hall
theorem d5G{x:Int}{w v:Nat}(hw:w≤30)(hd:((2^w:Nat):Int) ∣ x)(h:inW x v=true):inW (a0m .i64 x (w:Int)) v=true:=by
 obtain⟨c,rfl⟩:=hd;rw[c9K (by omega)];rw[c6J]at h⊢;have hp:(1:Int)≤((2^w:Nat):Int):=by have:=a29 w;omega
 generalize ((2^w:Nat):Int)=p at h hp;rcases h with h|⟨h1,h2,h3,h4⟩;rcases Int.mul_eq_zero.1 h with h|h;omega;exact .inl h;refine .inr ⟨h1,h2,?_,?_⟩
 by_cases hc:0≤c
 have:(0:Int)≤((2^(v-1):Nat):Int):=a66 _
 omega;have hm:=a62 (show 0≤p-1 by omega) (show 0≤-c by omega);rw[Int.mul_neg,b06]at hm;omega
 by_cases hc:0≤c
 have hm:=a62 (show 0≤p-1 by omega) hc;rw[b06]at hm;omega
 have:(1:Int)≤((2^(v-1):Nat):Int):=by have:=a29 (v-1);omega
 omega
theorem d3d{l:List Int}(h2:l.length≤4096)(hw:l.all a0b=true):a0s (a0F l)≤a0s l:=by
 obtain⟨-,w3,w4⟩:=a9r (show short l by unfold short;omega) hw;obtain⟨-,d2,-,-⟩:=a5T h2 hw;have hdv:∀x∈l,((2^a2e l:Nat):Int) ∣ x:=by
  rcases w4 with⟨g,-⟩|⟨-,-,g,-⟩;exact fun x hx=>by rw[g x hx];exact a77 _
  exact g
 refine d0P d2 (b4C hw) fun y hy=>?_
 obtain⟨x,hx,rfl⟩:=List.mem_map.1 hy;exact d5G w3 (hdv x hx) (d5F hw x hx)
theorem d3e{l:List Int}(h1:1≤l.length)(h2:l.length≤4096)(hw:l.all a0b=true):a4w (a1n 1 l (cS 1 0 0 [] [])).1 (l.length:Int)=((13+a0s (a0F l)*l.length:Nat):Int):=by
 have hS:SmallS (cS 1 0 0 [] []):=b4c (by simp) (by simp);have hm:=c0y h1 h2 hw;obtain⟨a1,-,-,a4⟩:=c2P hS (k:=1) (l:=l) (by rw[hm]);obtain⟨zn,hc,-⟩:=c9R a1 (by rw[a4];rfl);obtain⟨-,-,d3,-⟩:=a5T h2 hw;rw[hc,hm];have e:c9Q (a1P (a0C 1 (cS 1 0 0 [] [])) (a2e l) (a0F l) z0 []) zn=13+0+a0s (a0F l)*(a0F l).length+0:=rfl;rw[e,d3];rfl
theorem d3f{l:List Int}(h1:1≤l.length)(h2:l.length≤4096)(hw:l.all a0b=true)(hlag:c0u (a0F l)){k:Int}(h0:0≤k)(h3:k≤3):
  ∃s,b0A (l,k)=some (s,0)∧SmallS s∧a3B s (l.length:Int)=some l∧s=(b5X l (a3u (a0F l) k)).2.2∧a4w s (l.length:Int)=(b5X l (a3u (a0F l) k)).1∧a4w s (l.length:Int)≤((13+a0s l*l.length:Nat):Int)∧
   (∀c∈a3u (a0F l) k,(a1n c.1 l c).2=0→a4w s (l.length:Int)≤a4w (a1n c.1 l c).1 (l.length:Int)):=by
 obtain⟨-,d2,d3,-⟩:=a5T h2 hw;have hb:=d7d h1 h2 hw hlag h0 h3;have hfd:=d3c h1 h2 hw (a0F l) k;obtain⟨c,hc,g0,g1,g2⟩:=(c6I l (a3u (a0F l) k)).one hfd;have hSc:=c0v d2 (by omega) hlag k c hc;obtain⟨f1,-,-,f4⟩:=c2P hSc g0;rw[←g1]at f1 f4;have hleast:∀c∈a3u (a0F l) k,(a1n c.1 l c).2=0→a4w (b5X l (a3u (a0F l) k)).2.2 (l.length:Int)≤a4w (a1n c.1 l c).1 (l.length:Int):=fun c hc h0=>by
  rw[←g2];exact((c6I l (a3u (a0F l) k)).least c hc h0).2
 refine⟨_,hb,f1,f4,rfl,g2.symm,?_,hleast⟩;have hp:=hleast (cS 1 0 0 [] []) (by simp[a3u,a1h]) (by rw[show(cS 1 0 0 [] []).1=1 from rfl,c0y h1 h2 hw]);rw[show(cS 1 0 0 [] []).1=1 from rfl,d3e h1 h2 hw]at hp
 have:=a40 l.length (d3d h2 hw)
 omega
end Go.Ab
