/- Part of the proof: QG, QH, QI, QJ, QK, QL, QM, QN, QO, QP, QQ, QR, QS, QSA, QT, QU, QV, QW, QX, QY, QZA, QZB, QZC, QZD, QZE, QZF, QZG, QZH, QZI, QZJ, QZK, QZL, QZM, QZN. Conditions: as each statement tells. -/
import Derived.KernelRfl
import Derived.Test.YtimgpmdfgkgobaaGreatDoorME
noncomputable section
set_option linter.unusedSimpArgs false
set_option linter.unusedVariables false
open BitVec renaming ofInt→a19,ofInt_natCast→a39,toNat_ofNat→a44,toNat_and→a69,toNat_ofInt→a91
open Bool renaming and_self→a02,not_false→a05,or_eq_true→a17,true_and→a25,not_eq_true'→a37,eq_iff_iff→a75,false_and→a80,or_eq_false_iff→a82,and_eq_true_iff→a83,and_false→b15
open Int renaming eq_ofNat_of_zero_le→a03,cast_ofNat_Int→a32,natCast_dvd_natCast→a34,toNat→a43,fdiv_eq_ediv_of_nonneg→a48,dvd_mul_of_dvd_left→a55,mul_nonneg→a59,natCast_nonneg→a63,tmod_eq_emod_of_nonneg→a65,mul_fdiv_cancel_left→a68,dvd_add_left→a70,dvd_zero→a72,tmod→a87,bmod_add_bmod→a97,sub_mul→b00,natCast_pow→b04,natCast_mul→b05,not_lt→b08
open List renaming replicate→a00,drop_eq_getElem_cons→a01,length_take→a04,getElem_mem→a06,length_drop→a07,drop_zero→a08,append_eq→a09,nil_append→a16,drop_length→a18,take_length→a20,append_nil→a21,all_cons→a22,mem_of_mem_drop→a24,mem_of_mem_take→a27,take_of_length_le→a28,length_replicate→a31,drop_eq_nil_of_le→a35,replicate_succ'→a38,take_succ_eq_append_getElem→a41,mem_singleton→a45,singleton_append→a46,take_zero→a47,replicate_zero→a50,sum_cons→a51,length_eq_zero_iff→a54,getElem_zip→a57,set_cons_zero→a61,mem_cons_self→a62,getElem?_append_right→a64,map_cons→a66,take→a67,eq_nil_or_concat→a77,concat_eq_append→a78,mem_cons_of_mem→a84,mem_append_left→a85,replicate_succ→a86,getElem?_drop→a88,take_add_one→a95,drop→a96,cons_append→a98,not_mem_nil→b03,length_zip→b06,foldl_cons→b07,drop_take→b17,drop_drop→b18
open Nat renaming lt_trans→a23,pow_le_pow_right→a26,two_pow_pos→a29,div_le_self→a33,lt_of_le_of_lt→a36,mul_le_mul_right→a40,le_refl→a42,mod_eq_of_lt→a49,add_zero→a52,dvd_iff_mod_eq_zero→a56,and_two_pow_sub_one_eq_mod→a58,testBit_two_pow_mul_add→a60,le_of_lt→a71,min_eq_left→a73,div_add_mod→a74,pow_dvd_pow→a76,mul_add→a79,mul_le_mul→a81,add_sub_cancel→a89,one_le_two_pow→a90,sub_self→a92,mul_comm→a93,pow_succ→a94,mul_one→a99,le_of_not_lt→b01,lt_of_not_le→b02,mod_lt→b09
open Option renaming map_eq_some_iff→a30,bind_eq_some_iff→a53
namespace Go.Ab
open IntKind(wrap)
@[reducible] def Stg:Type:=Int×(Int×Unit)
theorem a8t{l:List Int}(h:short l):a1C l=some l:=by
 have h1:lim (0+l.length)=true:=a0q (by unfold short at h;omega);unfold a1C b6a;rw[h1,cT]
def a7z(s:Stg):Fil:=(s.2.1,a00 s.1.toNat 0,a00 s.1.toNat 0,())
theorem c2n{s:Stg}(h:a3G s=true):FilOk (a7z s):=by
 simp only[a3G,bA,dT]at h;refine⟨by simp[a7z],by simp[a7z];omega,by simp[a7z];omega,⟨h.2.2.1,h.2.2.2⟩,fun x hx=>?_⟩;simp only[a7z,List.mem_replicate]at hx;omega
theorem b6C{s:Stg}(h:a3G s=true):b0Q s=some (a7z s,0):=by
 have h':=h;simp only[a3G,bA,dT]at h';unfold b0Q;have h1:decide ((0:Int)≤s.1)=true:=by simp;omega
 have h2:decide (s.1≤s.1)=true:=by simp
 have h3:lim s.1.toNat=true:=a0q (by omega);simp only[b3H,h,oB,bT,cF,h1,h2,h3,a02,cT];rfl
theorem a8u{s:Stg}(h:a3G s=true):a7h s=some (a7z s,0):=by
 have h':=h;simp only[a3G,bA,dT]at h';unfold a7h;have h1:decide ((0:Int)≤s.1)=true:=by simp;omega
 have h2:decide (s.1≤s.1)=true:=by simp
 have h3:lim s.1.toNat=true:=a0q (by omega);simp only[b2V,h,oB,bT,cF,h1,h2,h3,a02,cT];rfl
def stO:List Int→List Int→Fil→Option (List Int)
 | [],done,_=>some done
 |r::rs,done,f=>bif a0b (W (a0J f+r))then stO rs (done++[W (a0J f+r)]) (b0w f (W (a0J f+r)))else none
theorem b5C:∀(l done:List Int)(f:Fil){r},stO l done f=some r→r.length=done.length+l.length
 | [],done,f,r,h=>by simp only[stO,sj]at h;rw[←h];simp
 |x::l,done,f,r,h=>by
  simp only[stO]at h;cases hw:a0b (W (a0J f+x))with
  |true=>rw[hw]at h;rw[b5C l _ _ h];simp;omega
  |false=>rw[hw]at h;cases h
theorem a9P{done row:List Int}{i:Nat}(hd:done.length=i)(h:i<row.length):List.getD (done++row.drop i) i 0=row[i]:=by
 rw[lD,a64 (by omega),hd,a92,a88,a52,lG h];rfl
theorem b9G{done row:List Int}{i:Nat}(hd:done.length=i)(h:i<row.length)(y:Int):(done++row.drop i).set i y=(done++[y])++row.drop (i+1):=by
 rw[List.set_append_right _ _ (by omega),hd,a92,a01 h,a61,aA];rfl
theorem b7q{row b4:List Int}{b5:Int}(hs:short row):∀(k i:Nat)(done:List Int)(f:Fil),i+k=row.length→done.length=i→FilOk f→
  ∃z,a0e a6Z ((row.length:Int),(i:Int),b4,b5,done++row.drop i,f,())=some z∧
   match stO (row.drop i) done f with
   |some r=>z=.inl (b4,b5,r,())
   |none=>∃q,z=.inr (([]:List Int),(6:Int),q,())
 |0,i,done,f,h,hd,hf=>by
  obtain rfl:i=row.length:=by omega
  rw[a18,a21];exact⟨_,a0j (b:=Sum.inl (b4,b5,done,())) (by simp[a6Z]),rfl⟩
 |k+1,i,done,f,h,hd,hf=>by
  have hi:i<row.length:=by omega
  have hs':row.length<1000000:=hs;have h0:decide ((0:Int)≤(i:Int))=true:=by simp
  have hl:(done++row.drop i).length=row.length:=by simp;omega
  have h1:decide ((i:Int)<(((done++row.drop i).length:Nat):Int))=true:=by rw[hl];simp;omega
  have hst:stO (row.drop i) done f=bif a0b (W (a0J f+row[i]))then stO (row.drop (i+1)) (done++[W (a0J f+row[i])]) (b0w f (W (a0J f+row[i])))else none:=by
   rw[a01 hi];rfl
  rw[hst];cases hw:a0b (W (a0J f+row[i]))with
  |true=>
   rw[a0p (s':=((row.length:Int),((i+1:Nat):Int),b4,b5,(done++[W (a0J f+row[i])])++row.drop (i+1),b0w f (W (a0J f+row[i])),())) (by
    simp only[a6Z,dlt hi,h0,h1,cT,a02,a7Z hf,oB,tN,a9P hd hi,a6M,hw,bT,cF,c0q hf,b9G hd hi,a0c (show i<1000000 by omega)])]
   exact b7q hs k (i+1) _ _ (by omega) (by simp;omega) (b9F hf _)
  |false=>
   exact⟨_,a0j (b:=Sum.inr (([]:List Int),(6:Int),done++row.drop i,())) (by
    simp only[a6Z,dlt hi,h0,h1,cT,a02,a7Z hf,oB,tN,a9P hd hi,a6M,hw,a05]),_,rfl⟩
theorem c0r{row:List Int}{st:List Stg}{n:Int}(hs:short row):∀(k i:Nat)(done:List Int)(f:Fil),i+k=row.length→done.length=i→FilOk f→
  a0e a5e (st,n,(i:Int),done++row.drop i,f,())=some (match stO (row.drop i) done f with
   |some r=>.inl (st,n,r,())
   |none=>.inr ((6:Int),([]:List Int),()))
 |0,i,done,f,h,hd,hf=>by
  obtain rfl:i=row.length:=by omega
  rw[a18,a21];have hl:done.length=row.length:=hd;exact a0j (b:=Sum.inl (st,n,done,())) (by rw[←hl];simp[a5e])
 |k+1,i,done,f,h,hd,hf=>by
  have hi:i<row.length:=by omega
  have hs':row.length<1000000:=hs;have h0:decide ((0:Int)≤(i:Int))=true:=by simp
  have hl:(done++row.drop i).length=row.length:=by simp;omega
  have h1:decide ((i:Int)<(((done++row.drop i).length:Nat):Int))=true:=by rw[hl];simp;omega
  have hst:stO (row.drop i) done f=bif a0b (W (a0J f+row[i]))then stO (row.drop (i+1)) (done++[W (a0J f+row[i])]) (b0w f (W (a0J f+row[i])))else none:=by
   rw[a01 hi];rfl
  have hc:wrap .i64 (row[i]+a0J f)=W (a0J f+row[i]):=by rw[Int.add_comm]
  rw[hst];cases hw:a0b (W (a0J f+row[i]))with
  |true=>
   rw[a0p (s':=(st,n,((i+1:Nat):Int),(done++[W (a0J f+row[i])])++row.drop (i+1),b0w f (W (a0J f+row[i])),())) (by
    simp only[a5e,h0,h1,cT,a02,b2Z hf,oB,tN,a9P hd hi,hc,a2P,hw,bT,cF,c3e hf,b9G hd hi,a0c (show i<1000000 by omega)])]
   exact c0r hs k (i+1) _ _ (by omega) (by simp;omega) (b9F hf _)
  |false=>
   exact a0j (by
    simp only[a5e,h0,h1,cT,a02,b2Z hf,oB,tN,a9P hd hi,hc,a2P,hw,a05];rfl)
def lO:List Stg→List Int→Option (List Int)
 | [],row=>some row
 |s::r,row=>match stO row [] (a7z s)with
  |some row'=>lO r row'
  |none=>none
theorem d0n{st:List Stg}{s:Stg}{k:Int}{b4:List Int}{row:List Int}(h:a3G s=true)(hs:short row):
  ∃z,a9m k s (st,b4,(0:Int),row,())=some z∧match stO row [] (a7z s)with
   |some r=>z=.inl (st,b4,(0:Int),r,())
   |none=>∃q,z=.inr (.ret,st,([]:List Int),(6:Int),q,()):=by
 obtain⟨z,h1,h2⟩:=b7q (b4:=b4) (b5:=0) hs row.length 0 [] (a7z s) (by omega) rfl (c2n h);simp only[nZ,a08,a16]at h1 h2;unfold a9m;have hne:((0:Int) != 0)=false:=rfl;simp only[b6C h,oB,hne,cF,h1];cases hst:stO row [] (a7z s)with
 |some r=>
  rw[hst]at h2;simp only[]at h2;subst h2;exact⟨_,rfl,rfl⟩
 |none=>
  rw[hst]at h2;obtain⟨q,rfl⟩:=h2;exact⟨_,rfl,q,rfl⟩
theorem c3f{st l:List Stg}{b4:List Int}(hl:∀s∈l,a3G s=true):∀(n:Nat)(row:List Int),n≤l.length→short row→
  ∃z,b3S a9m l n (st,b4,(0:Int),row,())=some z∧match lO (l.take n).reverse row with
   |some r=>z=.inl (st,b4,(0:Int),r,())
   |none=>∃q,z=.inr (.ret,st,([]:List Int),(6:Int),q,())
 |0,row,_,_=>⟨_,rfl,rfl⟩
 |n+1,row,hn,hs=>by
  have hlt:n<l.length:=by omega
  obtain⟨z,h1,h2⟩:=d0n (st:=st) (k:=(n:Int)) (b4:=b4) (hl _ (a06 hlt)) hs;have ht:(l.take (n+1)).reverse=l[n]::(l.take n).reverse:=by rw[a95,lG hlt];simp
  simp only[b3S,lG hlt,h1,ht,lO];cases hst:stO row [] (a7z l[n])with
  |some r=>
   rw[hst]at h2;simp only[]at h2;subst h2;exact c3f hl n r (by omega) (by have:=b5C _ _ _ hst;unfold short at hs⊢;simp at this;omega)
  |none=>
   rw[hst]at h2;obtain⟨q,rfl⟩:=h2;exact⟨_,rfl,q,rfl⟩
def b0Y(rest:List Int)(st:List Stg):Option (List Int):=bif rest.all a0b then lO st.reverse rest else none
theorem c7B{rest:List Int}{st:List Stg}(hl:a5G st=true)(hr:rest.length<100000):b2C (rest,st)=some (a1J (b0Y rest st)):=by
 have hl':=hl;simp only[a5G,bA,dT]at hl';have hss:short st:=by unfold short;omega
 have hsr:short rest:=by unfold short;omega
 unfold b2C;simp only[b6z hss,hl,oB,bT,cF,b6y hsr,b0Y];cases hw:rest.all a0b with
 |false=>rfl
 |true=>
  obtain⟨z,h1,h2⟩:=c3f (st:=st) (b4:=[]) (lA.1 hl'.2) st.length rest (a42 _) hsr;rw[a20]at h2;simp only[bT,cF,cT,a8t hsr,oB,a0q hss,h1];cases hst:lO st.reverse rest with
  |some r=>
   rw[hst]at h2;simp only[]at h2;subst h2;rfl
  |none=>
   rw[hst]at h2;obtain⟨q,rfl⟩:=h2;rfl
theorem c5c{l:List Stg}(hl:∀s∈l,a3G s=true)(hlen:l.length≤3):∀(n:Nat)(row:List Int),n≤l.length→short row→
  a0e a5f (l,(n:Int)-1,row,())=some (match lO (l.take n).reverse row with
   |some r=>.inl (r,())
   |none=>.inr ((6:Int),([]:List Int),()))
 |0,row,_,_=>a0j (by simp[a5f,lO])
 |n+1,row,hn,hs=>by
  have hlt:n<l.length:=by omega
  have hstage:=hl _ (a06 hlt);have h1:=c0r (st:=l) (n:=(n:Int)) hs row.length 0 [] (a7z l[n]) (by omega) rfl (c2n hstage);simp only[nZ,a08,a16]at h1;have ht:(l.take (n+1)).reverse=l[n]::(l.take n).reverse:=by rw[a95,lG hlt];simp
  have e0:((n+1:Nat):Int)-1=(n:Int):=by omega
  have hd:decide ((n:Int)≥0)=true:=by simp
  have e1:wrap .i64 ((n:Int)-1)=(n:Int)-1:=a0k (by omega);rw[ht,e0];simp only[lO];cases hst:stO row [] (a7z l[n])with
  |some r=>
   rw[hst]at h1;rw[a0p (s':=(l,(n:Int)-1,r,())) (by simp only[a5f,hd,cT,a0d hlt,oB,a8u hstage,h1,e1])];exact c5c hl hlen n r (by omega) (by have:=b5C _ _ _ hst;unfold short at hs⊢;simp at this;omega)
  |none=>
   rw[hst]at h1;exact a0j (by simp only[a5f,hd,cT,a0d hlt,oB,a8u hstage,h1])
theorem c3M{rest:List Int}{st:List Stg}(hl:a5G st=true)(hr:rest.length<100000):a9q (rest,st)=some (a1J (b0Y rest st)):=by
 have hl':=hl;simp only[a5G,bA,dT]at hl';have hss:short st:=by unfold short;omega
 have hsr:short rest:=by unfold short;omega
 unfold a9q;simp only[b2W hss,hl,oB,bT,cF,a0A hsr,b0Y];cases hw:rest.all a0b with
 |false=>rfl
 |true=>
  have h1:=c5c (lA.1 hl'.2) hl'.1 st.length rest (a42 _) hsr;rw[a20]at h1;have e1:wrap .i64 (((st.length:Nat):Int)-1)=((st.length:Nat):Int)-1:=a0k (by omega);simp only[bT,cF,cT,a0q (show 0+rest.length<1000000 by omega),e1,a09,a16,h1,oB];cases lO st.reverse rest<;>rfl
end Go.Ab
namespace Go.Ab
open IntKind(wrap)
def a3w(n warm:Int):Bool:=decide (1≤n)&&(decide (n≤4096)&&(decide (0≤warm)&&decide (warm≤n)))
theorem c1H(n warm:Int):b0R (n,warm)=some (a3w n warm):=by
 unfold b0R a3w
 by_cases h1:1≤n<;>by_cases h2:n≤4096<;>by_cases h3:0≤warm<;>simp[h1,h2,h3]
theorem c5d(n warm:Int):b6u (n,warm)=some (a3w n warm):=by
 unfold b6u a3w
 by_cases h1:1≤n<;>by_cases h2:n≤4096<;>by_cases h3:0≤warm<;>simp[h1,h2,h3]
theorem d5c{o:Nat}(h:o≤8):1≤2^o∧2^o≤256:=by
 have:o=0∨o=1∨o=2∨o=3∨o=4∨o=5∨o=6∨o=7∨o=8:=by omega
 rcases this with e|e|e|e|e|e|e|e|e<;>rw[e]<;>decide
theorem b9H{N o:Nat}(h:o≤64):a0l .i64 (N:Int) (o:Int)=((N / 2^o:Nat):Int):=by
 unfold a0l;show Int.fdiv (N:Int) (2^(min (o:Int).toNat 64))=_;rw[tN,a73 h,a48 _ (Int.le_of_lt (Int.pow_pos (by decide))),Int.natCast_ediv,b04];rfl
theorem b9I{N o:Nat}(h:o≤64)(hs:N*2^o<9223372036854775808):a0F .i64 (N:Int) (o:Int)=((N*2^o:Nat):Int):=by
 unfold a0F;show wrap .i64 ((N:Int)*2^(min (o:Int).toNat 64))=_;rw[tN,a73 h];have e:(N:Int)*2^o=((N*2^o:Nat):Int):=by rw[b05,b04];rfl
 rw[e];exact a0k (by omega)
def b3a(o N:Nat)(warm:Int):List Int:=
 if N%2^o=0∧warm≤((N / 2^o:Nat):Int)then(((N / 2^o:Nat):Int)-warm)::a00 (2^o-1) ((N / 2^o:Nat):Int)else[]
def a0Z(order n warm:Int):List Int:=bif a3w n warm&&(decide (0≤order)&&decide (order≤8))then b3a order.toNat n.toNat warm else[]
theorem a3H(order n warm:Int):a5s (order,n,warm)=some (a0Z order n warm):=by
 unfold a5s a0Z;simp only[c1H,oB];cases hr:a3w n warm with
 |false=>rfl
 |true=>
  simp only[a3w,bA,dT]at hr;simp only[bT,cF,a25]
  by_cases h1:order<0
  have:¬ 0≤order:=by omega
  simp[h1,this]
  by_cases h2:order > 8
  have:¬ order≤8:=by omega
  simp[h1,h2,this];obtain⟨o,rfl⟩:=a03 (show 0≤order by omega);obtain⟨N,rfl⟩:=a03 (show 0≤n by omega);have ho:o≤8:=by omega
  have hN:N≤4096:=by omega
  have hp:=d5c ho;have hle:N / 2^o*2^o≤N:=Nat.div_mul_le_self N _;have g0:(0:Int)≤(o:Int):=by omega
  have g8:(o:Int)≤8:=by omega
  simp only[h1,h2,g0,g8,decide_true,decide_false,cF,cT,a02,oB,b9H (N:=N) (show o≤64 by omega),b9I (N:=N / 2^o) (show o≤64 by omega) (by omega),tN];have hmod:=a74 N (2^o);rw[a93]at hmod
  by_cases hm:N%2^o=0
  have e1:(((N / 2^o*2^o:Nat):Int) != (N:Int))=false:=by rw[show N / 2^o*2^o=N by omega];simp
  by_cases hw:warm≤((N / 2^o:Nat):Int)
  have e2:decide (((N / 2^o:Nat):Int)<warm)=false:=decide_eq_false (b08.2 hw);have e3:wrap .i64 (((N / 2^o:Nat):Int)-warm)=((N / 2^o:Nat):Int)-warm:=a0k (by have:=a33 N (2^o);omega);simp only[e1,e2,e3,cF,oB,b3a,hm,hw,and_self,if_true];have hg:a0F .i64 (1:Int) (o:Int)=((2^o:Nat):Int):=by have:=b9I (N:=1) (show o≤64 by omega) (by omega);simpa using this
  have:=a0I (f:=a8k) (fun i=>((o:Int),((N / 2^o:Nat):Int),(((N / 2^o:Nat):Int)-warm)::a00 i ((N / 2^o:Nat):Int),())) (2^o-1)
   (b:=((((N / 2^o:Nat):Int)-warm)::a00 (2^o-1) ((N / 2^o:Nat):Int),())) (fun i hi=>by
    have hd:decide ((((((N / 2^o:Nat):Int)-warm)::a00 i ((N / 2^o:Nat):Int)).length:Int)<((2^o:Nat):Int))=true:=by
     rw[lC,a31];simp only[dT];omega
    have hlim:lim (((((N / 2^o:Nat):Int)-warm)::a00 i ((N / 2^o:Nat):Int)).length+1)=true:=a0q (by rw[lC,a31];omega);have ea:a00 i ((N / 2^o:Nat):Int)++[((N / 2^o:Nat):Int)]=a00 (i+1) ((N / 2^o:Nat):Int):=by rw[←a38]
    simp only[a8k,h1,decide_false,cF,hg,hd,cT,hlim,a09,a98,ea])
   (by
    have hd:decide ((((((N / 2^o:Nat):Int)-warm)::a00 (2^o-1) ((N / 2^o:Nat):Int)).length:Int)<((2^o:Nat):Int))=false:=by
     rw[lC,a31];simp only[decide_eq_false_iff_not];omega
    simp only[a8k,h1,decide_false,cF,hg,hd])
  simp only[a50]at this;simp only[this,oB];have e2:decide (((N / 2^o:Nat):Int)<warm)=true:=decide_eq_true (Int.not_le.1 hw);simp only[e1,e2,cF,cT,oB,b3a,hw,and_false,if_false];have e1:(((N / 2^o*2^o:Nat):Int) != (N:Int))=true:=by simp only[bne_iff_ne,ne_eq];intro hc;have:=Int.ofNat.inj hc;omega
  simp only[e1,cT,oB,b3a,hm,false_and,if_false]
theorem a2D(order n warm:Int):a4f (order,n,warm)=some (a0Z order n warm):=by
 unfold a4f a0Z;simp only[c5d,oB];cases hr:a3w n warm with
 |false=>rfl
 |true=>
  simp only[a3w,bA,dT]at hr;simp only[bT,cF,a25]
  by_cases h1:order<0
  have:¬ 0≤order:=by omega
  simp[h1,this]
  by_cases h2:order > 8
  have:¬ order≤8:=by omega
  simp[h1,h2,this];obtain⟨o,rfl⟩:=a03 (show 0≤order by omega);obtain⟨N,rfl⟩:=a03 (show 0≤n by omega);have ho:o≤8:=by omega
  have hN:N≤4096:=by omega
  have hp:=d5c ho;have g0:(0:Int)≤(o:Int):=by omega
  have g8:(o:Int)≤8:=by omega
  have hu:wrap .u64 (o:Int)=(o:Int):=a1p (by omega);have hg:a0F .i64 (1:Int) (o:Int)=((2^o:Nat):Int):=by have:=b9I (N:=1) (show o≤64 by omega) (by omega);simpa using this
  have hz:(((2^o:Nat):Int)==0)=false:=by simp only[beq_eq_false_iff_ne,ne_eq];omega
  have ht:a87 (N:Int) ((2^o:Nat):Int)=((N%2^o:Nat):Int):=by rw[a65 (by omega),Int.natCast_emod]
  simp only[h1,h2,g0,g8,decide_true,decide_false,cF,cT,a02,hu,hg,hz,ht,b9H (N:=N) (show o≤64 by omega),tN]
  by_cases hm:N%2^o=0
  have e1:(((0:Nat):Int) != 0)=false:=rfl
  by_cases hw:warm≤((N / 2^o:Nat):Int)
  have e2:decide (((N / 2^o:Nat):Int)<warm)=false:=decide_eq_false (b08.2 hw);have e3:wrap .i64 (((N / 2^o:Nat):Int)-warm)=((N / 2^o:Nat):Int)-warm:=a0k (by have:=a33 N (2^o);omega);simp only[e1,e2,cF,oB,b3a,hm,hw,and_self,if_true]
  have:=a0I (f:=a7k) (fun i=>((o:Int),(N:Int),warm,(i:Int),a00 i ((N / 2^o:Nat):Int),())) (2^o)
   (b:=(warm,a00 (2^o) ((N / 2^o:Nat):Int),())) (fun i hi=>by
    have hd:decide ((i:Int)<((2^o:Nat):Int))=true:=by simp only[dT];omega
    have hlim:lim ((a00 i ((N / 2^o:Nat):Int)).length+1)=true:=a0q (by rw[a31];omega);have ea:a00 i ((N / 2^o:Nat):Int)++[((N / 2^o:Nat):Int)]=a00 (i+1) ((N / 2^o:Nat):Int):=by rw[←a38]
    simp only[a7k,hu,h1,decide_false,cF,hg,hd,cT,hlim,b9H (N:=N) (show o≤64 by omega),a09,ea,a0c (show i<1000000 by omega)])
   (by
    have hd:decide (((2^o:Nat):Int)<((2^o:Nat):Int))=false:=by simp
    simp only[a7k,hu,h1,decide_false,cF,hg,hd])
  simp only[nZ,a50]at this;have hl:decide ((0:Int)<(((a00 (2^o) ((N / 2^o:Nat):Int)).length:Nat):Int))=true:=by rw[a31];simp only[dT];omega
  obtain⟨q,hq⟩:∃q,2^o=q+1:=⟨2^o-1,by omega⟩;simp only[this,oB,hl,cT];rw[hq]at e3⊢;simp only[a86,List.getD_cons_zero,a61,a89];rw[e3];have e2:decide (((N / 2^o:Nat):Int)<warm)=true:=decide_eq_true (Int.not_le.1 hw);simp only[hm,e1,e2,cF,cT,oB,b3a,hw,and_false,if_false];have e1:(((N%2^o:Nat):Int) != 0)=true:=by simp only[bne_iff_ne,ne_eq];omega
  simp only[e1,cT,oB,b3a,hm,false_and,if_false]
@[reducible] def Prt:Type:=Int×((List Int)×Unit)
def kB(k:Int):Bool:=(decide (0≤k)&&decide (k≤25)) || (k==31)
def a2X(p:Prt)(n warm:Int):Bool:=!((a0Z p.1 n warm).length==0)&&((a0Z p.1 n warm).length==p.2.1.length&&p.2.1.all kB)
theorem b3b{p:Prt}{n warm:Int}(hk:short p.2.1):b0S (p,n,warm)=some (a2X p n warm):=by
 have:=a1U (f:=a4F) p.2.1 (fun i=>(p.2.1,(p.2.1.length:Int),(i:Int),())) kB (bt:=Sum.inl ()) (bf:=Sum.inr (false,()))
  (fun i h hp=>by
   simp only[kB,a17,bA,dT,beq_iff_eq]at hp
   by_cases h1:p.2.1[i]<0
   omega
   by_cases h2:p.2.1[i] > 25
   have h3:p.2.1[i]=31:=by omega
   have h4:(p.2.1[i] != 31)=false:=by rw[h3];rfl
   simp[a4F,a0d h,h,h1,h2,h4,a0c (a23 h hk)];simp[a4F,a0d h,h,h1,h2,a0c (a23 h hk)])
  (fun i h hp=>by
   have hp:¬ (kB p.2.1[i]=true):=by rw[hp];simp
   simp only[kB,a17,bA,dT,beq_iff_eq]at hp;have h3:p.2.1[i]≠31:=fun e=>hp (.inr e);have h4:(p.2.1[i] != 31)=true:=by simp[h3]
   by_cases h1:p.2.1[i]<0
   simp[a4F,a0d h,h,h1,h4];have h2:p.2.1[i] > 25:=by omega
   simp[a4F,a0d h,h,h1,h2,h4])
  (by simp[a4F])
 simp only[nZ]at this;unfold b0S a2X;simp only[a3H,oB]
 by_cases h0:(a0Z p.1 n warm).length=0
 have e:((((a0Z p.1 n warm).length:Nat):Int)==0)=true:=by simp[h0]
 simp[e,h0];have e:((((a0Z p.1 n warm).length:Nat):Int)==0)=false:=by simp only[beq_eq_false_iff_ne,ne_eq];omega
 have e':((a0Z p.1 n warm).length==0)=false:=by simp only[beq_eq_false_iff_ne,ne_eq];omega
 simp only[e,e',cF,oB,a05,a25]
 by_cases h1:(a0Z p.1 n warm).length=p.2.1.length
 have e1:(((p.2.1.length:Nat):Int) != (((a0Z p.1 n warm).length:Nat):Int))=false:=by simp[h1]
 have e2:((a0Z p.1 n warm).length==p.2.1.length)=true:=by simp[h1]
 simp only[e1,e2,cF,this,oB,a25];cases p.2.1.all kB<;>rfl;have e1:(((p.2.1.length:Nat):Int) != (((a0Z p.1 n warm).length:Nat):Int))=true:=by simp only[bne_iff_ne,ne_eq];omega
 have e2:((a0Z p.1 n warm).length==p.2.1.length)=false:=by simp only[beq_eq_false_iff_ne,ne_eq];exact h1
 simp only[e1,e2,cT,a80]
theorem a7r{p:Prt}{n warm:Int}(hk:short p.2.1):a6K (p,n,warm)=some (a2X p n warm):=by
 have hpar:∀k:Int,a3D k=some (decide (0≤k)&&decide (k≤25)):=fun k=>by
  unfold a3D
  by_cases h:0≤k<;>simp[h]
 have:=a1U (f:=a4K) p.2.1 (fun i=>((i:Int),p,())) kB (bt:=Sum.inl ()) (bf:=Sum.inr (false,()))
  (fun i h hp=>by
   simp only[kB,a17]at hp;cases hc:(decide (0≤p.2.1[i])&&decide (p.2.1[i]≤25))with
   |true=>simp[a4K,a0d h,h,hpar,hc,a0c (a23 h hk)]
   |false=>
    have h3:p.2.1[i]=31:=by rw[hc]at hp;simpa using hp
    have h4:(p.2.1[i] != 31)=false:=by rw[h3];rfl
    simp[a4K,a0d h,h,hpar,hc,h4,a0c (a23 h hk)])
  (fun i h hp=>by
   simp only[kB,a82]at hp;have h3:p.2.1[i]≠31:=by simpa using hp.2
   have h4:(p.2.1[i] != 31)=true:=by simp[h3]
   simp[a4K,a0d h,h,hpar,hp.1,h4])
  (by simp[a4K])
 simp only[nZ]at this;unfold a6K a2X;simp only[a2D,oB]
 by_cases h0:(a0Z p.1 n warm).length=0
 have e:((((a0Z p.1 n warm).length:Nat):Int)==0)=true:=by simp[h0]
 simp[e,h0];have e:((((a0Z p.1 n warm).length:Nat):Int)==0)=false:=by simp only[beq_eq_false_iff_ne,ne_eq];omega
 have e':((a0Z p.1 n warm).length==0)=false:=by simp only[beq_eq_false_iff_ne,ne_eq];omega
 simp only[e,e',cF,oB,a05,a25]
 by_cases h1:(a0Z p.1 n warm).length=p.2.1.length
 have e1:((((a0Z p.1 n warm).length:Nat):Int) != ((p.2.1.length:Nat):Int))=false:=by simp[h1]
 have e2:((a0Z p.1 n warm).length==p.2.1.length)=true:=by simp[h1]
 simp only[e1,e2,cF,this,oB,a25];cases p.2.1.all kB<;>rfl;have e1:((((a0Z p.1 n warm).length:Nat):Int) != ((p.2.1.length:Nat):Int))=true:=by simp only[bne_iff_ne,ne_eq];omega
 have e2:((a0Z p.1 n warm).length==p.2.1.length)=false:=by simp only[beq_eq_false_iff_ne,ne_eq];exact h1
 simp only[e1,e2,cT,a80]
end Go.Ab
namespace Go.Ab
open IntKind(wrap)
@[reducible] def Sub:Type:=Int×(Int×(Int×(Int×(Int×((List Int)×((List Int)×((List Stg)×((List Int)×(Prt×((List Int)×Unit))))))))))
structure SmallS (s:Sub):Prop where
 coefs:s.2.2.2.2.2.1.length≤40
 taps:s.2.2.2.2.2.2.1.length=3
 stages:s.2.2.2.2.2.2.2.1.length≤6
 warm:s.2.2.2.2.2.2.2.2.1.length≤5000
 rest:s.2.2.2.2.2.2.2.2.2.2.1.length≤5000
 ks:s.2.2.2.2.2.2.2.2.2.1.2.1.length≤300
theorem b3I(x y:List Int):eqT (.arr 3 (.int .i64)) x y=decide (x=y):=by
 show((List.zipWith (fun(a b:Int)=>a==b) x y).all id&&x.length==y.length)=_
 induction x generalizing y with
 |nil=>cases y<;>simp
 |cons a x ih=>
  cases y with
  |nil=>simp
  |cons b y=>
   have:=ih y
   simp only[List.zipWith_cons_cons,a22,lC,id];rw[Bool.and_assoc,show((x.length+1==y.length+1):Bool)=(x.length==y.length)from by simp,this]
   by_cases h1:a=b<;>by_cases h2:x=y<;>simp[h1,h2]
theorem b5D{l:List Int}(h:short l):a5r l=some l:=a8t h
theorem c3g{l:List Stg}(h:short l):a1M l=some l:=by
 have h1:lim (0+l.length)=true:=a0q (by unfold short at h;omega);unfold a1M b6a;rw[h1,cT]
def a3x(k:Int)(s:Sub)(n:Int):Prop:=
 k=0∨k=1∨(k=2∧0≤s.2.2.1∧s.2.2.1≤4∧s.2.2.1≤n)∨(k=3∧a6r s.2.2.2.2.2.1 s.2.2.2.1=true∧(s.2.2.2.2.2.1.length:Int)≤n)∨
  (k=4∧a6r s.2.2.2.2.2.1 s.2.2.2.1=true∧(s.2.2.2.2.2.1.length:Int)≤n∧a7H s.2.2.2.2.1 s.2.2.2.2.2.2.1=true)∨
  (k=5∧0<s.2.2.2.2.2.2.2.1.length∧a5G s.2.2.2.2.2.2.2.1=true)
open Classical in
def b8g (k:Int) (s:Sub) (n:Int):Bool:=decide (a3x k s n)
theorem c1I{s:Sub}(h:SmallS s)(k n:Int):b4x (k,s,n)=some (b8g k s n):=by
 have hc:short s.2.2.2.2.2.1:=by have:=h.coefs;unfold short;omega
 have hst:short s.2.2.2.2.2.2.2.1:=by have:=h.stages;unfold short;omega
 unfold b4x b8g a3x
 by_cases k0:k=0
 subst k0;simp
 by_cases k1:k=1
 subst k1;simp;have e0:(k==0)=false:=by simp[k0]
 have e1:(k==1)=false:=by simp[k1]
 simp only[e0,e1,cF,oB]
 by_cases k2:k=2
 subst k2
 by_cases h1:0≤s.2.2.1<;>by_cases h2:s.2.2.1≤4<;>simp[h1,h2]
 by_cases k3:k=3
 subst k3;cases hl:a6r s.2.2.2.2.2.1 s.2.2.2.1<;>simp[b1w hc,hl]
 by_cases k4:k=4
 subst k4;cases hl:a6r s.2.2.2.2.2.1 s.2.2.2.1<;>by_cases h2:(s.2.2.2.2.2.1.length:Int)≤n<;>simp[b1w hc,b8e h.taps,hl,h2]
 by_cases k5:k=5
 subst k5
 by_cases h1:0<s.2.2.2.2.2.2.2.1.length
 simp[b6z hst,h1];simp[h1];have e2:(k==2)=false:=by simp[k2]
 have e3:(k==3)=false:=by simp[k3]
 have e4:(k==4)=false:=by simp[k4]
 have e5:(k==5)=false:=by simp[k5]
 simp only[e2,e3,e4,e5,cF];simp[k0,k1,k2,k3,k4,k5]
def a0O(s:Sub)(n:Int):Int:=if s.1=0 then 1 else if s.1=1 then n else if s.1=2 then s.2.2.1 else if s.1=3∨s.1=4 then(s.2.2.2.2.2.1.length:Int)else 0
theorem b4D(s:Sub)(n:Int):a9H (s,n)=some (a0O s n):=by
 obtain⟨k,s⟩:=s;unfold a9H a0O
 by_cases k0:k=0
 subst k0;simp
 by_cases k1:k=1
 subst k1;simp
 by_cases k2:k=2
 subst k2;simp
 by_cases k3:k=3
 subst k3;simp
 by_cases k4:k=4
 subst k4;simp;have e0:(k==0)=false:=by simp[k0]
 have e1:(k==1)=false:=by simp[k1]
 have e2:(k==2)=false:=by simp[k2]
 have e3:(k==3)=false:=by simp[k3]
 have e4:(k==4)=false:=by simp[k4]
 simp[k0,k1,k2,k3,k4,e0,e1,e2,e3,e4]
def b4E(s:Sub):Prop:=
 (s.1≠2→s.2.2.1=0)∧(s.1≠3∧s.1≠4→s.2.2.2.1=0)∧(s.1≠4→s.2.2.2.2.1=0)∧(s.1≠4→s.2.2.2.2.2.2.1=[0,0,0])∧(s.1≠3∧s.1≠4→s.2.2.2.2.2.1=[])∧(s.1≠5→s.2.2.2.2.2.2.2.1=[])
open Classical in
def b8U (s:Sub):Bool:=decide (b4E s)
theorem b1P{c x:Bool}:(bif c then some x else some false)=some (c&&x):=by cases c<;>rfl
theorem c6l{α:Type}(l:List α):(((l.length:Nat):Int)==0)=decide (l=[]):=by
 cases l with
 |nil=>rfl
 |cons a l=>simp;omega
theorem c6m(x:Int):(x==0)=decide (x=0):=rfl
theorem c9i{s:Sub}(h:SmallS s):b4a s=some (b8U s):=by
 have hc:short s.2.2.2.2.2.1:=by have:=h.coefs;unfold short;omega
 have hst:short s.2.2.2.2.2.2.2.1:=by have:=h.stages;unfold short;omega
 obtain⟨k,w,o,sh,lag,c,t,st,wm,p,r,u⟩:=s;simp only at hc hst;unfold b4a a7R b8U b4E;have ht:(a00 3 (0:Int))=[0,0,0]:=rfl
 by_cases k2:k=2
 subst k2;simp[b3I,ht,b1P,c6l,c6m]
 by_cases k4:k=4
 subst k4;simp[b3I,ht,b1P,c6l,c6m,b5D hc]
 by_cases k3:k=3
 subst k3;simp[b3I,ht,b1P,c6l,c6m,b5D hc]
 by_cases k5:k=5
 subst k5;simp[b3I,ht,b1P,c6l,c6m,c3g hst];have e2:(k==2)=false:=by simp[k2]
 have e3:(k==3)=false:=by simp[k3]
 have e4:(k==4)=false:=by simp[k4]
 have e5:(k==5)=false:=by simp[k5]
 simp[e2,e3,e4,e5,k2,k3,k4,k5,b3I,ht,b1P,c6l,c6m]
theorem a9Q(k:Int):a9I k=some (decide (k≠0∧k≠1)):=by
 unfold a9I
 by_cases h0:k=0
 subst h0;rfl
 by_cases h1:k=1
 subst h1;rfl;have e:(k != 0)=true:=by simp[h0]
 simp[e,h0,h1]
def a1F(s:Sub)(n:Int):Prop:=
 1≤n∧n≤4096∧a3x s.1 s n∧b4E s∧0≤s.2.1∧s.2.1≤30∧(s.1=0→s.2.1=0)∧(s.2.2.2.2.2.2.2.2.1.length:Int)=a0O s n∧s.2.2.2.2.2.2.2.2.1.all a0b=true∧s.2.2.2.2.2.2.2.2.2.2.1.all a0b=true∧
  (s.1=0∨s.1=1→s.2.2.2.2.2.2.2.2.2.2.1=[]∧s.2.2.2.2.2.2.2.2.2.1.1=0∧s.2.2.2.2.2.2.2.2.2.1.2.1=[])∧
  (s.1≠0∧s.1≠1→(s.2.2.2.2.2.2.2.2.2.2.1.length:Int)=n-a0O s n∧a2X s.2.2.2.2.2.2.2.2.2.1 n (a0O s n)=true)
theorem b8h{s:Sub}(h:SmallS s){n:Int}(h1:1≤n)(h2:n≤4096)(hf:a3x s.1 s n):0≤a0O s n∧a0O s n≤4096:=by
 have hc:=h.coefs;unfold a0O;rcases hf with k|k|⟨k,h3⟩|⟨k,h3⟩|⟨k,h3⟩|⟨k,h3⟩<;>simp[k]<;>omega
open Classical in
theorem d3Z {s:Sub} (h:SmallS s) (n:Int):b2A (s,n)=some (decide (a1F s n)):=by
 have hw:short s.2.2.2.2.2.2.2.2.1:=by have:=h.warm;unfold short;omega
 have hr:short s.2.2.2.2.2.2.2.2.2.2.1:=by have:=h.rest;unfold short;omega
 have hk:short s.2.2.2.2.2.2.2.2.2.1.2.1:=by have:=h.ks;unfold short;omega
 unfold b2A
 by_cases h1:1≤n
 rotate_left
 ·have e1:decide (n<1)=true:=by simp;omega
  have:¬ a1F s n:=fun hp=>h1 hp.1
  simp only[e1,cT,oB,this,decide_false]
 have e1:decide (n<1)=false:=by simp;omega
 by_cases h2:n≤4096
 rotate_left
 ·have e2:decide (n > 4096)=true:=by simp;omega
  have:¬ a1F s n:=fun hp=>h2 hp.2.1
  simp only[e1,e2,cT,cF,oB,this,decide_false]
 have e2:decide (n > 4096)=false:=by simp;omega
 by_cases h3:a3x s.1 s n
 rotate_left
 ·have e3:b8g s.1 s n=false:=by simp[b8g,h3]
  have:¬ a1F s n:=fun hp=>h3 hp.2.2.1
  simp only[e1,e2,c1I h,e3,cT,cF,a05,oB,this,decide_false]
 have e3:b8g s.1 s n=true:=by simp[b8g,h3]
 by_cases h4:b4E s
 rotate_left
 ·have e4:b8U s=false:=by simp[b8U,h4]
  have:¬ a1F s n:=fun hp=>h4 hp.2.2.2.1
  simp only[e1,e2,c1I h,e3,c9i h,e4,cT,cF,a05,bT,oB,this,decide_false]
 have e4:b8U s=true:=by simp[b8U,h4]
 simp only[e1,e2,c1I h,e3,c9i h,e4,cF,bT,oB]
 by_cases h5:0≤s.2.1
 rotate_left
 ·have e5:decide (s.2.1<0)=true:=by simp;omega
  have:¬ a1F s n:=fun hp=>h5 hp.2.2.2.2.1
  simp only[e5,cT,oB,this,decide_false]
 have e5:decide (s.2.1<0)=false:=by simp;omega
 by_cases h6:s.2.1≤30
 rotate_left
 ·have e6:decide (s.2.1 > 30)=true:=by simp;omega
  have:¬ a1F s n:=fun hp=>h6 hp.2.2.2.2.2.1
  simp only[e5,e6,cT,cF,oB,this,decide_false]
 have e6:decide (s.2.1 > 30)=false:=by simp;omega
 simp only[e5,e6,cF]
 by_cases h7:s.1=0→s.2.1=0
 rotate_left
 ·have h7a:s.1=0:=Classical.byContradiction fun hc=>h7 fun e=>absurd e hc
  have h7b:(s.2.1 != 0)=true:=by
   simp only[bne_iff_ne,ne_eq];intro e;exact h7 fun _=>e
  have e7:(s.1==0)=true:=by simp[h7a]
  have:¬ a1F s n:=fun hp=>h7 hp.2.2.2.2.2.2.1
  simp only[e7,h7b,cT,oB,this,decide_false]
 have e7:(bif s.1==0 then some (n,(s.2.1 != 0,(s,())))else some (n,(false,(s,()))))=some (n,(false,(s,()))):=by
  by_cases k0:s.1=0
  ·simp[k0,h7 k0]
  ·have:(s.1==0)=false:=by simp[k0]
   rw[this];rfl
 simp only[e7,oB,cF,b4D]
 by_cases h8:(s.2.2.2.2.2.2.2.2.1.length:Int)=a0O s n
 rotate_left
 ·have e8:(((s.2.2.2.2.2.2.2.2.1.length:Nat):Int) != a0O s n)=true:=by simp only[bne_iff_ne,ne_eq];exact h8
  have:¬ a1F s n:=fun hp=>h8 hp.2.2.2.2.2.2.2.1
  simp only[e8,cT,oB,this,decide_false]
 have e8:(((s.2.2.2.2.2.2.2.2.1.length:Nat):Int) != a0O s n)=false:=by rw[h8];simp
 simp only[e8,cF,a4M hw,a4M hr,oB]
 cases h9:s.2.2.2.2.2.2.2.2.1.all a0b with
 |false=>
  have:¬ a1F s n:=fun hp=>by rw[hp.2.2.2.2.2.2.2.2.1]at h9;cases h9
  simp only[a05,cT,oB,this,decide_false]
 |true=>
  cases h10:s.2.2.2.2.2.2.2.2.2.2.1.all a0b with
  |false=>
   have:¬ a1F s n:=fun hp=>by rw[hp.2.2.2.2.2.2.2.2.2.1]at h10;cases h10
   simp only[a05,bT,cT,cF,oB,this,decide_false]
  |true=>
   simp only[bT,cF,oB,a9Q]
   have hwr:=b8h h h1 h2 h3
   by_cases k01:s.1≠0∧s.1≠1
   ·have e11:wrap .i64 (n-a0O s n)=n-a0O s n:=a0k (by omega)
    simp only[k01,ne_eq,not_false_eq_true,and_self,decide_true,bT,cF,e11,b3b hk,oB]
    by_cases h11:(s.2.2.2.2.2.2.2.2.2.2.1.length:Int)=n-a0O s n
    ·have e12:(((s.2.2.2.2.2.2.2.2.2.2.1.length:Nat):Int)==n-a0O s n)=true:=by simp[h11]
     simp only[e12,cT]
     congr 1
     rw[a75,dT]
     constructor
     ·intro hp
      exact⟨h1,h2,h3,h4,h5,h6,h7,h8,h9,h10,fun hc=>absurd hc (by omega),fun _=>⟨h11,hp⟩⟩
     ·intro hp;exact(hp.2.2.2.2.2.2.2.2.2.2.2 k01).2
    ·have e12:(((s.2.2.2.2.2.2.2.2.2.2.1.length:Nat):Int)==n-a0O s n)=false:=by simp only[beq_eq_false_iff_ne,ne_eq];exact h11
     have:¬ a1F s n:=fun hp=>h11 (hp.2.2.2.2.2.2.2.2.2.2.2 k01).1
     simp only[e12,cF,this,decide_false]
   ·have k01':s.1=0∨s.1=1:=by omega
    simp only[k01,decide_false,a05,cT,c6l]
    simp only[c6m,b1P]
    congr 1
    rw[a75,dT]
    simp only[bA,dT]
    constructor
    ·rintro⟨g1,g2,g3⟩
     exact⟨h1,h2,h3,h4,h5,h6,h7,h8,h9,h10,fun _=>⟨g1,g2,g3⟩,fun hc=>absurd hc k01⟩
    ·intro hp;exact hp.2.2.2.2.2.2.2.2.2.2.1 k01'
end Go.Ab
namespace Go.Ab
theorem b9J{α:Type}[DecidableEq α](q:α→α→Bool)(hq:∀a b,q a b=decide (a=b)):∀(x y:List α),x.length=y.length→((x.zip y).all fun p=>q p.1 p.2)=decide (x=y)
 | [],[],_=>by simp
 |a::x,b::y,h=>by
  have ih:=b9J q hq x y (by simpa using h);simp only[List.zip_cons_cons,a22];rw[ih,hq]
  by_cases h1:a=b<;>by_cases h2:x=y<;>simp[h1,h2]
theorem b4j{x y:List Int}(h:short x):a2x (x,y)=some (decide (x=y)):=by
 unfold a2x
 by_cases hl:x.length=y.length
 have e:(((x.length:Nat):Int) != ((y.length:Nat):Int))=false:=by rw[hl];simp
 have hz:(x.zip y).length=x.length:=by rw[b06];omega
 have:=a1U (f:=a6n) (x.zip y) (fun i=>(x,y,(i:Int),())) (fun p=>p.1==p.2) (bt:=Sum.inl ()) (bf:=Sum.inr (false,()))
  (fun i hi hp=>by
   have h1:i<x.length:=by omega
   have h2:i<y.length:=by omega
   rw[a57]at hp;have hp:x[i]=y[i]:=by simpa using hp
   have hne:(x[i] != y[i])=false:=by rw[hp];simp
   simp only[a6n,dlt h1,cT,a0d h1,a0d h2,oB,hne,cF,a0c (a23 h1 h)])
  (fun i hi hp=>by
   have h1:i<x.length:=by omega
   have h2:i<y.length:=by omega
   rw[a57]at hp;have hne:(x[i] != y[i])=true:=by simpa using hp
   simp only[a6n,dlt h1,cT,a0d h1,a0d h2,oB,hne])
  (by rw[hz];simp[a6n])
 simp only[nZ]at this;simp only[e,cF,this,b9J (fun(a b:Int)=>a==b) (fun _ _=>rfl) x y hl];cases decide (x=y)<;>rfl;have e:(((x.length:Nat):Int) != ((y.length:Nat):Int))=true:=by simp only[bne_iff_ne,ne_eq];omega
 have:¬ x=y:=fun hc=>hl (by rw[hc])
 simp only[e,cT,this,decide_false]
theorem c7C{x y:List Stg}(h:short x):a8r (x,y)=some (decide (x=y)):=by
 have heq:∀a b:Stg,eqT (.pair (.int .i64) (.pair (.int .i64) .unit)) a b=decide (a=b):=by
  rintro⟨a1,a2,⟨⟩⟩ ⟨b1,b2,⟨⟩⟩
  show((a1==b1)&&((a2==b2)&&true))=_
  by_cases h1:a1=b1<;>by_cases h2:a2=b2<;>simp[h1,h2]
 unfold a8r
 by_cases hl:x.length=y.length
 have e:(((x.length:Nat):Int) != ((y.length:Nat):Int))=false:=by rw[hl];simp
 have hz:(x.zip y).length=x.length:=by rw[b06];omega
 have:=a1U (f:=a4A) (x.zip y) (fun i=>(x,y,(i:Int),())) (fun p=>decide (p.1=p.2)) (bt:=Sum.inl ()) (bf:=Sum.inr (false,()))
  (fun i hi hp=>by
   have h1:i<x.length:=by omega
   have h2:i<y.length:=by omega
   rw[a57]at hp;simp only[a4A,dlt h1,cT,a0d h1,a0d h2,oB,heq,hp,bT,cF,a0c (a23 h1 h)])
  (fun i hi hp=>by
   have h1:i<x.length:=by omega
   have h2:i<y.length:=by omega
   rw[a57]at hp;simp only[a4A,dlt h1,cT,a0d h1,a0d h2,oB,heq,hp,a05])
  (by rw[hz];simp[a4A])
 simp only[nZ]at this;simp only[e,cF,this,b9J (fun(a b:Stg)=>decide (a=b)) (fun _ _=>rfl) x y hl];cases decide (x=y)<;>rfl;have e:(((x.length:Nat):Int) != ((y.length:Nat):Int))=true:=by simp only[bne_iff_ne,ne_eq];omega
 have:¬ x=y:=fun hc=>hl (by rw[hc])
 simp only[e,cT,this,decide_false]
open Classical in
theorem c5e {a b:Sub} (h:SmallS a):a8P (a,b)=some (decide (a=b)):=by
 have hc:short a.2.2.2.2.2.1:=by have:=h.coefs;unfold short;omega
 have hst:short a.2.2.2.2.2.2.2.1:=by have:=h.stages;unfold short;omega
 have hw:short a.2.2.2.2.2.2.2.2.1:=by have:=h.warm;unfold short;omega
 have hr:short a.2.2.2.2.2.2.2.2.2.2.1:=by have:=h.rest;unfold short;omega
 have hk:short a.2.2.2.2.2.2.2.2.2.1.2.1:=by have:=h.ks;unfold short;omega
 unfold a8P b3E
 simp only[b4j hc,b4j hw,b4j hr,b4j hk,c7C hst,b3I,oB,b1P]
 congr 1
 obtain⟨k,w,o,sh,lag,c,t,st,wm,⟨po,ks,⟨⟩⟩,r,⟨⟩⟩:=a
 obtain⟨k',w',o',sh',lag',c',t',st',wm',⟨po',ks',⟨⟩⟩,r',⟨⟩⟩:=b
 rw[a75]
 simp only[bA,dT,beq_iff_eq,pJ,and_true,and_assoc]
def b6D(s:Sub):Sub:=
 let z:List Int:=a00 3 0
 if s.1=0 then(0,0,0,0,0,[],z,[],s.2.2.2.2.2.2.2.2.1,(0,[],()),[],())
 else if s.1=1 then(1,s.2.1,0,0,0,[],z,[],s.2.2.2.2.2.2.2.2.1,(0,[],()),[],())
 else if s.1=2 then(2,s.2.1,s.2.2.1,0,0,[],z,[],s.2.2.2.2.2.2.2.2.1,s.2.2.2.2.2.2.2.2.2.1,s.2.2.2.2.2.2.2.2.2.2.1,())
 else if s.1=3 then(3,s.2.1,0,s.2.2.2.1,0,s.2.2.2.2.2.1,z,[],s.2.2.2.2.2.2.2.2.1,s.2.2.2.2.2.2.2.2.2.1,s.2.2.2.2.2.2.2.2.2.2.1,())
 else if s.1=4 then(4,s.2.1,0,s.2.2.2.1,s.2.2.2.2.1,s.2.2.2.2.2.1,s.2.2.2.2.2.2.1,[],s.2.2.2.2.2.2.2.2.1,s.2.2.2.2.2.2.2.2.2.1,s.2.2.2.2.2.2.2.2.2.2.1,())
 else if s.1=5 then(5,s.2.1,0,0,0,[],z,s.2.2.2.2.2.2.2.1,[],s.2.2.2.2.2.2.2.2.2.1,s.2.2.2.2.2.2.2.2.2.2.1,())
 else(s.1,s.2.1,0,0,0,[],z,[],s.2.2.2.2.2.2.2.2.1,s.2.2.2.2.2.2.2.2.2.1,s.2.2.2.2.2.2.2.2.2.2.1,())
theorem d5d(s:Sub):b4h s=some (b6D s):=by
 obtain⟨k,w,o,sh,lag,c,t,st,wm,p,r,u⟩:=s;unfold b4h b6D
 by_cases k0:k=0
 subst k0;rfl
 by_cases k1:k=1
 subst k1;rfl
 by_cases k2:k=2
 subst k2;rfl
 by_cases k3:k=3
 subst k3;rfl
 by_cases k4:k=4
 subst k4;rfl
 by_cases k5:k=5
 subst k5;rfl;have e0:(k==0)=false:=by simp[k0]
 have e1:(k==1)=false:=by simp[k1]
 have e2:(k==2)=false:=by simp[k2]
 have e3:(k==3)=false:=by simp[k3]
 have e4:(k==4)=false:=by simp[k4]
 have e5:(k==5)=false:=by simp[k5]
 simp only[e0,e1,e2,e3,e4,e5,cF,oB,k0,k1,k2,k3,k4,k5,if_false]
open Classical in
def b0Z (s:Sub) (n:Int):Int:=if a3x s.1 s n then a0O s n else -1
theorem c3N{s:Sub}(h:SmallS s)(n:Int):b0W (s,n)=some (b0Z s n):=by
 have hc:short s.2.2.2.2.2.1:=by have:=h.coefs;unfold short;omega
 have hst:short s.2.2.2.2.2.2.2.1:=by have:=h.stages;unfold short;omega
 have ht:=h.taps;obtain⟨k,w,o,sh,lag,c,t,st,wm,p,r,u⟩:=s;simp only at hc hst ht;unfold b0W b0Z a0O a3x
 by_cases k0:k=0
 subst k0;simp
 by_cases k1:k=1
 subst k1;simp
 by_cases k2:k=2
 subst k2
 by_cases h1:0≤o<;>by_cases h2:o≤4<;>by_cases h3:o≤n<;>simp[h1,h2,h3]
 by_cases k3:k=3
 subst k3;cases hl:a6r c sh<;>by_cases h2:(c.length:Int)≤n<;>simp[a6s hc,hl,h2]
 by_cases k4:k=4
 subst k4;cases hl:a6r c sh<;>by_cases h2:(c.length:Int)≤n<;>cases h3:a7H lag t<;>simp[a6s hc,b3G ht,hl,h2,h3]
 by_cases k5:k=5
 subst k5
 by_cases h1:0<st.length<;>cases h2:a5G st<;>simp[b2W hst,h1,h2]
 have e0:(k==0)=false:=by simp[k0]
 have e1:(k==1)=false:=by simp[k1]
 have e2:(k==2)=false:=by simp[k2]
 have e3:(k==3)=false:=by simp[k3]
 have e4:(k==4)=false:=by simp[k4]
 have e5:(k==5)=false:=by simp[k5]
 simp[k0,k1,k2,k3,k4,k5,e0,e1,e2,e3,e4,e5]
theorem a5O(k:Int):a5u k=some (decide (2≤k∧k≤5)):=by
 unfold a5u
 by_cases h1:2≤k<;>by_cases h2:k≤5<;>simp[h1,h2]
def d2C(s:Sub)(n:Int):Prop:=
 1≤n∧n≤4096∧0≤s.1∧s.1≤5∧s=b6D s∧0≤s.2.1∧s.2.1≤30∧a3x s.1 s n∧(s.2.2.2.2.2.2.2.2.1.length:Int)=a0O s n∧s.2.2.2.2.2.2.2.2.1.all a0b=true∧s.2.2.2.2.2.2.2.2.2.2.1.all a0b=true∧
  (2≤s.1∧s.1≤5→(s.2.2.2.2.2.2.2.2.2.2.1.length:Int)=n-a0O s n∧a2X s.2.2.2.2.2.2.2.2.2.1 n (a0O s n)=true)
theorem b4F{k:Int}{s:Sub}{n:Int}(h:a3x k s n):k=0∨k=1∨k=2∨k=3∨k=4∨k=5:=by
 unfold a3x at h;omega
theorem d0o(s:Sub)(n:Int):a1F s n↔d2C s n:=by
 have key:a3x s.1 s n→((b4E s∧(s.1=0→s.2.1=0)∧(s.2.2.2.2.2.2.2.2.1.length:Int)=a0O s n∧(s.1=0∨s.1=1→s.2.2.2.2.2.2.2.2.2.2.1=[]∧s.2.2.2.2.2.2.2.2.2.1.1=0∧s.2.2.2.2.2.2.2.2.2.1.2.1=[]))↔
   (s=b6D s∧(s.2.2.2.2.2.2.2.2.1.length:Int)=a0O s n)):=by
  intro hf;have ht:(a00 3 (0:Int))=[0,0,0]:=rfl;obtain⟨k,w,o,sh,lag,c,t,st,wm,⟨po,ks,⟨⟩⟩,r,⟨⟩⟩:=s;rcases b4F hf with k0|k0|k0|k0|k0|k0<;>simp only at k0<;>subst k0<;>simp[b4E,b6D,a0O,ht]<;>(try constructor)<;>(try intros)<;>(try simp_all)<;>(try exact and_left_comm)<;>(try exact and_comm)
 unfold a1F d2C;constructor
 rintro⟨h1,h2,h3,h4,h5,h6,h7,h8,h9,h10,h11,h12⟩
 obtain⟨g1,g2⟩:=(key h3).1 ⟨h4,h7,h8,h11⟩;have hk:=b4F h3;exact⟨h1,h2,by omega,by omega,g1,h5,h6,h3,h8,h9,h10,fun hc=>h12 (by omega)⟩
 rintro⟨h1,h2,h3,h4,h5,h6,h7,h8,h9,h10,h11,h12⟩
 obtain⟨g1,g2,g3,g4⟩:=(key h8).2 ⟨h5,h9⟩;have hk:=b4F h8;exact⟨h1,h2,h8,g1,h6,h7,g2,h9,h10,h11,g4,fun hc=>h12 (by omega)⟩
end Go.Ab
namespace Go.Ab
open IntKind(wrap)
def c1J(warm rest:List Int)(o:Int):Option (List Int):=bif warm.all a0b&&rest.all a0b then a4i (a3v o.toNat) rest warm else none
def backP(s:Sub):Option (List Int):=
 if s.1=1 then some s.2.2.2.2.2.2.2.2.1
 else if s.1=2 then c1J s.2.2.2.2.2.2.2.2.1 s.2.2.2.2.2.2.2.2.2.2.1 s.2.2.1
 else if s.1=3 then b2X s.2.2.2.2.2.2.2.2.1 s.2.2.2.2.2.2.2.2.2.2.1 s.2.2.2.2.2.1 s.2.2.2.1
 else if s.1=4 then(b2X s.2.2.2.2.2.2.2.2.1 s.2.2.2.2.2.2.2.2.2.2.1 s.2.2.2.2.2.1 s.2.2.2.1).bind fun l=>b2Y l s.2.2.2.2.1 s.2.2.2.2.2.2.1
 else b0Y s.2.2.2.2.2.2.2.2.2.2.1 s.2.2.2.2.2.2.2.1
def c1K(s:Sub)(n:Int):Option (List Int):=
 if s.1=0 then some (a00 n.toNat (s.2.2.2.2.2.2.2.2.1.getD 0 0))else(backP s).bind (upO s.2.1)
theorem b1a{w r c:List Int}{s:Int}{l}(h:b2X w r c s=some l):l.length=w.length+r.length:=by
 unfold b2X at h;cases hc:(w.all a0b&&r.all a0b)with
 |false=>rw[hc]at h;cases h
 |true=>
  rw[hc]at h;exact(b5A _ r w l (a83.1 hc).1 h).2
theorem c3h{w r:List Int}{o:Int}{l}(h:c1J w r o=some l):l.length=w.length+r.length:=by
 unfold c1J at h;cases hc:(w.all a0b&&r.all a0b)with
 |false=>rw[hc]at h;cases h
 |true=>
  rw[hc]at h;exact(b5A _ r w l (a83.1 hc).1 h).2
theorem c1L{r t:List Int}{lag:Int}{l}(h:b2Y r lag t=some l):l.length=r.length:=by
 unfold b2Y at h;cases hc:r.all a0b with
 |false=>rw[hc]at h;cases h
 |true=>
  rw[hc]at h
  have:=(b5A _ r [] l rfl h).2
  simpa using this
theorem c7d:∀(st:List Stg)(r:List Int){l},lO st r=some l→l.length=r.length
 | [],r,l,h=>by simp only[lO,sj]at h;rw[h]
 |s::st,r,l,h=>by
  simp only[lO]at h
  split at h
  rename_i r' hr;rw[c7d st r' h,b5C _ _ _ hr];simp;cases h
theorem c0s{r:List Int}{st:List Stg}{l}(h:b0Y r st=some l):l.length=r.length:=by
 unfold b0Y at h;cases hc:r.all a0b with
 |false=>rw[hc]at h;cases h
 |true=>rw[hc]at h;exact c7d _ _ h
theorem c1M{s:Sub}(h:SmallS s){l}(hl:backP s=some l):l.length<100000:=by
 have hw:=h.warm;have hr:=h.rest;unfold backP at hl
 split at hl
 simp only[sj]at hl;rw[←hl];omega
 split at hl
 rw[c3h hl];omega
 split at hl
 rw[b1a hl];omega
 split at hl
 obtain⟨l1,h1,h2⟩:=a53.1 hl;rw[c1L h2,b1a h1];omega;rw[c0s hl];omega
theorem d4a{s:Sub}{n:Int}(h1:1≤n)(h2:n≤4096)(hw:s.2.2.2.2.2.2.2.2.1.length=1):
  a0e a8L (n,(0:Int),([]:List Int),s,())=some (a00 n.toNat (s.2.2.2.2.2.2.2.2.1.getD 0 0),()):=by
 obtain⟨N,rfl⟩:=a03 (show 0≤n by omega);have hg:a0r s.2.2.2.2.2.2.2.2.1 (0:Int)=some (s.2.2.2.2.2.2.2.2.1.getD 0 0):=b9E (by omega) (by omega)
 have:=a0I (f:=a8L) (fun i=>((N:Int),(i:Int),a00 i (s.2.2.2.2.2.2.2.2.1.getD 0 0),s,())) N
  (b:=(a00 N (s.2.2.2.2.2.2.2.2.1.getD 0 0),())) (fun i hi=>by
   have hlim:lim ((a00 i (s.2.2.2.2.2.2.2.2.1.getD 0 0)).length+1)=true:=a0q (by rw[a31];omega);have ea:a00 i (s.2.2.2.2.2.2.2.2.1.getD 0 0)++[s.2.2.2.2.2.2.2.2.1.getD 0 0]=a00 (i+1) (s.2.2.2.2.2.2.2.2.1.getD 0 0):=by rw[←a38]
   simp only[a8L,dlt hi,cT,hg,oB,hlim,a09,ea,a0c (show i<1000000 by omega)])
  (by simp[a8L])
 simpa using this
theorem c7D{s:Sub}{n:Int}(h1:1≤n)(h2:n≤4096)(hw:s.2.2.2.2.2.2.2.2.1.length=1):
  a0e a7n (n,(0:Int),a00 n.toNat (0:Int),s,())=some (a00 n.toNat (s.2.2.2.2.2.2.2.2.1.getD 0 0),()):=by
 obtain⟨N,rfl⟩:=a03 (show 0≤n by omega);have hg:a0r s.2.2.2.2.2.2.2.2.1 (0:Int)=some (s.2.2.2.2.2.2.2.2.1.getD 0 0):=b9E (by omega) (by omega);obtain⟨z,hz⟩:∃z,a00 N (s.2.2.2.2.2.2.2.2.1.getD 0 0)=z:=⟨_,rfl⟩;have hzl:z.length=(a00 N (0:Int)).length:=by rw[←hz];simp
 have hNl:(a00 N (0:Int)).length=N:=by simp
 have:=a0I (f:=a7n) (fun i=>((N:Int),(i:Int),z.take i++(a00 N (0:Int)).drop i,s,())) N
  (b:=(z,())) (fun i hi=>by
   have hi':i<(a00 N (0:Int)).length:=by omega
   have hl:(z.take i++(a00 N (0:Int)).drop i).length=N:=by rw[lN,a04,a07];omega
   have hd:decide ((i:Int)<(((z.take i++(a00 N (0:Int)).drop i).length:Nat):Int))=true:=by rw[hl];simp;omega
   have h0:decide ((0:Int)≤(i:Int))=true:=by simp
   have hs:=c9g hi' hzl;have hzi:z[i]'(by omega)=s.2.2.2.2.2.2.2.2.1.getD 0 0:=by simp only[←hz,List.getElem_replicate]
   rw[hzi]at hs;simp only[a7n,dlt hi,cT,hg,oB,h0,hd,a02,tN,hs,a0c (show i<1000000 by omega)])
  (by
   have e1:z.take N=z:=a28 (by omega);have e2:(a00 N (0:Int)).drop N=[]:=a35 (by omega);simp[a7n,e1])
 simp only[nZ,a47,a08,a16]at this;rw[tN,hz];exact this
theorem b9K(o:Option (List Int)):((a1J o).1,(a1J o).2)=a1J o:=by cases o<;>rfl
theorem d0p{s:Sub}(h:SmallS s){n:Int}(hp:a1F s n)(h0:s.1≠0):b5w s=some (a1J (backP s)):=by
 obtain⟨h1,h2,hf,-,-,-,-,hlen,hw,hr,-⟩:=hp;have hsr:=h.rest;have hsw:=h.warm;have ht:=h.taps;obtain⟨k,w,o,sh,lag,c,t,st,wm,p,r,u⟩:=s;simp only at *;unfold b5w backP;rcases hf with k0|k0|⟨k0,g1,g2,g3⟩|⟨k0,g1,g2⟩|⟨k0,g1,g2,g3⟩|⟨k0,g1,g2⟩;exact absurd k0 h0;subst k0;simp[a1J];subst k0;obtain⟨O,rfl⟩:=a03 g1;have g2:(O:Int)≤4:=g2;simp only[a0O]at hlen;have hO:wm.length=O:=by simp at hlen;omega
 have:=c3K (warm:=wm) (rest:=r) (o:=O) (by omega) hO (by omega)
 simp[this,c1J,b9K];subst k0;simp only[a0O]at hlen;have hO:wm.length=c.length:=by simp at hlen;omega
 have:=b5h (rest:=r) g1 hO (by omega)
 simp[this,b9K]
 ·subst k0;simp only[a0O]at hlen;have hO:wm.length=c.length:=by simp at hlen;omega
  have h5:=b5h (rest:=r) g1 hO (by omega);simp only[show((4:Int)==2)=false from rfl,show((4:Int)==3)=false from rfl,show((4:Int)==4)=true from rfl,cT,cF,h5,oB];cases hl:b2X wm r c sh with
  |none=>simp[a1J]
  |some l=>
   have hll:=b1a hl;have h6:=c4Z (rest:=l) g3 ht (by omega);simp[a1J,h6]
 subst k0
 have:=c3M (rest:=r) g2 (by omega)
 simp[this,b9K]
theorem d0q{s:Sub}(h:SmallS s){n:Int}(hp:a1F s n):b5t (s,n)=some (a1J (c1K s n)):=by
 have hbl:=fun l (hl:backP s=some l)=>c1M h hl;obtain⟨h1,h2,hf,-,hw0,hw30,-,hlen,hw,hr,-⟩:=hp;have hsr:=h.rest;have hsw:=h.warm;have ht:=h.taps;have hfl:=d4a (s:=s) h1 h2;obtain⟨k,w,o,sh,lag,c,t,st,wm,p,r,u⟩:=s;simp only at *;have up:∀l,l.length<100000→b0U (l,w)=some (a1J (upO w l)):=fun l hl=>c9e hw0 hw30 hl;unfold b5t c1K;rcases hf with k0|k0|⟨k0,g1,g2,g3⟩|⟨k0,g1,g2⟩|⟨k0,g1,g2,g3⟩|⟨k0,g1,g2⟩;subst k0;simp only[a0O]at hlen
 have:=hfl (by simp at hlen;omega)
 simp[this,a1J];subst k0;simp only[backP]at hbl⊢
 have:=up wm (by omega)
 simp[this,b9K]
 ·subst k0;obtain⟨O,rfl⟩:=a03 g1;have g2:(O:Int)≤4:=g2;simp only[a0O]at hlen;have hO:wm.length=O:=by simp at hlen;omega
  have h5:=c7y (warm:=wm) (rest:=r) (o:=O) (by omega) hO (by omega);simp only[backP]at hbl⊢;simp[h5];have e:(bif wm.all a0b&&r.all a0b then a4i (a3v O) r wm else none)=c1J wm r (O:Int):=rfl;rw[e];cases hl:c1J wm r (O:Int)with
  |none=>simp[a1J]
  |some l=>simp[a1J,up l (by rw[c3h hl];omega)]
 ·subst k0;simp only[a0O]at hlen;have hO:wm.length=c.length:=by simp at hlen;omega
  have h5:=b8R (rest:=r) g1 hO (by omega);simp only[backP]at hbl⊢;simp[h5];cases hl:b2X wm r c sh with
  |none=>simp[a1J]
  |some l=>simp[a1J,up l (by rw[b1a hl];omega)]
 ·subst k0;simp only[a0O]at hlen;have hO:wm.length=c.length:=by simp at hlen;omega
  have h5:=b8R (rest:=r) g1 hO (by omega);simp only[backP]at hbl⊢;simp[h5];cases hl:b2X wm r c sh with
  |none=>simp[a1J]
  |some l=>
   have hll:=b1a hl;have h6:=c9d (rest:=l) g3 ht (by omega);simp[a1J,h6];cases hl2:b2Y l lag t with
   |none=>simp
   |some l2=>simp[up l2 (by rw[c1L hl2];omega)];cases upO w l2<;>simp[a1J]
 ·subst k0;have h5:=c7B (rest:=r) g2 (by omega);simp only[backP]at hbl⊢;simp[h5];cases hl:b0Y r st with
  |none=>simp[a1J]
  |some l=>simp[a1J,up l (by rw[c0s hl];omega)]
open Classical in
def a3y (s:Sub) (n:Int):Option (List Int):=if a1F s n then c1K s n else none
theorem d2D{s:Sub}(h:SmallS s)(n:Int):b4y (s,n)=some (match a3y s n with|some r=>(r,0)|none=>([],1)):=by
 unfold b4y a3y;simp only[d3Z h,oB]
 by_cases hp:a1F s n
 simp only[hp,decide_true,bT,cF,d0q h hp,oB,if_true];cases c1K s n<;>simp[a1J];simp only[hp,decide_false,a05,cT,if_false]
theorem d2E{s:Sub}(h:SmallS s)(n:Int):b7b (s,n)=some (a3y s n).isSome:=by
 unfold b7b;simp only[d2D h,oB];cases a3y s n<;>rfl
open Classical in
theorem c7E {s:Sub} (h:SmallS s) (n:Int):b2P (s,n)=some (match a3y s n with|some r=>(r,true)|none=>([],false)):=by
 have hw:short s.2.2.2.2.2.2.2.2.1:=by have:=h.warm;unfold short;omega
 have hr:short s.2.2.2.2.2.2.2.2.2.2.1:=by have:=h.rest;unfold short;omega
 have hk:short s.2.2.2.2.2.2.2.2.2.1.2.1:=by have:=h.ks;unfold short;omega
 have hiff:=d0o s n
 unfold b2P
 have no:¬ d2C s n→a3y s n=none:=fun hc=>by
  unfold a3y
  rw[if_neg fun hp=>hc (hiff.1 hp)]
 by_cases h1:1≤n
 rotate_left
 ·have e1:decide (n<1)=true:=by simp;omega
  rw[no fun hp=>h1 hp.1]
  simp only[e1,cT,oB]
 have e1:decide (n<1)=false:=by simp;omega
 by_cases h2:n≤4096
 rotate_left
 ·have e2:decide (n > 4096)=true:=by simp;omega
  rw[no fun hp=>h2 hp.2.1]
  simp only[e1,e2,cT,cF,oB]
 have e2:decide (n > 4096)=false:=by simp;omega
 by_cases h3:0≤s.1
 rotate_left
 ·have e3:decide (s.1<0)=true:=by simp;omega
  rw[no fun hp=>h3 hp.2.2.1]
  simp only[e1,e2,e3,cT,cF,oB]
 have e3:decide (s.1<0)=false:=by simp;omega
 by_cases h4:s.1≤5
 rotate_left
 ·have e4:decide (s.1 > 5)=true:=by simp;omega
  rw[no fun hp=>h4 hp.2.2.2.1]
  simp only[e1,e2,e3,e4,cT,cF,oB]
 have e4:decide (s.1 > 5)=false:=by simp;omega
 simp only[e1,e2,e3,e4,cF,d5d,c5e h,oB]
 by_cases h5:s=b6D s
 rotate_left
 ·rw[no fun hp=>h5 hp.2.2.2.2.1]
  simp only[h5,decide_false,a05,cT,oB]
 have e5:decide (s=b6D s)=true:=decide_eq_true h5
 simp only[e5,bT,cF]
 by_cases h6:0≤s.2.1
 rotate_left
 ·have e6:decide (s.2.1<0)=true:=by simp;omega
  rw[no fun hp=>h6 hp.2.2.2.2.2.1]
  simp only[e6,cT,oB]
 have e6:decide (s.2.1<0)=false:=by simp;omega
 by_cases h7:s.2.1≤30
 rotate_left
 ·have e7:decide (s.2.1 > 30)=true:=by simp;omega
  rw[no fun hp=>h7 hp.2.2.2.2.2.2.1]
  simp only[e6,e7,cT,cF,oB]
 have e7:decide (s.2.1 > 30)=false:=by simp;omega
 simp only[e6,e7,cF,oB,c3N h]
 by_cases h8:a3x s.1 s n
 rotate_left
 ·have e8:decide (b0Z s n<0)=true:=by simp[b0Z,h8]
  rw[no fun hp=>h8 hp.2.2.2.2.2.2.2.1]
  simp only[e8,cT,oB]
 have hwr:=b8h h h1 h2 h8
 have e8':b0Z s n=a0O s n:=by simp[b0Z,h8]
 have e8:decide (a0O s n<0)=false:=by simp;omega
 simp only[e8',e8,cF]
 by_cases h9:(s.2.2.2.2.2.2.2.2.1.length:Int)=a0O s n
 rotate_left
 ·have e9:(((s.2.2.2.2.2.2.2.2.1.length:Nat):Int) != a0O s n)=true:=by simp only[bne_iff_ne,ne_eq];exact h9
  rw[no fun hp=>h9 hp.2.2.2.2.2.2.2.2.1]
  simp only[e9,cT,oB]
 have e9:(((s.2.2.2.2.2.2.2.2.1.length:Nat):Int) != a0O s n)=false:=by rw[h9];simp
 simp only[e9,cF,a0A hw,a0A hr,oB]
 cases h10:s.2.2.2.2.2.2.2.2.1.all a0b with
 |false=>
  rw[no fun hp=>by rw[hp.2.2.2.2.2.2.2.2.2.1]at h10;cases h10]
  simp only[a05,cT,oB]
 |true=>
  cases h11:s.2.2.2.2.2.2.2.2.2.2.1.all a0b with
  |false=>
   rw[no fun hp=>by rw[hp.2.2.2.2.2.2.2.2.2.2.1]at h11;cases h11]
   simp only[a05,bT,cT,cF,oB]
  |true=>
   simp only[bT,cF,oB,a5O]
   have e11:wrap .i64 (n-a0O s n)=n-a0O s n:=a0k (by omega)
   by_cases h12:2≤s.1∧s.1≤5→(s.2.2.2.2.2.2.2.2.2.2.1.length:Int)=n-a0O s n∧a2X s.2.2.2.2.2.2.2.2.2.1 n (a0O s n)=true
   rotate_left
   ·have hg:2≤s.1∧s.1≤5:=Classical.byContradiction fun hc=>h12 fun e=>absurd e hc
    have hn:¬ ((s.2.2.2.2.2.2.2.2.2.2.1.length:Int)=n-a0O s n∧a2X s.2.2.2.2.2.2.2.2.2.1 n (a0O s n)=true):=fun hc=>h12 fun _=>hc
    rw[no fun hp=>h12 hp.2.2.2.2.2.2.2.2.2.2.2]
    simp only[hg,and_self,decide_true,cT,e11,b3b hk,a7r hk,oB]
    by_cases h13:(s.2.2.2.2.2.2.2.2.2.2.1.length:Int)=n-a0O s n
    ·have e13:(((s.2.2.2.2.2.2.2.2.2.2.1.length:Nat):Int) != n-a0O s n)=false:=by simp[h13]
     have e14:a2X s.2.2.2.2.2.2.2.2.2.1 n (a0O s n)=false:=by
      cases hb:a2X s.2.2.2.2.2.2.2.2.2.1 n (a0O s n)with
      |false=>rfl
      |true=>exact absurd ⟨h13,hb⟩ hn
     simp only[e13,e14,cF,a05,oB,cT]
    ·have e13:(((s.2.2.2.2.2.2.2.2.2.2.1.length:Nat):Int) != n-a0O s n)=true:=by simp only[bne_iff_ne,ne_eq];exact h13
     simp only[e13,cT,oB]
   have hrp:d2C s n:=⟨h1,h2,h3,h4,h5,h6,h7,h8,h9,h10,h11,h12⟩
   have hsp:=hiff.2 hrp
   have e12:(bif decide (2≤s.1∧s.1≤5)then bif (((s.2.2.2.2.2.2.2.2.2.2.1.length:Nat):Int) != wrap .i64 (n-a0O s n))then some (n,(true,(s,())))else(a6K (s.2.2.2.2.2.2.2.2.2.1,(n,a0O s n))).bind fun y9=>some (n,(!y9,(s,())))
     else some (n,(false,(s,()))))=some (n,(false,(s,()))):=by
    by_cases hg:2≤s.1∧s.1≤5
    ·obtain⟨g1,g2⟩:=h12 hg
     have e13:(((s.2.2.2.2.2.2.2.2.2.2.1.length:Nat):Int) != n-a0O s n)=false:=by simp[g1]
     simp only[hg,and_self,decide_true,cT,e11,e13,cF,a7r hk,g2,oB,bT]
    ·simp only[hg,decide_false,cF]
   simp only[e12,oB,cF]
   have hsub:a3y s n=c1K s n:=by unfold a3y;rw[if_pos hsp]
   rw[hsub]
   unfold c1K
   by_cases k0:s.1=0
   ·have ek:(s.1==0)=true:=by simp[k0]
    have hl1:s.2.2.2.2.2.2.2.2.1.length=1:=by
     have:=h9;unfold a0O at this;rw[if_pos k0]at this;omega
    have g1:decide ((0:Int)≤n)=true:=by simp;omega
    have g2:decide (n≤n)=true:=by simp
    have g3:lim n.toNat=true:=a0q (by omega)
    simp only[ek,cT,g1,g2,g3,a02,c7D h1 h2 hl1,oB,k0,if_true]
    rfl
   ·have ek:(s.1==0)=false:=by simp[k0]
    simp only[ek,cF,d0p h hsp k0,oB,k0,if_false]
    cases hb:backP s with
    |none=>simp[a1J]
    |some l=>
     have hll:=c1M h hb
     simp only[a1J,d3X h6 h7 hll,oB]
     cases upO s.2.1 l<;>simp[a1J]
theorem c7F{s:Sub}(h:SmallS s)(n:Int):b2Q (s,n)=some (a3y s n).isSome:=by
 unfold b2Q;simp only[c7E h,oB];cases a3y s n<;>rfl
end Go.Ab
namespace Go.Ab
open IntKind(wrap)
@[reducible] def Wr:Type:=(List Int)×(Int×Unit)
def d2F(w:Wr)(b:Int):Wr:=
 let bs:=if w.2.1%8=0 then w.1++[0]else w.1
 (bs.set (w.2.1 / 8).toNat (bits .u8 .or (bs.getD (w.2.1 / 8).toNat 0) (a0F .u8 b (7-w.2.1%8))),w.2.1+1,())
def wL(L:List Int):Wr:=L.foldl d2F ([],0,())
theorem d1b(L:List Int)(b:Int):wL (L++[b])=d2F (wL L) b:=by simp[wL]
theorem c5f:∀(n:Nat)(L:List Int),L.length=n→(wL L).2.1=L.length∧(wL L).1.length=(L.length+7) / 8
 |0,L,h=>by
  rw[a54.1 h];exact⟨rfl,rfl⟩
 |n+1,L,h=>by
  obtain⟨L',b,rfl⟩:∃L' b,L=L'++[b]:=by
   rcases a77 L with rfl|⟨L',b,e⟩;simp at h;exact⟨L',b,by rw[e,a78]⟩
  obtain⟨h1,h2⟩:=c5f n L' (by simpa using h);rw[d1b];simp only[d2F,List.length_set,lN,List.length_singleton,h1];refine⟨by omega,?_⟩
  by_cases h:(L'.length:Int)%8=0
  rw[if_pos h];simp;omega;rw[if_neg h];omega
theorem c9j(L:List Int):(wL L).2.1=L.length∧(wL L).1.length=(L.length+7) / 8:=c5f _ L rfl
theorem c9k{L:List Int}(hL:L.length<1000000000)(b:Int):a4m (wL L,b)=some (wL (L++[b])):=by
 obtain⟨h1,h2⟩:=c9j L;have ht:a87 ((L.length:Nat):Int) 8=((L.length:Nat):Int)%8:=a65 (by omega);have hd:Int.tdiv ((L.length:Nat):Int) 8=((L.length:Nat):Int) / 8:=Int.tdiv_eq_ediv_of_nonneg (by omega);have e1:wrap .i64 (((L.length:Nat):Int) / 8)=((L.length:Nat):Int) / 8:=a0k (by omega);have e2:wrap .i64 (7-((L.length:Nat):Int)%8)=7-((L.length:Nat):Int)%8:=a0k (by omega);have e3:wrap .i64 (((L.length:Nat):Int)+1)=((L.length:Nat):Int)+1:=a0k (by omega);have g0:decide ((0:Int)≤((L.length:Nat):Int) / 8)=true:=by simp;omega
 have g1:decide (7-((L.length:Nat):Int)%8<0)=false:=by simp;omega
 rw[d1b];generalize wL L=wr at h1 h2⊢;obtain⟨bs,n,u⟩:=wr;have h1:n=((L.length:Nat):Int):=h1;have h2:bs.length=(L.length+7) / 8:=h2;subst h1;unfold a4m d2F
 by_cases h:((L.length:Nat):Int)%8=0
 have hb:(((L.length:Nat):Int)%8==0)=true:=by simp[h]
 have hl:lim (bs.length+1)=true:=b0X (by omega);have hlt:decide (((L.length:Nat):Int) / 8<(((bs++[0]).length:Nat):Int))=true:=by simp;omega
 simp only[hb,cT,hl,oB,hd,e1,e2,e3,ht,g0,g1,a09,hlt,a02,cF,if_pos h];have hb:(((L.length:Nat):Int)%8==0)=false:=by simp only[beq_eq_false_iff_ne,ne_eq];exact h
 have hlt:decide (((L.length:Nat):Int) / 8<((bs.length:Nat):Int))=true:=by simp;omega
 simp only[hb,cF,oB,hd,e1,e2,e3,ht,g0,g1,hlt,a02,cT,if_neg h]
def b9L(v:Int)(i:Nat):Int:=wrap .u8 (bits .u64 .and (a0l .u64 v (i:Int)) 1)
def pb(v:Int):Nat→List Int
 |0=>[]
 |i+1=>b9L v i::pb v i
theorem c1N(v:Int):∀n,(pb v n).length=n
 |0=>rfl
 |n+1=>by simp[pb,c1N v n]
def a0n(v:Int)(n:Nat)(L:List Int):List Int:=bif a0l .u64 v (n:Int) != 0 then L else L++pb v n
theorem a0w(v:Int)(n:Nat)(L:List Int):L.length≤(a0n v n L).length∧(a0n v n L).length≤L.length+n:=by
 unfold a0n;cases (a0l .u64 v (n:Int) != 0)<;>simp[c1N]
def a2U(v:Int)(n:Nat):Int:=bif a0l .u64 v (n:Int) != 0 then 1 else 0
theorem c9l{v:Int}:∀(n:Nat)(L:List Int),L.length+n<1000000000→a0e a5L (v,(n:Int)-1,wL L,())=some (wL (L++pb v n),())
 |0,L,_=>by rw[a0j (b:=(wL L,())) (by simp[a5L])];simp[pb]
 |n+1,L,h=>by
  have e:((n+1:Nat):Int)-1=(n:Int):=by omega
  have e1:wrap .i64 ((n:Int)-1)=(n:Int)-1:=a0k (by omega);have h1:decide ((n:Int)≥0)=true:=by simp
  have h2:decide ((n:Int)<0)=false:=by simp
  rw[e,a0p (s':=(v,(n:Int)-1,wL (L++[b9L v n]),())) (by
   simp only[a5L,h1,h2,cT,cF,show wrap .u8 (bits .u64 .and (a0l .u64 v (n:Int)) 1)=b9L v n from rfl,c9k (show L.length<1000000000 by omega),oB,e1])]
  rw[c9l n (L++[b9L v n]) (by simp;omega),pb]
  simp
theorem a4B{L:List Int}{v:Int}{n:Nat}(hn:n≤63)(hL:L.length<999999000):a0m (wL L,v,(n:Int))=some (a2U v n,wL (a0n v n L)):=by
 unfold a0m a2U a0n;have h1:decide ((n:Int)<0)=false:=by simp
 have h2:decide ((n:Int) > 64)=false:=by simp;omega
 have e1:wrap .i64 ((n:Int)-1)=(n:Int)-1:=a0k (by omega);simp only[h1,h2,cF,oB];cases (a0l .u64 v (n:Int) != 0)with
 |true=>rfl
 |false=>simp only[cF,e1,c9l n L (by omega),oB]
theorem c1O{v:Int}:∀(n:Nat)(L:List Int),n≤64→L.length+n<1000000000→a0e a7o (v,(n:Int)-1,(L,()),())=some ((L++pb v n,()),())
 |0,L,_,_=>by rw[a0j (b:=((L,()),())) (by simp[a7o])];simp[pb]
 |n+1,L,h64,h=>by
  have e:((n+1:Nat):Int)-1=(n:Int):=by omega
  have e1:wrap .i64 ((n:Int)-1)=(n:Int)-1:=a0k (by omega);have eu:wrap .u64 (n:Int)=(n:Int):=a1p (by omega);have h1:decide ((n:Int)≥0)=true:=by simp
  have h2:decide ((n:Int)<0)=false:=by simp
  have hl:lim (L.length+1)=true:=b0X (by omega);rw[e,a0p (s':=(v,(n:Int)-1,(L++[b9L v n],()),())) (by
   simp only[a7o,h1,h2,eu,hl,cT,cF,show wrap .u8 (bits .u64 .and (a0l .u64 v (n:Int)) 1)=b9L v n from rfl,a09,e1])]
  rw[c1O n (L++[b9L v n]) (by omega) (by simp;omega),pb]
  simp
theorem a1Y{L:List Int}{v:Int}{n:Nat}(hn:n≤63)(hL:L.length<999999000):a0t ((L,()),v,(n:Int))=some (a2U v n,a0n v n L,()):=by
 unfold a0t a2U a0n;have h1:decide ((n:Int)<0)=false:=by simp
 have h2:decide ((n:Int) > 64)=false:=by simp;omega
 have h3:decide ((n:Int)<64)=true:=by simp;omega
 have e1:wrap .i64 ((n:Int)-1)=(n:Int)-1:=a0k (by omega);have eu:wrap .u64 (n:Int)=(n:Int):=a1p (by omega);simp only[h1,h2,h3,eu,cT,cF,oB];cases (a0l .u64 v (n:Int) != 0)with
 |true=>rfl
 |false=>simp only[cF,e1,c1O n L (by omega) (by omega),oB]
def unL(n:Nat)(L:List Int):List Int:=L++a00 n 0++[1]
theorem c9m{L:List Int}{n:Nat}(hn:n≤4096)(hL:L.length<999990000):a3h (wL L,(n:Int))=some (0,wL (unL n L)):=by
 unfold a3h unL;have h1:decide ((n:Int)<0)=false:=by simp
 have h2:decide ((n:Int) > 4096)=false:=by simp;omega
 simp only[h1,h2,cF,oB]
 have:=a0I (f:=a4R) (fun i=>((n:Int),(i:Int),wL (L++a00 i 0),())) n (b:=(wL (L++a00 n 0),())) (fun i hi=>by
   have ea:L++a00 i (0:Int)++[0]=L++a00 (i+1) 0:=by rw[aA,←a38]
   simp only[a4R,dlt hi,cT,c9k (show(L++a00 i (0:Int)).length<1000000000 by simp;omega),oB,ea,a0c (show i<1000000 by omega)])
  (by simp[a4R])
 simp only[nZ,a50,a21]at this;simp only[this,oB,c9k (show(L++a00 n (0:Int)).length<1000000000 by simp;omega)]
theorem c1P{L:List Int}{n:Nat}(hn:n≤4096)(hL:L.length<999990000):a4p ((L,()),(n:Int))=some (0,unL n L,()):=by
 unfold a4p unL;have h1:decide ((n:Int)<0)=false:=by simp
 have h2:decide ((n:Int) > 4096)=false:=by simp;omega
 simp only[h1,h2,cF,oB]
 have:=a0I (f:=a5N) (fun i=>((n:Int),(i:Int),(L++a00 i 0,()),())) n (b:=((L++a00 n 0,()),())) (fun i hi=>by
   have ea:L++a00 i (0:Int)++[0]=L++a00 (i+1) 0:=by rw[aA,←a38]
   have hl:lim ((L++a00 i (0:Int)).length+1)=true:=b0X (by simp;omega);simp only[a5N,dlt hi,cT,hl,a09,ea,a0c (show i<1000000 by omega)])
  (by simp[a5N])
 have hl:lim ((L++a00 n (0:Int)).length+1)=true:=b0X (by simp;omega);simp only[nZ,a50,a21]at this;simp only[this,oB,hl,cT,a09]
theorem a8v(n:Nat)(L:List Int):(unL n L).length=L.length+n+1:=by simp[unL];omega
def a3q(x:Int)(n:Nat):Int:=bits .u64 .and (wrap .u64 x) (wrap .u64 ((a0F .u64 1 (n:Int))-1))
def a1N(n:Nat)(l:List Int)(L:List Int):List Int:=l.foldl (fun L x=>a0n (a3q x n) n L) L
theorem a5g(n:Nat):∀(l L:List Int),L.length≤(a1N n l L).length∧(a1N n l L).length≤L.length+n*l.length
 | [],L=>by simp[a1N]
 |x::l,L=>by
  have h1:=a0w (a3q x n) n L;have h2:=a5g n l (a0n (a3q x n) n L);have e:a1N n (x::l) L=a1N n l (a0n (a3q x n) n L):=rfl;rw[e,lC,a79,a99];omega
theorem b6E{L:List Int}{x:Int}{n:Nat}(hn:n≤63)(hL:L.length<999999000):a3X (wL L,x,(n:Int))=some (wL (a0n (a3q x n) n L)):=by
 unfold a3X;have h1:decide ((n:Int)<0)=false:=by simp
 simp only[h1,cF,show bits .u64 .and (wrap .u64 x) (wrap .u64 ((a0F .u64 1 (n:Int))-1))=a3q x n from rfl,a4B hn hL,oB]
theorem a8w{l L:List Int}{n:Nat}(hn:n≤63)(hl:l.length<10000)(hL:L.length<900000000):a3E ((L,()),l,(n:Int))=some (a1N n l L,()):=by
 have eu:wrap .u64 (n:Int)=(n:Int):=a1p (by omega);have h2:decide ((n:Int)<0)=false:=by simp
 have key:∀(k i:Nat)(L':List Int),i+k=l.length→L'.length+64*k<999990000→a0e a7G (l,(n:Int),(i:Int),(L',()),())=some ((a1N n (l.drop i) L',()),()):=by
  intro k
  induction k with
  |zero=>
   intro i L' hi _;obtain rfl:i=l.length:=by omega
   rw[a18];exact a0j (by simp[a7G,a1N])
  |succ k ih=>
   intro i L' hi hb;have hlt:i<l.length:=by omega
   have hp:=a0w (a3q l[i] n) n L';rw[a01 hlt,a0p (s':=(l,(n:Int),((i+1:Nat):Int),(a0n (a3q l[i] n) n L',()),())) (by
    simp only[a7G,dlt hlt,cT,a0d hlt,oB,eu,h2,cF,show bits .u64 .and (wrap .u64 l[i]) (wrap .u64 ((a0F .u64 1 (n:Int))-1))=a3q l[i] n from rfl,a1Y hn (show L'.length<999999000 by omega),a0c (show i<1000000 by omega)])]
   exact ih (i+1) _ (by omega) (by omega)
 have:=key l.length 0 L (by omega) (by omega)
 simp only[nZ,a08]at this;unfold a3E;simp only[this,oB]
end Go.Ab
namespace Go.Ab
open IntKind(wrap)
def a2G(x w:Int):Bool:=decide (1≤w)&&(decide (w≤31)&&(decide (a0F .i64 (-1) (w-1)≤x)&&decide (x≤wrap .i64 (a0F .i64 1 (w-1)-1))))
theorem a8a{x:Int}{w:Nat}(hw:w≤32):a6G (x,(w:Int))=some (a2G x w):=by
 unfold a6G a2G b6l b4P
 by_cases h1:1≤(w:Int)
 by_cases h2:(w:Int)≤31
 have g1:decide ((w:Int)<1)=false:=by simp_all
 have g2:decide ((w:Int) > 31)=false:=by simp_all
 have e:wrap .i64 ((w:Int)-1)=(w:Int)-1:=a0k (by omega);have g3:decide ((w:Int)-1<0)=false:=by simp_all
 have h1':decide ((w:Int)≥1)=true:=by simp_all
 simp[h1,h2,g1,g2,g3,e]
 grind
 grind
 grind
theorem b8i{x:Int}{w:Nat}(hw:w≤32):b2a (x,(w:Int))=some (a2G x w):=by
 unfold b2a a2G c3H c1u
 by_cases h1:1≤(w:Int)
 by_cases h2:(w:Int)≤31
 have g1:decide ((w:Int)<1)=false:=by simp_all
 have g2:decide ((w:Int) > 31)=false:=by simp_all
 have e:wrap .i64 ((w:Int)-1)=(w:Int)-1:=a0k (by omega);have eu:wrap .u64 ((w:Int)-1)=(w:Int)-1:=a1p (by omega);have g3:decide ((w:Int)-1<0)=false:=by simp_all
 have h1':decide ((w:Int)≥1)=true:=by simp_all
 simp only[h1',h1,h2,g1,g2,g3,e,eu,decide_true,cT,cF,oB,a25]
 grind
 grind
 grind
def a2b(x:Int):Nat→Nat→Nat
 |0,w=>w
 |k+1,w=>bif (x != 0)&&!a2G x w then a2b x k (w+1)else w
theorem b9M(x:Int):∀(k w:Nat),a2b x k w≤w+k
 |0,w=>a42 _
 |k+1,w=>by
  simp[a2b];cases (x != 0)&&!a2G x w with
  |true=>have:=b9M x k (w+1);grind
  |false=>simp
def a0s(l:List Int):Nat:=l.foldl (fun w x=>a2b x (32-w) w) 0
theorem c0t:∀(l:List Int)(w:Nat),w≤32→l.foldl (fun w x=>a2b x (32-w) w) w≤32
 | [],w,h=>h
 |x::l,w,h=>c0t l _ (show a2b x (32-w) w≤32 by grind[b9M])
theorem a3I(l:List Int):a0s l≤32:=c0t l 0 (by omega)
theorem c7e{x:Int}{l:List Int}{n i:Int}:∀(k w:Nat),w+k=32→a0e a4l ((w:Int),x,l,n,i,())=some (((a2b x k w:Nat):Int),l,n,i,())
 |0,w,h=>by
  obtain rfl:w=32:=by omega
  simp_all[a0j,a4l,a2b]
 |k+1,w,h=>by
  have h1:decide ((w:Int)<32)=true:=by grind
  simp[a2b];cases hx:(x != 0)with
  |false=>simp_all[a0j,a4l]
  |true=>
   cases hf:a2G x w with
   |true=>exact a0j (by simp only[a4l,hx,h1,a8a (show w≤32 by omega),hf,oB,cT,cF,bT,b15])
   |false=>
    rw[a0p (s':=(((w+1:Nat):Int),x,l,n,i,())) (by simp only[a4l,hx,h1,a8a (show w≤32 by omega),hf,oB,cT,a05,a0c (show w<1000000 by omega)])];exact c7e k (w+1) (by omega)
theorem a7s{l:List Int}(hs:short l):a4G l=some ((a0s l:Nat):Int):=by
 have hs:l.length<1000000:=hs
 have:=a2M (f:=a7A) l (fun i (w:Nat)=>((w:Int),l,(l.length:Int),(i:Int),())) (fun w x=>(.inl (a2b x (32-w) w):Nat ⊕ (Int×Unit))) (fun _ w=>w≤32) (fun w=>((w:Int),()))
  (fun i h w hw=>⟨fun a' ha=>by
   simp at ha;subst ha;refine⟨?_,by grind[b9M]⟩;simp only[a7A,dlt h,cT,a0d h,oB,c7e (32-w) w (by omega),a0c (show i<1000000 by omega)],fun b hb=>(by grind)⟩)
  (fun w _=>by simp[a7A]) (a:=0) (by omega)
 simp at this;unfold a4G;rw[this];have key:∀(l:List Int)(w:Nat),a3p (fun w x=>(.inl (a2b x (32-w) w):Nat ⊕ (Int×Unit))) l w=.inl (l.foldl (fun w x=>a2b x (32-w) w) w):=by
  intro l
  induction l with
  |nil=>intro w;rfl
  |cons x l ih=>simp_all[a3p]
 rw[key];rfl
theorem c0u{l:List Int}{i:Nat}(hi:i<l.length):∀(k w:Nat),w+k=32→a0e a8O (l,(w:Int),(i:Int),())=some (l,((a2b l[i] k w:Nat):Int),(i:Int),())
 |0,w,h=>by
  obtain rfl:w=32:=by omega
  rfl
 |k+1,w,h=>by
  have h1:decide ((w:Int)<32)=true:=by grind
  simp[a2b];cases hx:(l[i] != 0)with
  |false=>simp_all[a0j,a8O,a0d]
  |true=>
   cases hf:a2G l[i] w with
   |true=>exact a0j (by simp only[a8O,a0d hi,hx,h1,b8i (show w≤32 by omega),hf,oB,cT,cF,bT,b15])
   |false=>
    rw[a0p (s':=(l,((w+1:Nat):Int),(i:Int),())) (by simp only[a8O,a0d hi,hx,h1,b8i (show w≤32 by omega),hf,oB,cT,a05,a0c (show w<1000000 by omega)])];exact c0u hi k (w+1) (by omega)
theorem a9R{l:List Int}(hs:short l):a8p l=some ((a0s l:Nat):Int):=by
 have hs:l.length<1000000:=hs
 have:=a2M (f:=b1r) l (fun i (w:Nat)=>(l,(w:Int),(i:Int),())) (fun w x=>(.inl (a2b x (32-w) w):Nat ⊕ (Int×Unit))) (fun _ w=>w≤32) (fun w=>((w:Int),()))
  (fun i h w hw=>⟨fun a' ha=>by
   simp at ha;subst ha;refine⟨?_,by grind[b9M]⟩;simp only[b1r,dlt h,cT,oB,c0u h (32-w) w (by omega),a0c (show i<1000000 by omega)],fun b hb=>(by grind)⟩)
  (fun w _=>by simp[b1r]) (a:=0) (by omega)
 simp at this;unfold a8p;rw[this];have key:∀(l:List Int)(w:Nat),a3p (fun w x=>(.inl (a2b x (32-w) w):Nat ⊕ (Int×Unit))) l w=.inl (l.foldl (fun w x=>a2b x (32-w) w) w):=by
  intro l
  induction l with
  |nil=>intro w;rfl
  |cons x l ih=>simp_all[a3p]
 rw[key];rfl
theorem b3c(x:Int):a8Y x=some (a0b x):=by
 grind[a8Y,a0b]
def a0C(x:Int):Nat:=if 0≤x then(2*x).toNat else(-2*x-1).toNat
theorem b1Q{x:Int}(h:a0b x=true):a0C x<2147483648:=by
 grind[a3F,a0C]
theorem b3d{x:Int}(h:a0b x=true):b0T x=some ((a0C x:Nat):Int):=by
 have hx:=a3F.1 h;unfold b0T a0C;simp only[b3c,h,oB,bT,cF]
 by_cases h0:0≤x
 have h0':decide (x≥0)=true:=by simp_all
 simp only[h0',cT,if_pos h0]
 grind[a0k,a1p]
 have h0':decide (x≥0)=false:=by simp_all
 simp only[h0',cF,if_neg h0]
 grind[a0k,a1p]
theorem d6W{y:Nat}(h:y<18446744073709551616):bits .u64 .xor (IntKind.max .u64) (y:Int)=((18446744073709551615-y:Nat):Int):=by
 show wrap .u64 (((a19 64 (IntKind.max .u64)) ^^^ (a19 64 (y:Int))).toNat:Int)=_;have e1:a19 64 (IntKind.max .u64)=BitVec.allOnes 64:=by rfl
 have e2:a19 64 (y:Int)=BitVec.ofNat 64 y:=a39 64 y;rw[e1,e2,BitVec.allOnes_xor,BitVec.toNat_not,a44,a49 h];rw[a1p (by omega)]
theorem b4k{x:Int}(h:a0b x=true):b4B x=some ((a0C x:Nat):Int):=by
 have hx:=a3F.1 h;unfold b4B c3J a0C;simp only[a2P,h,oB,bT,cF];have hg:∀y:Int,a0F .u64 y 1=wrap .u64 (y*2):=fun y=>rfl
 by_cases h0:0≤x
 have h0':decide (x<0)=false:=by simp_all
 simp only[h0',cF,oB,if_pos h0,hg]
 grind[a1p]
 have h0':decide (x<0)=true:=by simp_all
 simp only[h0',cT,oB,if_neg h0,hg]
 grind[wrap,IntKind.bits,IntKind.signed,d6W]
theorem a8g{N o:Nat}(h:o≤64):a0l .u64 (N:Int) (o:Int)=((N / 2^o:Nat):Int):=b9H h
theorem c7f{N o:Nat}(h:o≤64)(hs:N*2^o<9223372036854775808):a0F .u64 (N:Int) (o:Int)=((N*2^o:Nat):Int):=by
 unfold a0F;show wrap .u64 ((N:Int)*2^(min (o:Int).toNat 64))=_
 grind[a1p]
theorem c9n{y k:Nat}(hy:y<18446744073709551616)(hk:k≤62):bits .u64 .and (y:Int) (wrap .u64 (a0F .u64 1 (k:Int)-1))=((y%2^k:Nat):Int):=by
 have hp:2^k≤2^62:=a26 (by simp) hk;have hp1:1≤2^k:=a90;have hp2:(2:Nat)^62=4611686018427387904:=by rfl
 have e0:a0F .u64 1 (k:Int)=((2^k:Nat):Int):=by have:=c7f (N:=1) (o:=k) (by omega) (by omega);simp_all
 have e1:wrap .u64 (((2^k:Nat):Int)-1)=((2^k-1:Nat):Int):=by grind[a1p]
 rw[e0,e1];show wrap .u64 (((a19 64 (y:Int)) &&& (a19 64 ((2^k-1:Nat):Int))).toNat:Int)=_;rw[a39,a39,a69,a44,a44,a49 hy,a49 (by omega),a58]
 have:y%2^k<2^k:=b09 _ (by omega)
 exact a1p (by omega)
theorem b3J{q:Nat}(h:q<2147483648):wrap .i64 (q:Int)=(q:Int):=a0k (by omega)
def a8x(k:Nat)(x:Int)(L:List Int):List Int:=
 if a0C x / 2^k<32 then a0n ((a0C x%2^k:Nat):Int) k (unL (a0C x / 2^k) L)else a0n ((a0C x:Nat):Int) 32 (unL 32 L)
def a5H(k:Nat)(l:List Int)(L:List Int):List Int:=l.foldl (fun L x=>a8x k x L) L
theorem b6F{k:Nat}(hk:k≤25)(x:Int)(L:List Int):L.length≤(a8x k x L).length∧(a8x k x L).length≤L.length+100:=by
 grind[a8x,a0w,a8v]
theorem c0v{k:Nat}(hk:k≤25):∀(l L:List Int),L.length≤(a5H k l L).length∧(a5H k l L).length≤L.length+100*l.length
 | [],L=>by simp[a5H]
 |x::l,L=>by
  have h1:=b6F hk x L;have h2:=c0v hk l (a8x k x L);have e:a5H k (x::l) L=a5H k l (a8x k x L):=rfl
  grind
theorem b0K{k:Nat}(hk:k≤25):a6l (k:Int)=some true:=by
 unfold a6l
 grind
theorem b1R{k:Nat}(hk:k≤25):a3D (k:Int)=some true:=by
 unfold a3D
 grind
theorem d0r{k:Nat}{l L:List Int}(hk:k≤25)(hl:l.length<10000)(hw:l.all a0b=true)(hL:L.length<900000000):b5u (wL L,(k:Int),l)=some (0,wL (a5H k l L)):=by
 have h0:=a1U (f:=b1n) l (fun i=>((k:Int),l,l,(l.length:Int),(i:Int),wL L,())) (fun _=>true) (bt:=Sum.inl ((k:Int),l,wL L,())) (bf:=Sum.inl ((k:Int),l,wL L,()))
  (fun i h _=>by
   have:=lA.1 hw _ (a06 h)
   simp only[b1n,dlt h,cT,a0d h,oB,b3c,this,bT,cF,a0c (show i<1000000 by omega)])
  (fun i h hp=>by simp_all) (by simp[b1n])
 have key:∀(j i:Nat)(L':List Int),i+j=l.length→L'.length+100*j<999990000→a0e a8M ((k:Int),l,(l.length:Int),(i:Int),wL L',())=some (wL (a5H k (l.drop i) L'),()):=by
  intro j
  induction j with
  |zero=>
   intro i L' hi _;obtain rfl:i=l.length:=by omega
   simp_all[a0j,a8M,a5H]
  |succ j ih=>
   intro i L' hi hb;have hlt:i<l.length:=by omega
   have hwi:=lA.1 hw _ (a06 hlt);have hy:=b1Q hwi;have hrl:=b6F hk l[i] L';have hk0:decide ((k:Int)<0)=false:=by simp
   have eq:a0l .u64 ((a0C l[i]:Nat):Int) (k:Int)=((a0C l[i] / 2^k:Nat):Int):=a8g (by omega);have hql:=a33 (a0C l[i]) (2^k);have hmod:=a74 (a0C l[i]) (2^k);have emul:a0F .u64 ((a0C l[i] / 2^k:Nat):Int) (k:Int)=((a0C l[i] / 2^k*2^k:Nat):Int):=c7f (by omega) (by grind);have em:wrap .u64 (((a0C l[i]:Nat):Int)-((a0C l[i] / 2^k*2^k:Nat):Int))=((a0C l[i]%2^k:Nat):Int):=by
    rw[a93 (a0C l[i] / 2^k)]
    grind[a1p]
   have ew:wrap .i64 ((a0C l[i] / 2^k:Nat):Int)=((a0C l[i] / 2^k:Nat):Int):=b3J (a36 hql hy);rw[a01 hlt,a0p (s':=((k:Int),l,(l.length:Int),((i+1:Nat):Int),wL (a8x k l[i] L'),())) (by
    by_cases hq:a0C l[i] / 2^k<32
    have hd:decide (((a0C l[i] / 2^k:Nat):Int)<32)=true:=decide_eq_true (by omega);have hu:(unL (a0C l[i] / 2^k) L').length<999999000:=by
     rw[a8v];omega
    have hun:=c9m (L:=L') (n:=a0C l[i] / 2^k) (a71 (a23 hq (by simp))) (by omega);have hp:=a4B (L:=unL (a0C l[i] / 2^k) L') (v:=((a0C l[i]%2^k:Nat):Int)) (n:=k) (by omega) hu;simp only[a8M,dlt hlt,cT,a0d hlt,oB,b3d hwi,hk0,cF,eq,hd,ew,hun,emul,em,hp,a8x,if_pos hq,a0c (show i<1000000 by omega)];have hd:decide (((a0C l[i] / 2^k:Nat):Int)<32)=false:=decide_eq_false (by omega);have hu:=a8v 32 L';have hun:a3h (wL L',(32:Int))=some (0,wL (unL 32 L')):=c9m (L:=L') (n:=32) (by omega) (by omega);have hp:a0m (wL (unL 32 L'),((a0C l[i]:Nat):Int),(32:Int))=some (a2U ((a0C l[i]:Nat):Int) 32,wL (a0n ((a0C l[i]:Nat):Int) 32 (unL 32 L'))):=a4B (L:=unL 32 L') (v:=((a0C l[i]:Nat):Int)) (n:=32) (by omega) (by omega);simp only[a8M,dlt hlt,cT,a0d hlt,oB,b3d hwi,hk0,cF,eq,hd,hun,hp,a8x,if_neg hq,a0c (show i<1000000 by omega)])]
   exact ih (i+1) _ (by omega) (by omega)
 have h1:=key l.length 0 L (by omega) (by omega);simp_all[b5u,b0K]
theorem c6n{k:Nat}{l L:List Int}(hk:k≤25)(hl:l.length<10000)(hw:l.all a0b=true)(hL:L.length<900000000):b2R ((L,()),(k:Int),l)=some (0,a5H k l L,()):=by
 have eu:wrap .u64 (k:Int)=(k:Int):=a1p (by omega);have key:∀(j i:Nat)(L':List Int),i+j=l.length→L'.length+100*j<999990000→a0e a7q ((k:Int),l,(i:Int),(L',()),())=some ((a5H k (l.drop i) L',()),()):=by
  intro j
  induction j with
  |zero=>
   intro i L' hi _;obtain rfl:i=l.length:=by omega
   simp_all[a0j,a7q,a5H]
  |succ j ih=>
   intro i L' hi hb;have hlt:i<l.length:=by omega
   have hwi:=lA.1 hw _ (a06 hlt);have hy:=b1Q hwi;have hrl:=b6F hk l[i] L';have hk0:decide ((k:Int)<0)=false:=by simp
   have eq:a0l .u64 ((a0C l[i]:Nat):Int) (k:Int)=((a0C l[i] / 2^k:Nat):Int):=a8g (by omega);have hql:=a33 (a0C l[i]) (2^k);have em:=c9n (y:=a0C l[i]) (k:=k) (by omega) (by omega);have ew:wrap .i64 ((a0C l[i] / 2^k:Nat):Int)=((a0C l[i] / 2^k:Nat):Int):=b3J (a36 hql hy);rw[a01 hlt,a0p (s':=((k:Int),l,((i+1:Nat):Int),(a8x k l[i] L',()),())) (by
    by_cases hq:a0C l[i] / 2^k<32
    have hd:decide (((a0C l[i] / 2^k:Nat):Int)<32)=true:=decide_eq_true (by omega);have hu:(unL (a0C l[i] / 2^k) L').length<999999000:=by
     rw[a8v];omega
    have hun:=c1P (L:=L') (n:=a0C l[i] / 2^k) (a71 (a23 hq (by simp))) (by omega);have hp:=a1Y (L:=unL (a0C l[i] / 2^k) L') (v:=((a0C l[i]%2^k:Nat):Int)) (n:=k) (by omega) hu;simp only[a7q,dlt hlt,cT,a0d hlt,oB,b4k hwi,eu,hk0,cF,eq,hd,ew,hun,em,hp,a8x,if_pos hq,a0c (show i<1000000 by omega)];have hd:decide (((a0C l[i] / 2^k:Nat):Int)<32)=false:=decide_eq_false (by omega);have hu:=a8v 32 L';have hun:a4p ((L',()),(32:Int))=some (0,unL 32 L',()):=c1P (L:=L') (n:=32) (by omega) (by omega);have hp:a0t ((unL 32 L',()),((a0C l[i]:Nat):Int),(32:Int))=some (a2U ((a0C l[i]:Nat):Int) 32,a0n ((a0C l[i]:Nat):Int) 32 (unL 32 L'),()):=a1Y (L:=unL 32 L') (v:=((a0C l[i]:Nat):Int)) (n:=32) (by omega) (by omega);simp only[a7q,dlt hlt,cT,a0d hlt,oB,b4k hwi,eu,hk0,cF,eq,hd,ew,hun,hp,a8x,if_neg hq,a0c (show i<1000000 by omega)])]
   exact ih (i+1) _ (by omega) (by omega)
 have h1:=key l.length 0 L (by omega) (by omega);simp at h1;have hs:short l:=by unfold short;omega
 unfold b2R;simp only[b1R hk,oB,bT,cF,a0A hs,hw,h1]
end Go.Ab
namespace Go.Ab
open IntKind(wrap)
def a1w(zn:List Nat):List Int:=zn.map fun(a:Nat)=>(a:Int)
theorem c7G(n M:Nat):(a00 n M).sum=n*M:=by
 induction n with
 |zero=>simp
 |succ n ih=>rw[a86,a51,ih,Nat.succ_mul,Nat.add_comm]
theorem b8j{o n warm:Int}(h:(a0Z o n warm).length≠0):∃zn:List Nat,a0Z o n warm=a1w zn∧(zn.sum:Int)=n-warm∧zn.length≤256:=by
 unfold a0Z at h⊢;cases hr:(a3w n warm&&(decide (0≤o)&&decide (o≤8)))with
 |false=>rw[hr]at h;simp at h
 |true=>
  rw[hr]at h;simp only[cT]at h⊢;simp only[a3w,bA,dT]at hr;unfold b3a at h⊢
  split at h
  rename_i hc;rw[if_pos hc];obtain⟨O,rfl⟩:=a03 hr.2.1;obtain⟨N,rfl⟩:=a03 (show 0≤n by omega);obtain⟨w,rfl⟩:=a03 (show 0≤warm by omega);simp only[tN]at hc⊢;have hp:=d5c (o:=O) (by omega);have hm:=a74 N (2^O);rw[hc.1,a52]at hm;have hw:w≤N / 2^O:=by have:=hc.2;omega
  generalize N / 2^O=M at hc hw hm⊢;generalize 2^O=P at hp hm⊢;refine⟨(M-w)::a00 (P-1) M,?_,?_,?_⟩;simp only[a1w,a66,List.map_replicate];congr 1;omega;rw[a51,c7G];obtain⟨q,rfl⟩:∃q,P=q+1:=⟨P-1,by omega⟩;rw[a89];rw[Nat.succ_mul]at hm;omega
  simp;omega
  exact absurd rfl h
def b0x(k:Int)(part L:List Int):List Int:=
 if k=31 then a1N (a0s part) part (a0n ((a0s part:Nat):Int) 5 (a0n (wrap .u64 k) 5 L))else a5H k.toNat part (a0n (wrap .u64 k) 5 L)
def a5I:List Nat→List Int→List Int→List Int→List Int
 |z::zs,k::ks,l,L=>a5I zs ks (l.drop z) (b0x k (l.take z) L)
 |_,_,_,L=>L
theorem b6G{k:Int}(hk:kB k=true)(part L:List Int):L.length≤(b0x k part L).length∧(b0x k part L).length≤L.length+10+100*part.length:=by
 unfold b0x;have h1:=a0w (wrap .u64 k) 5 L;split;have h2:=a0w ((a0s part:Nat):Int) 5 (a0n (wrap .u64 k) 5 L);have h3:=a5g (a0s part) part (a0n ((a0s part:Nat):Int) 5 (a0n (wrap .u64 k) 5 L));have hw:=a3I part
 have:a0s part*part.length≤32*part.length:=a40 _ hw
 omega;rename_i hne;simp only[kB,a17,bA,dT,beq_iff_eq]at hk;have h3:=c0v (k:=k.toNat) (by omega) part (a0n (wrap .u64 k) 5 L);omega
theorem a4r{zn:List Nat}{i:Nat}(h:i<zn.length):List.getD (a1w zn) i 0=((zn[i]:Nat):Int):=by
 rw[a9O (by simpa[a1w]using h)];simp[a1w]
theorem a1a(zn:List Nat):(a1w zn).length=zn.length:=by simp[a1w]
theorem a9S{zn:List Nat}{i:Nat}(h:i<zn.length):(zn.drop i).sum=zn[i]+(zn.drop (i+1)).sum:=by
 rw[a01 h,a51]
theorem c9o{part rest:List Int}{wd:Nat}{a b:Int}{z:List Int}{p:Prt}(hw:wd≤32)(hp:part.length<10000):∀(j i:Nat)(L:List Int),i+j=part.length→L.length+64*j<999990000→
  a0e b0k (rest,(wd:Int),a,b,part,(part.length:Int),(i:Int),z,wL L,p,())=some (rest,a,b,z,wL (a1N wd (part.drop i) L),p,())
 |0,i,L,hi,_=>by
  obtain rfl:i=part.length:=by omega
  rw[a18];exact a0j (by simp[b0k,a1N])
 |j+1,i,L,hi,hb=>by
  have hlt:i<part.length:=by omega
  have h2:decide ((wd:Int)<0)=false:=by simp
  have hpl:=a0w (a3q part[i] wd) wd L;rw[a01 hlt,a0p (s':=(rest,(wd:Int),a,b,part,(part.length:Int),((i+1:Nat):Int),z,wL (a0n (a3q part[i] wd) wd L),p,())) (by
   simp only[b0k,dlt hlt,cT,a0d hlt,oB,h2,cF,show bits .u64 .and (wrap .u64 part[i]) (wrap .u64 ((a0F .u64 1 (wd:Int))-1))=a3q part[i] wd from rfl,a4B (show wd≤63 by omega) (show L.length<999999000 by omega),a0c (show i<1000000 by omega)])]
  exact c9o hw hp j (i+1) _ (by omega) (by omega)
theorem b8V{zn:List Nat}{p:Prt}(hk:p.2.1.length=zn.length)(hall:p.2.1.all kB=true)(hz:zn.length≤256):∀(j i:Nat)(l L:List Int),i+j=zn.length→(zn.drop i).sum=l.length→l.all a0b=true→l.length≤5000→L.length+10*j+100*l.length<800000000→
  a0e a6b (l,(zn.length:Int),(i:Int),a1w zn,wL L,p,())=some (wL (a5I (zn.drop i) (p.2.1.drop i) l L),())
 |0,i,l,L,hi,_,_,_,_=>by
  obtain rfl:i=zn.length:=by omega
  rw[a18];exact a0j (by simp[a6b,a5I])
 |j+1,i,l,L,hi,hsum,hw,hl5,hb=>by
  have hlt:i<zn.length:=by omega
  have hki:i<p.2.1.length:=by omega
  have hkb:=lA.1 hall _ (a06 hki);rw[a9S hlt]at hsum;have h0:decide ((0:Int)≤(i:Int))=true:=by simp
  have h1:decide ((i:Int)<(((a1w zn).length:Nat):Int))=true:=by rw[a1a];simp;omega
  have h2:decide ((0:Int)≤((zn[i]:Nat):Int))=true:=by simp
  have h3:decide (((zn[i]:Nat):Int)≤((l.length:Nat):Int))=true:=by simp;omega
  have hpart:(l.take zn[i]).length=zn[i]:=by rw[a04];omega
  have hrest:(l.drop zn[i]).length=(zn.drop (i+1)).sum:=by rw[a07];omega
  have hwp:(l.take zn[i]).all a0b=true:=lA.2 fun x hx=>lA.1 hw x (a27 hx);have hwr:(l.drop zn[i]).all a0b=true:=lA.2 fun x hx=>lA.1 hw x (a24 hx);have hpl:=b6G hkb (l.take zn[i]) L;have hp1:=a0w (wrap .u64 p.2.1[i]) 5 L;have hput:a0m (wL L,wrap .u64 p.2.1[i],(5:Int))=some (a2U (wrap .u64 p.2.1[i]) 5,wL (a0n (wrap .u64 p.2.1[i]) 5 L)):=a4B (n:=5) (by omega) (by omega);have ed:zn.drop i=zn[i]::zn.drop (i+1):=a01 hlt;have ek:p.2.1.drop i=p.2.1[i]::p.2.1.drop (i+1):=a01 hki;rw[ed,ek,a5I];have goal:a6b (l,(zn.length:Int),(i:Int),a1w zn,wL L,p,())=some (.inl (l.drop zn[i],(zn.length:Int),((i+1:Nat):Int),a1w zn,wL (b0x p.2.1[i] (l.take zn[i]) L),p,())):=by
   by_cases h31:p.2.1[i]=31
   have hne:(p.2.1[i] != 31)=false:=by rw[h31];rfl
   have hwd:=a3I (l.take zn[i]);have hsw:=a7s (l:=l.take zn[i]) (by unfold short;omega);have hp2:=a0w ((a0s (l.take zn[i]):Nat):Int) 5 (a0n (wrap .u64 p.2.1[i]) 5 L);have ew:wrap .u64 ((a0s (l.take zn[i]):Nat):Int)=((a0s (l.take zn[i]):Nat):Int):=a1p (by omega);have hput2:a0m (wL (a0n (wrap .u64 p.2.1[i]) 5 L),((a0s (l.take zn[i]):Nat):Int),(5:Int))=some (a2U ((a0s (l.take zn[i]):Nat):Int) 5,wL (a0n ((a0s (l.take zn[i]):Nat):Int) 5 (a0n (wrap .u64 p.2.1[i]) 5 L))):=a4B (n:=5) (by omega) (by omega);have hraw:=c9o (part:=l.take zn[i]) (rest:=l.drop zn[i]) (a:=(zn.length:Int)) (b:=(i:Int)) (z:=a1w zn) (p:=p) hwd (by omega) (l.take zn[i]).length 0 (a0n ((a0s (l.take zn[i]):Nat):Int) 5 (a0n (wrap .u64 p.2.1[i]) 5 L)) (by omega) (by omega);simp only[nZ,a08]at hraw;simp only[a6b,dlt hlt,h0,h1,a4r hlt,h2,h3,cT,a02,tN,a0d hki,oB,hput,hne,cF,hsw,ew,hput2,a20,hraw,a0c (show i<1000000 by omega),b0x,if_pos h31];have hne:(p.2.1[i] != 31)=true:=by simp[h31]
   simp only[kB,a17,bA,dT,beq_iff_eq]at hkb;obtain⟨K,hK⟩:=a03 (show 0≤p.2.1[i]by omega);have hrice:=d0r (k:=K) (l:=l.take zn[i]) (L:=a0n (wrap .u64 p.2.1[i]) 5 L) (by omega) (by omega) hwp (by omega);rw[←hK]at hrice;have eK:K=p.2.1[i].toNat:=by rw[hK,tN]
   simp only[a6b,dlt hlt,h0,h1,a4r hlt,h2,h3,cT,a02,tN,a0d hki,oB,hput,hne,hrice,a20,a0c (show i<1000000 by omega),b0x,if_neg h31,eK]
  rw[a0p goal];exact b8V hk hall hz j (i+1) (l.drop zn[i]) _ (by omega) hrest.symm hwr (by rw[a07];omega) (by rw[a07];omega)
theorem b4G{zn:List Nat}{p:Prt}{l:List Int}(hk:p.2.1.length=zn.length)(hall:p.2.1.all kB=true)(hz:zn.length≤256)(hw:l.all a0b=true)(hl5:l.length≤5000):∀(j i off:Nat)(L:List Int),i+j=zn.length→off+(zn.drop i).sum=l.length→L.length+10*j+100*(l.length-off)<800000000→
  a0e a4L (l,(off:Int),(i:Int),a1w zn,(L,()),p,())=some ((a5I (zn.drop i) (p.2.1.drop i) (l.drop off) L,()),())
 |0,i,off,L,hi,_,_=>by
  obtain rfl:i=zn.length:=by omega
  rw[a18];exact a0j (by simp[a4L,a5I,a1a])
 |j+1,i,off,L,hi,hsum,hb=>by
  have hlt:i<zn.length:=by omega
  have hki:i<p.2.1.length:=by omega
  have hkb:=lA.1 hall _ (a06 hki);rw[a9S hlt]at hsum;have h0:decide ((0:Int)≤(i:Int))=true:=by simp
  have h1:decide ((i:Int)<(((a1w zn).length:Nat):Int))=true:=by rw[a1a];simp;omega
  have eo:wrap .i64 ((off:Int)+((zn[i]:Nat):Int))=((off+zn[i]:Nat):Int):=by rw[a0k (by omega)];omega
  have h2:decide ((0:Int)≤((off+zn[i]:Nat):Int))=true:=by simp;omega
  have h3:decide (((off+zn[i]:Nat):Int)≤((l.length:Nat):Int))=true:=by simp only[dT];omega
  have h4:decide ((0:Int)≤(off:Int))=true:=by simp
  have h5:decide ((off:Int)≤((off+zn[i]:Nat):Int))=true:=by simp only[dT];omega
  have epart:a96 off (a67 (off+zn[i]) l)=(l.drop off).take zn[i]:=by rw[b17];congr 1;omega
  have erest:(l.drop off).drop zn[i]=l.drop (off+zn[i]):=by rw[b18]
  have hpart:((l.drop off).take zn[i]).length=zn[i]:=by rw[a04,a07];omega
  have hwp:((l.drop off).take zn[i]).all a0b=true:=lA.2 fun x hx=>lA.1 hw x (a24 (a27 hx));have hpl:=b6G hkb ((l.drop off).take zn[i]) L;have hp1:=a0w (wrap .u64 p.2.1[i]) 5 L;have hput:a0t ((L,()),wrap .u64 p.2.1[i],(5:Int))=some (a2U (wrap .u64 p.2.1[i]) 5,a0n (wrap .u64 p.2.1[i]) 5 L,()):=a1Y (n:=5) (by omega) (by omega);have ed:zn.drop i=zn[i]::zn.drop (i+1):=a01 hlt;have ek:p.2.1.drop i=p.2.1[i]::p.2.1.drop (i+1):=a01 hki;rw[ed,ek,a5I,erest];have goal:a4L (l,(off:Int),(i:Int),a1w zn,(L,()),p,())=some (.inl (l,((off+zn[i]:Nat):Int),((i+1:Nat):Int),a1w zn,(b0x p.2.1[i] ((l.drop off).take zn[i]) L,()),p,())):=by
   by_cases h31:p.2.1[i]=31
   have hne:(p.2.1[i]==31)=true:=by rw[h31];rfl
   have hwd:=a3I ((l.drop off).take zn[i]);have hsw:=a9R (l:=(l.drop off).take zn[i]) (by unfold short;omega);have hp2:=a0w ((a0s ((l.drop off).take zn[i]):Nat):Int) 5 (a0n (wrap .u64 p.2.1[i]) 5 L);have ew:wrap .u64 ((a0s ((l.drop off).take zn[i]):Nat):Int)=((a0s ((l.drop off).take zn[i]):Nat):Int):=a1p (by omega);have hput2:a0t ((a0n (wrap .u64 p.2.1[i]) 5 L,()),((a0s ((l.drop off).take zn[i]):Nat):Int),(5:Int))=some (a2U ((a0s ((l.drop off).take zn[i]):Nat):Int) 5,a0n ((a0s ((l.drop off).take zn[i]):Nat):Int) 5 (a0n (wrap .u64 p.2.1[i]) 5 L),()):=a1Y (n:=5) (by omega) (by omega);have hraw:=a8w (l:=(l.drop off).take zn[i]) (L:=a0n ((a0s ((l.drop off).take zn[i]):Nat):Int) 5 (a0n (wrap .u64 p.2.1[i]) 5 L)) (n:=a0s ((l.drop off).take zn[i])) (by omega) (by omega) (by omega);simp only[a4L,h0,h1,a4r hlt,eo,h2,h3,h4,h5,cT,a02,tN,a0d hki,oB,hput,hne,epart,hsw,ew,hput2,hraw,a0c (show i<1000000 by omega),b0x,if_pos h31];have hne:(p.2.1[i]==31)=false:=by simp[h31]
   simp only[kB,a17,bA,dT,beq_iff_eq]at hkb;obtain⟨K,hK⟩:=a03 (show 0≤p.2.1[i]by omega);have hrice:=c6n (k:=K) (l:=(l.drop off).take zn[i]) (L:=a0n (wrap .u64 p.2.1[i]) 5 L) (by omega) (by omega) hwp (by omega);rw[←hK]at hrice;have eK:K=p.2.1[i].toNat:=by rw[hK,tN]
   simp only[a4L,h0,h1,a4r hlt,eo,h2,h3,h4,h5,cT,cF,a02,tN,a0d hki,oB,hput,hne,epart,hrice,a0c (show i<1000000 by omega),b0x,if_neg h31,eK]
  rw[a0p goal];exact b4G hk hall hz hw hl5 j (i+1) (off+zn[i]) _ (by omega) (by omega) (by omega)
end Go.Ab
namespace Go.Ab
open IntKind(wrap)
theorem c6o{k:Nat}(hk:k≤25){x:Int}(hw:a0b x=true):∃c,a8Z ((k:Int),x)=some c∧0≤c∧c≤65:=by
 have hy:=b1Q hw;have eq:a0l .u64 ((a0C x:Nat):Int) (k:Int)=((a0C x / 2^k:Nat):Int):=a8g (by omega);have ew:wrap .i64 ((a0C x / 2^k:Nat):Int)=((a0C x / 2^k:Nat):Int):=b3J (a36 (a33 _ _) hy);have hk0:decide ((k:Int)<0)=false:=by simp
 unfold a8Z;simp only[b0K hk,b3c,hw,oB,bT,cF,b3d hw,hk0,eq,ew];generalize a0C x / 2^k=q
 by_cases hq:q<32
 have hd:decide ((q:Int)<32)=true:=decide_eq_true (by omega);refine⟨(q:Int)+1+k,?_,by omega,by omega⟩;simp only[hd,cT];rw[a0k (n:=(q:Int)+1) (by omega),a0k (by omega)];have hd:decide ((q:Int)<32)=false:=decide_eq_false (by omega);exact⟨65,by simp only[hd,cF],by omega,by omega⟩
theorem c2y{k:Nat}(hk:k≤25){x:Int}(hw:a0b x=true):∃c,a6L ((k:Int),x)=some c∧0≤c∧c≤65:=by
 have hy:=b1Q hw;have eq:a0l .u64 ((a0C x:Nat):Int) (k:Int)=((a0C x / 2^k:Nat):Int):=a8g (by omega);have ew:wrap .i64 ((a0C x / 2^k:Nat):Int)=((a0C x / 2^k:Nat):Int):=b3J (a36 (a33 _ _) hy);have eu:wrap .u64 (k:Int)=(k:Int):=a1p (by omega);have hk0:decide ((k:Int)<0)=false:=by simp
 unfold a6L;simp only[b1R hk,a2P,hw,oB,bT,cF,b4k hw,eu,hk0,eq,ew];generalize a0C x / 2^k=q
 by_cases hq:q<32
 have hd:decide ((q:Int)<32)=true:=decide_eq_true (by omega);refine⟨(q:Int)+1+k,?_,by omega,by omega⟩;simp only[hd,cT];rw[a0k (n:=(q:Int)+1) (by omega),a0k (by omega)];have hd:decide ((q:Int)<32)=false:=decide_eq_false (by omega);exact⟨65,by simp only[hd,cF],by omega,by omega⟩
theorem c7H{k:Nat}(hk:k≤25){l:List Int}(hw:l.all a0b=true)(hl:l.length<10000):∃c,a4Q ((k:Int),l)=some c∧0≤c∧c≤65*l.length:=by
 have key:∀(j i:Nat)(c:Int),i+j=l.length→0≤c→c≤65*i→∃c',a0e a5t ((k:Int),c,l,(l.length:Int),(i:Int),())=some (c',())∧0≤c'∧c'≤65*l.length:=by
  intro j
  induction j with
  |zero=>
   intro i c hi h0 h1;obtain rfl:i=l.length:=by omega
   exact⟨c,a0j (by simp[a5t]),h0,h1⟩
  |succ j ih=>
   intro i c hi h0 h1;have hlt:i<l.length:=by omega
   obtain⟨d,hd,hd0,hd1⟩:=c6o hk (lA.1 hw _ (a06 hlt));have e:wrap .i64 (c+d)=c+d:=a0k (by omega);rw[a0p (s':=((k:Int),c+d,l,(l.length:Int),((i+1:Nat):Int),())) (by simp only[a5t,dlt hlt,cT,a0d hlt,oB,hd,e,a0c (show i<1000000 by omega)])];exact ih (i+1) _ (by omega) (by omega) (by omega)
 obtain⟨c,h1,h2,h3⟩:=key l.length 0 0 (by omega) (by omega) (by omega);simp only[nZ]at h1;exact⟨c,by unfold a4Q;simp only[h1,oB],h2,h3⟩
theorem c3O{k:Nat}(hk:k≤25){l:List Int}(hw:l.all a0b=true)(hl:l.length<10000):∃c,a4h ((k:Int),l)=some c∧0≤c∧c≤65*l.length:=by
 have key:∀(j i:Nat)(c:Int),i+j=l.length→0≤c→c≤65*i→∃c',a0e a4g ((k:Int),l,c,(i:Int),())=some (c',())∧0≤c'∧c'≤65*l.length:=by
  intro j
  induction j with
  |zero=>
   intro i c hi h0 h1;obtain rfl:i=l.length:=by omega
   exact⟨c,a0j (by simp[a4g]),h0,h1⟩
  |succ j ih=>
   intro i c hi h0 h1;have hlt:i<l.length:=by omega
   obtain⟨d,hd,hd0,hd1⟩:=c2y hk (lA.1 hw _ (a06 hlt));have e:wrap .i64 (c+d)=c+d:=a0k (by omega);rw[a0p (s':=((k:Int),l,c+d,((i+1:Nat):Int),())) (by simp only[a4g,dlt hlt,cT,a0d hlt,oB,hd,e,a0c (show i<1000000 by omega)])];exact ih (i+1) _ (by omega) (by omega) (by omega)
 obtain⟨c,h1,h2,h3⟩:=key l.length 0 0 (by omega) (by omega) (by omega);simp only[nZ]at h1;exact⟨c,by unfold a4h;simp only[h1,oB],h2,h3⟩
theorem c1Q{w n:Nat}(hw:w≤32)(hn:n<10000):0≤(w:Int)*(n:Int)∧(w:Int)*(n:Int)≤32*n:=by
 have h:w*n≤32*n:=a40 _ hw;have e:(w:Int)*(n:Int)=((w*n:Nat):Int):=by rw[b05]
 omega
theorem c6p{l:List Int}(hl:l.length<10000):∃c,a7w l=some c∧0≤c∧c≤5+32*l.length:=by
 have hm:=c1Q (a3I l) hl;refine⟨5+((a0s l:Nat):Int)*((l.length:Nat):Int),?_,by omega,by omega⟩;unfold a7w;simp only[a7s (show short l by unfold short;omega),oB];rw[a0k (n:=((a0s l:Nat):Int)*((l.length:Nat):Int)) (by omega),a0k (by omega)]
theorem b7r{zn:List Nat}{p:Prt}(hk:p.2.1.length=zn.length)(hall:p.2.1.all kB=true)(hz:zn.length≤256):∀(j i:Nat)(l:List Int)(c:Int),i+j=zn.length→(zn.drop i).sum=l.length→l.all a0b=true→l.length≤5000→4≤c→c+10*j+65*l.length<1000000→
  ∃c',a0e a1X (l,c,(zn.length:Int),(i:Int),a1w zn,p,())=some (c',())∧4≤c'
 |0,i,l,c,hi,_,_,_,hc,_=>by
  obtain rfl:i=zn.length:=by omega
  exact⟨c,a0j (by simp[a1X]),hc⟩
 |j+1,i,l,c,hi,hsum,hw,hl5,hc,hb=>by
  have hlt:i<zn.length:=by omega
  have hki:i<p.2.1.length:=by omega
  have hkb:=lA.1 hall _ (a06 hki);rw[a9S hlt]at hsum;have h0:decide ((0:Int)≤(i:Int))=true:=by simp
  have h1:decide ((i:Int)<(((a1w zn).length:Nat):Int))=true:=by rw[a1a];simp;omega
  have h2:decide ((0:Int)≤((zn[i]:Nat):Int))=true:=by simp
  have h3:decide (((zn[i]:Nat):Int)≤((l.length:Nat):Int))=true:=by simp;omega
  have hpart:(l.take zn[i]).length=zn[i]:=by rw[a04];omega
  have hrest:(l.drop zn[i]).length=(zn.drop (i+1)).sum:=by rw[a07];omega
  have hwp:(l.take zn[i]).all a0b=true:=lA.2 fun x hx=>lA.1 hw x (a27 hx);have hwr:(l.drop zn[i]).all a0b=true:=lA.2 fun x hx=>lA.1 hw x (a24 hx);have goal:∃d,a1X (l,c,(zn.length:Int),(i:Int),a1w zn,p,())=some (.inl (l.drop zn[i],c+d,(zn.length:Int),((i+1:Nat):Int),a1w zn,p,()))∧0≤d∧d≤10+65*zn[i]:=by
   by_cases h31:p.2.1[i]=31
   have hne:(p.2.1[i]==31)=true:=by rw[h31];rfl
   obtain⟨r,hr,hr0,hr1⟩:=c6p (l:=l.take zn[i]) (by omega);have e1:wrap .i64 (5+r)=5+r:=a0k (by omega);have e2:wrap .i64 (c+(5+r))=c+(5+r):=a0k (by omega);refine⟨5+r,?_,by omega,by omega⟩;simp only[a1X,dlt hlt,h0,h1,a4r hlt,h2,h3,cT,a02,tN,a0d hki,oB,hne,hr,e1,e2,a20,a0c (show i<1000000 by omega)];have hne:(p.2.1[i]==31)=false:=by simp[h31]
   simp only[kB,a17,bA,dT,beq_iff_eq]at hkb;obtain⟨K,hK⟩:=a03 (show 0≤p.2.1[i]by omega);obtain⟨r,hr,hr0,hr1⟩:=c7H (k:=K) (by omega) hwp (by omega);rw[←hK]at hr;have e1:wrap .i64 (5+r)=5+r:=a0k (by omega);have e2:wrap .i64 (c+(5+r))=c+(5+r):=a0k (by omega);refine⟨5+r,?_,by omega,by omega⟩;simp only[a1X,dlt hlt,h0,h1,a4r hlt,h2,h3,cT,cF,a02,tN,a0d hki,oB,hne,hr,e1,e2,a20,a0c (show i<1000000 by omega)]
  obtain⟨d,hd,hd0,hd1⟩:=goal;rw[a0p hd];exact b7r hk hall hz j (i+1) (l.drop zn[i]) _ (by omega) hrest.symm hwr (by rw[a07];omega) (by omega) (by rw[a07];omega)
theorem b3p{zn:List Nat}{p:Prt}{l:List Int}(hk:p.2.1.length=zn.length)(hall:p.2.1.all kB=true)(hz:zn.length≤256)(hw:l.all a0b=true)(hl5:l.length≤5000):∀(j i off:Nat)(c:Int),i+j=zn.length→off+(zn.drop i).sum=l.length→4≤c→c+10*j+65*(l.length-off:Nat)<1000000→
  ∃c',a0e a3a (l,c,(off:Int),(i:Int),a1w zn,p,())=some (c',())∧4≤c'
 |0,i,off,c,hi,_,hc,_=>by
  obtain rfl:i=zn.length:=by omega
  exact⟨c,a0j (by simp[a3a,a1a]),hc⟩
 |j+1,i,off,c,hi,hsum,hc,hb=>by
  have hlt:i<zn.length:=by omega
  have hki:i<p.2.1.length:=by omega
  have hkb:=lA.1 hall _ (a06 hki);rw[a9S hlt]at hsum;have h0:decide ((0:Int)≤(i:Int))=true:=by simp
  have h1:decide ((i:Int)<(((a1w zn).length:Nat):Int))=true:=by rw[a1a];simp;omega
  have eo:wrap .i64 ((off:Int)+((zn[i]:Nat):Int))=((off+zn[i]:Nat):Int):=by rw[a0k (by omega)];omega
  have h2:decide ((0:Int)≤((off+zn[i]:Nat):Int))=true:=by simp;omega
  have h3:decide (((off+zn[i]:Nat):Int)≤((l.length:Nat):Int))=true:=by simp only[dT];omega
  have h4:decide ((0:Int)≤(off:Int))=true:=by simp
  have h5:decide ((off:Int)≤((off+zn[i]:Nat):Int))=true:=by simp only[dT];omega
  have epart:a96 off (a67 (off+zn[i]) l)=(l.drop off).take zn[i]:=by rw[b17];congr 1;omega
  have hpart:((l.drop off).take zn[i]).length=zn[i]:=by rw[a04,a07];omega
  have hwp:((l.drop off).take zn[i]).all a0b=true:=lA.2 fun x hx=>lA.1 hw x (a24 (a27 hx));have hcost:∃d,a3n (p.2.1[i],(l.drop off).take zn[i])=some d∧0≤d∧d≤5+65*zn[i]:=by
   unfold a3n
   by_cases h31:p.2.1[i]=31
   have hne:(p.2.1[i]==31)=true:=by rw[h31];rfl
   have hm:=c1Q (a3I ((l.drop off).take zn[i])) (show((l.drop off).take zn[i]).length<10000 by omega);refine⟨5+((a0s ((l.drop off).take zn[i]):Nat):Int)*((((l.drop off).take zn[i]).length:Nat):Int),?_,by omega,by omega⟩;simp only[hne,cT,a9R (show short ((l.drop off).take zn[i])by unfold short;omega),oB];rw[Int.mul_comm (((((l.drop off).take zn[i]).length:Nat):Int)),a0k (n:=((a0s ((l.drop off).take zn[i]):Nat):Int)*((((l.drop off).take zn[i]).length:Nat):Int)) (by omega),a0k (by omega)];have hne:(p.2.1[i]==31)=false:=by simp[h31]
   simp only[kB,a17,bA,dT,beq_iff_eq]at hkb;obtain⟨K,hK⟩:=a03 (show 0≤p.2.1[i]by omega);obtain⟨r,hr,hr0,hr1⟩:=c3O (k:=K) (by omega) hwp (by omega);rw[←hK]at hr;exact⟨r,by simp only[hne,cF,hr,oB],hr0,by omega⟩
  obtain⟨d,hd,hd0,hd1⟩:=hcost;have e1:wrap .i64 (c+5)=c+5:=a0k (by omega);have e2:wrap .i64 (c+5+d)=c+5+d:=a0k (by omega);rw[a0p (s':=(l,c+5+d,((off+zn[i]:Nat):Int),((i+1:Nat):Int),a1w zn,p,())) (by
   simp only[a3a,h0,h1,a4r hlt,eo,h2,h3,h4,h5,cT,a02,tN,a0d hki,oB,epart,hd,e1,e2,a0c (show i<1000000 by omega)])]
  exact b3p hk hall hz hw hl5 j (i+1) (off+zn[i]) _ (by omega) (by omega) (by omega) (by omega)
structure PartsOk (p:Prt) (n warm:Int) (l:List Int) (zn:List Nat):Prop where
 may:a2X p n warm=true
 sizes:a0Z p.1 n warm=a1w zn
 sum:zn.sum=l.length
 len:zn.length≤256
 ks:p.2.1.length=zn.length
 all:p.2.1.all kB=true
 wide:l.all a0b=true
 short:l.length≤5000
 row:a3w n warm=true
 rest:(l.length:Int)=n-warm
 order:0≤p.1∧p.1≤8
theorem PartsOk.of{p:Prt}{n warm:Int}{l:List Int}(h:a2X p n warm=true)(hl:(l.length:Int)=n-warm)(hw:l.all a0b=true)(h5:l.length≤5000):∃zn,PartsOk p n warm l zn:=by
 have h':=h;simp only[a2X,bA,a37,beq_eq_false_iff_ne,ne_eq,beq_iff_eq]at h';obtain⟨h1,h2,h3⟩:=h';obtain⟨zn,g1,g2,g3⟩:=b8j h1;have hr:a3w n warm=true∧0≤p.1∧p.1≤8:=by
  unfold a0Z at h1;cases hr:(a3w n warm&&(decide (0≤p.1)&&decide (p.1≤8)))with
  |false=>rw[hr]at h1;simp at h1
  |true=>simpa using hr
 exact⟨zn,h,g1,by omega,g3,by rw[←h2,g1,a1a],h3,hw,h5,hr.1,hl,hr.2⟩
theorem b3K{n warm:Int}{l:List Int}(hr:a3w n warm=true)(hl:(l.length:Int)=n-warm)(hw:l.all a0b=true)(h5:l.length≤5000):a8J (n,warm,l)=some true:=by
 have e:wrap .i64 (n-warm)=n-warm:=by
  simp only[a3w,bA,dT]at hr;exact a0k (by omega)
 have h1:(((l.length:Nat):Int) != n-warm)=false:=by rw[hl];simp
 have e2:b6k=a3s:=rfl;have hs:short l:=by unfold short;omega
 have ha:=a4M hs;unfold a2O at ha;unfold a8J;simp only[c1H,hr,oB,bT,cF,e,h1,e2];rw[hw]at ha;exact ha
theorem c5g{p:Prt}{n warm:Int}{l:List Int}{zn:List Nat}(h:PartsOk p n warm l zn):∃c,a6m (p,n,warm,l)=some c∧4≤c:=by
 have hk:Go.Ab.short p.2.1:=by have:=h.ks;have:=h.len;unfold Go.Ab.short;omega
 have h5:=h.short;have hz:=h.len;obtain⟨c,h1,h2⟩:=b7r h.ks h.all h.len zn.length 0 l 4 (by omega) (by rw[a08];exact h.sum) h.wide h.short (by omega) (by omega);simp only[nZ]at h1;refine⟨c,?_,h2⟩;unfold a6m;simp only[b3b hk,h.may,b3K h.row h.rest h.wide h.short,oB,bT,cF,a3H,h.sizes,a1a,h1]
theorem c1R{p:Prt}{n warm:Int}{l:List Int}{zn:List Nat}(h:PartsOk p n warm l zn):∃c,a2T (p,n,warm,l)=some c∧4≤c:=by
 have hk:Go.Ab.short p.2.1:=by have:=h.ks;have:=h.len;unfold Go.Ab.short;omega
 have hs:Go.Ab.short l:=by have:=h.short;unfold Go.Ab.short;omega
 have h5:=h.short;have hz:=h.len;have hr:=h.row;simp only[a3w,bA,dT]at hr;have e:wrap .i64 (n-warm)=n-warm:=a0k (by omega);have he:(((l.length:Nat):Int) != n-warm)=false:=by rw[h.rest];simp
 obtain⟨c,h1,h2⟩:=b3p h.ks h.all h.len h.wide h.short zn.length 0 0 4 (by omega) (by rw[a08,h.sum];omega) (by omega) (by omega);simp only[nZ]at h1;refine⟨c,?_,h2⟩;unfold a2T;simp only[a7r hk,h.may,oB,bT,cF,e,he,a0A hs,h.wide,a2D,h.sizes,h1]
def a3J(p:Prt)(zn:List Nat)(l L:List Int):List Int:=a5I zn p.2.1 l (a0n (wrap .u64 p.1) 4 L)
theorem c9p{p:Prt}{n warm:Int}{l L:List Int}{zn:List Nat}(h:PartsOk p n warm l zn)(hL:L.length<700000000):b4c (wL L,p,n,warm,l)=some (0,wL (a3J p zn l L)):=by
 have h5:=h.short;have hz:=h.len;obtain⟨c,hc,hc4⟩:=c5g h;have hne:(c==0)=false:=by simp only[beq_eq_false_iff_ne,ne_eq];omega
 have hpl:=a0w (wrap .u64 p.1) 4 L;have hput:a0m (wL L,wrap .u64 p.1,(4:Int))=some (a2U (wrap .u64 p.1) 4,wL (a0n (wrap .u64 p.1) 4 L)):=a4B (n:=4) (by omega) (by omega);have hloop:=b8V h.ks h.all h.len zn.length 0 l (a0n (wrap .u64 p.1) 4 L) (by omega) (by rw[a08];exact h.sum) h.wide h.short (by omega);simp only[nZ,a08]at hloop;unfold b4c;simp only[hc,oB,hne,cF,hput,a3H,h.sizes,a1a,hloop,a3J]
theorem c5h{p:Prt}{n warm:Int}{l L:List Int}{zn:List Nat}(h:PartsOk p n warm l zn)(hL:L.length<700000000):b1u ((L,()),p,n,warm,l)=some (0,a3J p zn l L,()):=by
 have h5:=h.short;have hz:=h.len;obtain⟨c,hc,hc4⟩:=c1R h;have hne:(c==0)=false:=by simp only[beq_eq_false_iff_ne,ne_eq];omega
 have hpl:=a0w (wrap .u64 p.1) 4 L;have hput:a0t ((L,()),wrap .u64 p.1,(4:Int))=some (a2U (wrap .u64 p.1) 4,a0n (wrap .u64 p.1) 4 L,()):=a1Y (n:=4) (by omega) (by omega);have hloop:=b4G h.ks h.all h.len h.wide h.short zn.length 0 0 (a0n (wrap .u64 p.1) 4 L) (by omega) (by rw[a08,h.sum];omega) (by omega);simp only[nZ,a08]at hloop;unfold b1u;simp only[hc,oB,hne,cF,hput,a2D,h.sizes,hloop,a3J]
end Go.Ab
namespace Go.Ab
open IntKind(wrap)
theorem c5i{c:List Int}{wd:Nat}(hw:wd≤32)(hc:c.length<10000):∀(j i:Nat)(L:List Int),i+j=c.length→L.length+64*j<999990000→
  a0e a7B ((wd:Int),c,(c.length:Int),(i:Int),wL L,())=some (wL (a1N wd (c.drop i) L),())
 |0,i,L,hi,_=>by
  obtain rfl:i=c.length:=by omega
  simp_all[a0j,a7B,a1N]
 |j+1,i,L,hi,hb=>by
  have hlt:i<c.length:=by omega
  have hpl:=a0w (a3q c[i] wd) wd L;rw[a01 hlt,a0p (s':=((wd:Int),c,(c.length:Int),((i+1:Nat):Int),wL (a0n (a3q c[i] wd) wd L),())) (by
   simp only[a7B,dlt hlt,cT,a0d hlt,oB,b6E (show wd≤63 by omega) (show L.length<999999000 by omega),a0c (show i<1000000 by omega)])]
  exact c5i hw hc j (i+1) _ (by omega) (by omega)
theorem c7g{t:List Int}{n wd:Int}{s:Sub}(ht:t.length=3):∀(j i:Nat)(L:List Int),i+j=3→L.length+64*j<999990000→
  a0e b2E (n,wd,t,(i:Int),wL L,s,())=some (n,wd,wL (a1N 8 (t.drop i) L),s,())
 |0,i,L,hi,_=>by
  obtain rfl:i=t.length:=by omega
  grind[a0j,b2E,a1N]
 |j+1,i,L,hi,hb=>by
  have hlt:i<t.length:=by omega
  have h3:decide ((i:Int)<3)=true:=by grind
  have hpl:=a0w (a3q t[i] 8) 8 L;have hps:a3X (wL L,t[i],(8:Int))=some (wL (a0n (a3q t[i] 8) 8 L)):=b6E (n:=8) (by omega) (by omega);rw[a01 hlt,a0p (s':=(n,wd,t,((i+1:Nat):Int),wL (a0n (a3q t[i] 8) 8 L),s,())) (by
   simp only[b2E,h3,cT,a0d hlt,oB,hps,a0c (show i<1000000 by omega)])]
  exact c7g ht j (i+1) _ (by omega) (by omega)
theorem c7h{l:List Int}{n:Int}{wd:Nat}{s:Sub}(hw:wd≤32)(hl:l.length<10000):∀(j i:Nat)(L:List Int),i+j=l.length→L.length+64*j<999990000→
  a0e b2G (n,(wd:Int),l,(l.length:Int),(i:Int),wL L,s,())=some (n,wL (a1N wd (l.drop i) L),s,())
 |0,i,L,hi,_=>by
  obtain rfl:i=l.length:=by omega
  simp_all[a0j,b2G,a1N]
 |j+1,i,L,hi,hb=>by
  have hlt:i<l.length:=by omega
  have hpl:=a0w (a3q l[i] wd) wd L;rw[a01 hlt,a0p (s':=(n,(wd:Int),l,(l.length:Int),((i+1:Nat):Int),wL (a0n (a3q l[i] wd) wd L),s,())) (by
   simp only[b2G,dlt hlt,cT,a0d hlt,oB,b6E (show wd≤63 by omega) (show L.length<999999000 by omega),a0c (show i<1000000 by omega)])]
  exact c7h hw hl j (i+1) _ (by omega) (by omega)
def a8b(s:Stg)(L:List Int):List Int:=a0n (wrap .u64 s.2.1) 4 (a0n (wrap .u64 (wrap .i64 (s.1-1))) 5 L)
def a4q(st:List Stg)(L:List Int):List Int:=st.foldl (fun L s=>a8b s L) L
theorem b4X(s:Stg)(L:List Int):(a8b s L).length≤L.length+9:=by
 grind[a0w,a8b]
theorem b8W:∀(st:List Stg)(L:List Int),(a4q st L).length≤L.length+9*st.length
 | [],L=>by simp[a4q]
 |s::st,L=>by
  have h1:=b4X s L;have h2:=b8W st (a8b s L);have e:a4q (s::st) L=a4q st (a8b s L):=rfl
  grind
theorem c3i{st:List Stg}{n wd:Int}{s:Sub}(hs:st.length<10000):∀(j i:Nat)(L:List Int),i+j=st.length→L.length+64*j<999990000→
  a0e b2F (n,wd,st,(st.length:Int),(i:Int),wL L,s,())=some (n,wd,wL (a4q (st.drop i) L),s,())
 |0,i,L,hi,_=>by
  obtain rfl:i=st.length:=by omega
  simp_all[a0j,b2F,a4q]
 |j+1,i,L,hi,hb=>by
  have hlt:i<st.length:=by omega
  have hp1:=a0w (wrap .u64 (wrap .i64 (st[i].1-1))) 5 L;have hsl:=b4X st[i] L;have h1:a0m (wL L,wrap .u64 (wrap .i64 (st[i].1-1)),(5:Int))=some (a2U (wrap .u64 (wrap .i64 (st[i].1-1))) 5,wL (a0n (wrap .u64 (wrap .i64 (st[i].1-1))) 5 L)):=a4B (n:=5) (by omega) (by omega);have h2:a0m (wL (a0n (wrap .u64 (wrap .i64 (st[i].1-1))) 5 L),wrap .u64 st[i].2.1,(4:Int))=some (a2U (wrap .u64 st[i].2.1) 4,wL (a8b st[i] L)):=a4B (n:=4) (by omega) (by omega);rw[a01 hlt,a0p (s':=(n,wd,st,(st.length:Int),((i+1:Nat):Int),wL (a8b st[i] L),s,())) (by
   simp only[b2F,dlt hlt,cT,a0d hlt,oB,h1,h2,a0c (show i<1000000 by omega)])]
  exact c3i hs j (i+1) _ (by omega) (by omega)
theorem b7s{n wd:Int}{s:Sub}(hs:s.2.2.2.2.2.2.2.1.length<10000):∀(j i:Nat)(L:List Int),i+j=s.2.2.2.2.2.2.2.1.length→L.length+64*j<999990000→
  a0e a9r (n,wd,(i:Int),(L,()),s,())=some (n,wd,(a4q (s.2.2.2.2.2.2.2.1.drop i) L,()),s,())
 |0,i,L,hi,_=>by
  obtain rfl:i=s.2.2.2.2.2.2.2.1.length:=by omega
  simp_all[a0j,a9r,a4q]
 |j+1,i,L,hi,hb=>by
  have hlt:i<s.2.2.2.2.2.2.2.1.length:=by omega
  have hp1:=a0w (wrap .u64 (wrap .i64 (s.2.2.2.2.2.2.2.1[i].1-1))) 5 L;have hsl:=b4X s.2.2.2.2.2.2.2.1[i] L;have h1:a0t ((L,()),wrap .u64 (wrap .i64 (s.2.2.2.2.2.2.2.1[i].1-1)),(5:Int))=some (a2U (wrap .u64 (wrap .i64 (s.2.2.2.2.2.2.2.1[i].1-1))) 5,a0n (wrap .u64 (wrap .i64 (s.2.2.2.2.2.2.2.1[i].1-1))) 5 L,()):=a1Y (n:=5) (by omega) (by omega);have h2:a0t ((a0n (wrap .u64 (wrap .i64 (s.2.2.2.2.2.2.2.1[i].1-1))) 5 L,()),wrap .u64 s.2.2.2.2.2.2.2.1[i].2.1,(4:Int))=some (a2U (wrap .u64 s.2.2.2.2.2.2.2.1[i].2.1) 4,a8b s.2.2.2.2.2.2.2.1[i] L,()):=a1Y (n:=4) (by omega) (by omega);rw[a01 hlt,a0p (s':=(n,wd,((i+1:Nat):Int),(a8b s.2.2.2.2.2.2.2.1[i] L,()),s,())) (by
   simp only[a9r,dlt hlt,cT,a0d hlt,oB,h1,h2,a0c (show i<1000000 by omega)])]
  exact b7s hs j (i+1) _ (by omega) (by omega)
def a6t(s:Sub)(L:List Int):List Int:=
 a1N (a0s s.2.2.2.2.2.1) s.2.2.2.2.2.1 (a0n ((a0s s.2.2.2.2.2.1:Nat):Int) 5 (a0n (wrap .u64 s.2.2.2.1) 4 (a0n (wrap .u64 (wrap .i64 (((s.2.2.2.2.2.1.length:Nat):Int)-1))) 5 L)))
theorem c7I{s:Sub}(h:s.2.2.2.2.2.1.length≤40)(L:List Int):(a6t s L).length≤L.length+2000:=by
 unfold a6t;have h1:=a0w (wrap .u64 (wrap .i64 (((s.2.2.2.2.2.1.length:Nat):Int)-1))) 5 L;have h2:=a0w (wrap .u64 s.2.2.2.1) 4 (a0n (wrap .u64 (wrap .i64 (((s.2.2.2.2.2.1.length:Nat):Int)-1))) 5 L);have h3:=a0w ((a0s s.2.2.2.2.2.1:Nat):Int) 5 (a0n (wrap .u64 s.2.2.2.1) 4 (a0n (wrap .u64 (wrap .i64 (((s.2.2.2.2.2.1.length:Nat):Int)-1))) 5 L));have h4:=a5g (a0s s.2.2.2.2.2.1) s.2.2.2.2.2.1 (a0n ((a0s s.2.2.2.2.2.1:Nat):Int) 5 (a0n (wrap .u64 s.2.2.2.1) 4 (a0n (wrap .u64 (wrap .i64 (((s.2.2.2.2.2.1.length:Nat):Int)-1))) 5 L)));have hw:=a3I s.2.2.2.2.2.1
 have:a0s s.2.2.2.2.2.1*s.2.2.2.2.2.1.length≤32*40:=a81 hw h
 omega
theorem c3j{s:Sub}(h:s.2.2.2.2.2.1.length≤40){L:List Int}(hL:L.length<900000000):b0j (wL L,s)=some (wL (a6t s L)):=by
 have h1:=a0w (wrap .u64 (wrap .i64 (((s.2.2.2.2.2.1.length:Nat):Int)-1))) 5 L;have h2:=a0w (wrap .u64 s.2.2.2.1) 4 (a0n (wrap .u64 (wrap .i64 (((s.2.2.2.2.2.1.length:Nat):Int)-1))) 5 L);have h3:=a0w ((a0s s.2.2.2.2.2.1:Nat):Int) 5 (a0n (wrap .u64 s.2.2.2.1) 4 (a0n (wrap .u64 (wrap .i64 (((s.2.2.2.2.2.1.length:Nat):Int)-1))) 5 L));have hw:=a3I s.2.2.2.2.2.1;have ew:wrap .u64 ((a0s s.2.2.2.2.2.1:Nat):Int)=((a0s s.2.2.2.2.2.1:Nat):Int):=a1p (by omega);have p1:a0m (wL L,wrap .u64 (wrap .i64 (((s.2.2.2.2.2.1.length:Nat):Int)-1)),(5:Int))=some (a2U (wrap .u64 (wrap .i64 (((s.2.2.2.2.2.1.length:Nat):Int)-1))) 5,wL (a0n (wrap .u64 (wrap .i64 (((s.2.2.2.2.2.1.length:Nat):Int)-1))) 5 L)):=a4B (n:=5) (by omega) (by omega);have p2:a0m (wL (a0n (wrap .u64 (wrap .i64 (((s.2.2.2.2.2.1.length:Nat):Int)-1))) 5 L),wrap .u64 s.2.2.2.1,(4:Int))=some (a2U (wrap .u64 s.2.2.2.1) 4,wL (a0n (wrap .u64 s.2.2.2.1) 4 (a0n (wrap .u64 (wrap .i64 (((s.2.2.2.2.2.1.length:Nat):Int)-1))) 5 L))):=a4B (n:=4) (by omega) (by omega);have p3:a0m (wL (a0n (wrap .u64 s.2.2.2.1) 4 (a0n (wrap .u64 (wrap .i64 (((s.2.2.2.2.2.1.length:Nat):Int)-1))) 5 L)),((a0s s.2.2.2.2.2.1:Nat):Int),(5:Int))=some (a2U ((a0s s.2.2.2.2.2.1:Nat):Int) 5,wL (a0n ((a0s s.2.2.2.2.2.1:Nat):Int) 5 (a0n (wrap .u64 s.2.2.2.1) 4 (a0n (wrap .u64 (wrap .i64 (((s.2.2.2.2.2.1.length:Nat):Int)-1))) 5 L)))):=a4B (n:=5) (by omega) (by omega);have hlp:=c5i (c:=s.2.2.2.2.2.1) hw (by omega) s.2.2.2.2.2.1.length 0 (a0n ((a0s s.2.2.2.2.2.1:Nat):Int) 5 (a0n (wrap .u64 s.2.2.2.1) 4 (a0n (wrap .u64 (wrap .i64 (((s.2.2.2.2.2.1.length:Nat):Int)-1))) 5 L))) (by omega) (by omega);simp at hlp;unfold b0j;simp only[p1,p2,a7s (show short s.2.2.2.2.2.1 by unfold short;omega),ew,p3,hlp,oB,a6t]
theorem b6H{s:Sub}(h:s.2.2.2.2.2.1.length≤40){L:List Int}(hL:L.length<800000000):a7p ((L,()),s)=some (a6t s L,()):=by
 have h1:=a0w (wrap .u64 (wrap .i64 (((s.2.2.2.2.2.1.length:Nat):Int)-1))) 5 L;have h2:=a0w (wrap .u64 s.2.2.2.1) 4 (a0n (wrap .u64 (wrap .i64 (((s.2.2.2.2.2.1.length:Nat):Int)-1))) 5 L);have h3:=a0w ((a0s s.2.2.2.2.2.1:Nat):Int) 5 (a0n (wrap .u64 s.2.2.2.1) 4 (a0n (wrap .u64 (wrap .i64 (((s.2.2.2.2.2.1.length:Nat):Int)-1))) 5 L));have hw:=a3I s.2.2.2.2.2.1;have ew:wrap .u64 ((a0s s.2.2.2.2.2.1:Nat):Int)=((a0s s.2.2.2.2.2.1:Nat):Int):=a1p (by omega);have p1:a0t ((L,()),wrap .u64 (wrap .i64 (((s.2.2.2.2.2.1.length:Nat):Int)-1)),(5:Int))=some (a2U (wrap .u64 (wrap .i64 (((s.2.2.2.2.2.1.length:Nat):Int)-1))) 5,a0n (wrap .u64 (wrap .i64 (((s.2.2.2.2.2.1.length:Nat):Int)-1))) 5 L,()):=a1Y (n:=5) (by omega) (by omega);have p2:a0t ((a0n (wrap .u64 (wrap .i64 (((s.2.2.2.2.2.1.length:Nat):Int)-1))) 5 L,()),wrap .u64 s.2.2.2.1,(4:Int))=some (a2U (wrap .u64 s.2.2.2.1) 4,a0n (wrap .u64 s.2.2.2.1) 4 (a0n (wrap .u64 (wrap .i64 (((s.2.2.2.2.2.1.length:Nat):Int)-1))) 5 L),()):=a1Y (n:=4) (by omega) (by omega);have p3:a0t ((a0n (wrap .u64 s.2.2.2.1) 4 (a0n (wrap .u64 (wrap .i64 (((s.2.2.2.2.2.1.length:Nat):Int)-1))) 5 L),()),((a0s s.2.2.2.2.2.1:Nat):Int),(5:Int))=some (a2U ((a0s s.2.2.2.2.2.1:Nat):Int) 5,a0n ((a0s s.2.2.2.2.2.1:Nat):Int) 5 (a0n (wrap .u64 s.2.2.2.1) 4 (a0n (wrap .u64 (wrap .i64 (((s.2.2.2.2.2.1.length:Nat):Int)-1))) 5 L)),()):=a1Y (n:=5) (by omega) (by omega);have hlp:=a8w (l:=s.2.2.2.2.2.1) (n:=a0s s.2.2.2.2.2.1) (L:=a0n ((a0s s.2.2.2.2.2.1:Nat):Int) 5 (a0n (wrap .u64 s.2.2.2.1) 4 (a0n (wrap .u64 (wrap .i64 (((s.2.2.2.2.2.1.length:Nat):Int)-1))) 5 L))) (by omega) (by omega) (by omega);unfold a7p;simp only[p1,p2,a9R (show short s.2.2.2.2.2.1 by unfold short;omega),ew,p3,hlp,oB,a6t]
def b1x(s:Sub)(L:List Int):List Int:=
 a0n ((a0s s.2.2.2.2.2.2.2.2.1:Nat):Int) 5 (a0n (wrap .u64 s.2.1) 5 (a0n (wrap .u64 s.1) 3 L))
def a1H(s:Sub)(L:List Int):List Int:=
 if s.1=2 then a0n (wrap .u64 s.2.2.1) 3 L
 else if s.1=3 then a6t s L
 else if s.1=4 then a6t s (a1N 8 s.2.2.2.2.2.2.1 (a0n (wrap .u64 (wrap .i64 (s.2.2.2.2.1-1))) 10 L))
 else if s.1=5 then a4q s.2.2.2.2.2.2.2.1 (a0n (wrap .u64 ((s.2.2.2.2.2.2.2.1.length:Nat):Int)) 2 L)
 else L
theorem c1S{s:Sub}(h:SmallS s)(L:List Int):(a1H s L).length≤L.length+3000:=by
 have hc:=h.coefs;have ht:=h.taps;have hst:=h.stages
 grind[a1H,a0w,c7I,a5g,b8W]
theorem b4Y:∀(zs:List Nat)(ks l L:List Int),ks.all kB=true→(a5I zs ks l L).length≤L.length+10*zs.length+100*l.length
 |z::zs,k::ks,l,L,h=>by
  simp only[a22,bA]at h;have h1:=b6G h.1 (l.take z) L;have h2:=b4Y zs ks (l.drop z) (b0x k (l.take z) L) h.2;rw[a04]at h1;rw[a07]at h2;simp only[a5I,lC];omega
 | [],_,_,_,_=>by simp_all[a5I]
 |_::_,[],_,_,_=>by grind[a5I]
def a5p(s:Sub)(zn:List Nat)(L:List Int):List Int:=
 if s.1=0∨s.1=1 then a1N (a0s s.2.2.2.2.2.2.2.2.1) s.2.2.2.2.2.2.2.2.1 (a1H s (b1x s L))
 else a3J s.2.2.2.2.2.2.2.2.2.1 zn s.2.2.2.2.2.2.2.2.2.2.1 (a1N (a0s s.2.2.2.2.2.2.2.2.1) s.2.2.2.2.2.2.2.2.1 (a1H s (b1x s L)))
theorem c5j{s:Sub}(h:SmallS s){n:Int}{L:List Int}(hL:L.length<100000000):
  ∃(e:Int)(L':List Int),b7c (wL L,s,n)=some (e,wL L')∧(e=0∨L'=L)∧L'.length≤L.length+700000∧
   ((a3y s n).isSome=true→e=0∧∃zn,L'=a5p s zn L∧(s.1≠0∧s.1≠1→PartsOk s.2.2.2.2.2.2.2.2.2.1 n ((s.2.2.2.2.2.2.2.2.1.length:Nat):Int) s.2.2.2.2.2.2.2.2.2.2.1 zn))∧((a3y s n).isSome=false→e=1∧L'=L):=by
 unfold b7c;simp only[d2E h,oB];cases hs:(a3y s n).isSome with
 |false=>exact⟨1,L,rfl,.inr rfl,by omega,fun h=>(by grind),fun _=>⟨rfl,rfl⟩⟩
 |true=>
  have hp:a1F s n:=by
   grind[a3y]
  obtain⟨h1,h2,hf,-,-,-,-,hlen,hww,hrw,-,hparts⟩:=hp;have hkind:=b4F hf;have hwd:=a3I s.2.2.2.2.2.2.2.2.1;have hsw:short s.2.2.2.2.2.2.2.2.1:=by have:=h.warm;unfold short;omega
  have hwarm:=h.warm;have hrest:=h.rest;have hst:=h.stages;have ht:=h.taps;have q1:=a0w (wrap .u64 s.1) 3 L;have q2:=a0w (wrap .u64 s.2.1) 5 (a0n (wrap .u64 s.1) 3 L);have q3:=a0w ((a0s s.2.2.2.2.2.2.2.2.1:Nat):Int) 5 (a0n (wrap .u64 s.2.1) 5 (a0n (wrap .u64 s.1) 3 L));have ew:wrap .u64 ((a0s s.2.2.2.2.2.2.2.2.1:Nat):Int)=((a0s s.2.2.2.2.2.2.2.2.1:Nat):Int):=a1p (by omega);have p1:a0m (wL L,wrap .u64 s.1,(3:Int))=some (a2U (wrap .u64 s.1) 3,wL (a0n (wrap .u64 s.1) 3 L)):=a4B (n:=3) (by omega) (by omega);have p2:a0m (wL (a0n (wrap .u64 s.1) 3 L),wrap .u64 s.2.1,(5:Int))=some (a2U (wrap .u64 s.2.1) 5,wL (a0n (wrap .u64 s.2.1) 5 (a0n (wrap .u64 s.1) 3 L))):=a4B (n:=5) (by omega) (by omega);have p3:a0m (wL (a0n (wrap .u64 s.2.1) 5 (a0n (wrap .u64 s.1) 3 L)),((a0s s.2.2.2.2.2.2.2.2.1:Nat):Int),(5:Int))=some (a2U ((a0s s.2.2.2.2.2.2.2.2.1:Nat):Int) 5,wL (b1x s L)):=a4B (n:=5) (by omega) (by omega);have q4:(b1x s L).length≤L.length+13:=by unfold b1x;omega
  generalize hM:b1x s L=M at p3 q4;have q5:=c1S h M;have q6:=a5g (a0s s.2.2.2.2.2.2.2.2.1) s.2.2.2.2.2.2.2.2.1 (a1H s M);have q7:a0s s.2.2.2.2.2.2.2.2.1*s.2.2.2.2.2.2.2.2.1.length≤32*5000:=a81 hwd hwarm;have hwl:=c7h (l:=s.2.2.2.2.2.2.2.2.1) (n:=n) (s:=s) hwd (by omega) s.2.2.2.2.2.2.2.2.1.length 0 (a1H s M) (by omega) (by omega);simp at hwl

  have hsl:=c3i (st:=s.2.2.2.2.2.2.2.1) (n:=n) (wd:=((a0s s.2.2.2.2.2.2.2.2.1:Nat):Int)) (s:=s) (by omega) s.2.2.2.2.2.2.2.1.length 0 (a0n (wrap .u64 ((s.2.2.2.2.2.2.2.1.length:Nat):Int)) 2 M) (by omega) (by grind[a0w]);have q8:=a0w (wrap .u64 (wrap .i64 (s.2.2.2.2.1-1))) 10 M;have q9:=a5g 8 s.2.2.2.2.2.2.1 (a0n (wrap .u64 (wrap .i64 (s.2.2.2.2.1-1))) 10 M);have htl:=c7g (t:=s.2.2.2.2.2.2.1) (n:=n) (wd:=((a0s s.2.2.2.2.2.2.2.2.1:Nat):Int)) (s:=s) ht 3 0 (a0n (wrap .u64 (wrap .i64 (s.2.2.2.2.1-1))) 10 M) (by rfl) (by omega);simp at hsl htl;have k2:a0m (wL M,wrap .u64 s.2.2.1,(3:Int))=some (a2U (wrap .u64 s.2.2.1) 3,wL (a0n (wrap .u64 s.2.2.1) 3 M)):=a4B (n:=3) (by omega) (by omega);have k4:a0m (wL M,wrap .u64 (wrap .i64 (s.2.2.2.2.1-1)),(10:Int))=some (a2U (wrap .u64 (wrap .i64 (s.2.2.2.2.1-1))) 10,wL (a0n (wrap .u64 (wrap .i64 (s.2.2.2.2.1-1))) 10 M)):=a4B (n:=10) (by omega) (by omega);have k5:a0m (wL M,wrap .u64 ((s.2.2.2.2.2.2.2.1.length:Nat):Int),(2:Int))=some (a2U (wrap .u64 ((s.2.2.2.2.2.2.2.1.length:Nat):Int)) 2,wL (a0n (wrap .u64 ((s.2.2.2.2.2.2.2.1.length:Nat):Int)) 2 M)):=a4B (n:=2) (by omega) (by omega);have c3:=c3j (s:=s) h.coefs (L:=M) (by omega);have c4:=c3j (s:=s) h.coefs (L:=a1N 8 s.2.2.2.2.2.2.1 (a0n (wrap .u64 (wrap .i64 (s.2.2.2.2.1-1))) 10 M)) (by omega);simp only[bT,cF,a7s hsw,oB,p1,p2,ew,p3];generalize hPM:a1N (a0s s.2.2.2.2.2.2.2.2.1) s.2.2.2.2.2.2.2.2.1 (a1H s M)=PM at hwl q6

  have tail:∀(hk01:s.1≠0∧s.1≠1),∃zn,PartsOk s.2.2.2.2.2.2.2.2.2.1 n ((s.2.2.2.2.2.2.2.2.1.length:Nat):Int) s.2.2.2.2.2.2.2.2.2.2.1 zn:=fun hk01=>by
   simp_all[PartsOk.of]
  rcases hkind with k|k|k|k|k|k;have kl:a1H s M=M:=by unfold a1H;grind
  rw[kl]at hwl;refine⟨0,PM,?_,.inl rfl,by omega,fun _=>⟨rfl,[],by simp_all[a5p],fun h=>absurd k (by omega)⟩,fun h=>by grind⟩;simp only[k,show((0:Int)==2)=false from rfl,show((0:Int)==4)=false from rfl,show((0:Int)==3)=false from rfl,show((0:Int)==5)=false from rfl,cF,oB,hwl,a9Q]
  simp
  have kl:a1H s M=M:=by unfold a1H;grind
  rw[kl]at hwl;refine⟨0,PM,?_,.inl rfl,by omega,fun _=>⟨rfl,[],by simp_all[a5p],fun h=>absurd k (by omega)⟩,fun h=>by grind⟩;simp only[k,show((1:Int)==2)=false from rfl,show((1:Int)==4)=false from rfl,show((1:Int)==3)=false from rfl,show((1:Int)==5)=false from rfl,cF,oB,hwl,a9Q]
  simp
  all_goals
   obtain⟨zn,hz⟩:=tail (by omega);have t1:=c9p (L:=PM) hz (by omega);have t3:(a3J s.2.2.2.2.2.2.2.2.2.1 zn s.2.2.2.2.2.2.2.2.2.2.1 PM).length≤L.length+700000:=by
    have z1:=a0w (wrap .u64 s.2.2.2.2.2.2.2.2.2.1.1) 4 PM;have z2:=b4Y zn s.2.2.2.2.2.2.2.2.2.1.2.1 s.2.2.2.2.2.2.2.2.2.2.1 (a0n (wrap .u64 s.2.2.2.2.2.2.2.2.2.1.1) 4 PM) hz.all;have z3:=hz.len
    grind[a3J]
   refine⟨0,a3J s.2.2.2.2.2.2.2.2.2.1 zn s.2.2.2.2.2.2.2.2.2.2.1 PM,?_,.inl rfl,t3,fun _=>⟨rfl,zn,by simp_all[a5p],fun _=>hz⟩,fun h=>by grind⟩
  have kl:a1H s M=a0n (wrap .u64 s.2.2.1) 3 M:=by unfold a1H;grind
  rw[kl]at hwl;simp only[k,show((2:Int)==2)=true from rfl,cT,k2,oB,hwl,a9Q]
  grind
  have kl:a1H s M=a6t s M:=by unfold a1H;grind
  rw[kl]at hwl;simp only[k,show((3:Int)==2)=false from rfl,show((3:Int)==4)=false from rfl,show((3:Int)==3)=true from rfl,cT,cF,c3,oB,hwl,a9Q]
  grind
  have kl:a1H s M=a6t s (a1N 8 s.2.2.2.2.2.2.1 (a0n (wrap .u64 (wrap .i64 (s.2.2.2.2.1-1))) 10 M)):=by unfold a1H;grind
  rw[kl]at hwl;simp only[k,show((4:Int)==2)=false from rfl,show((4:Int)==4)=true from rfl,cT,cF,k4,htl,c4,oB,hwl,a9Q]
  grind
  have kl:a1H s M=a4q s.2.2.2.2.2.2.2.1 (a0n (wrap .u64 ((s.2.2.2.2.2.2.2.1.length:Nat):Int)) 2 M):=by unfold a1H;grind
  rw[kl]at hwl;simp only[k,show((5:Int)==2)=false from rfl,show((5:Int)==4)=false from rfl,show((5:Int)==3)=false from rfl,show((5:Int)==5)=true from rfl,cT,cF,k5,hsl,oB,hwl,a9Q]
  grind
theorem d2G{s:Sub}(h:SmallS s){n:Int}{L:List Int}(hL:L.length<100000000):
  ∃(e:Int)(L':List Int),b2S ((L,()),s,n)=some (e,L',())∧(e=0∨L'=L)∧L'.length≤L.length+700000∧
   ((a3y s n).isSome=true→e=0∧∃zn,L'=a5p s zn L∧(s.1≠0∧s.1≠1→PartsOk s.2.2.2.2.2.2.2.2.2.1 n ((s.2.2.2.2.2.2.2.2.1.length:Nat):Int) s.2.2.2.2.2.2.2.2.2.2.1 zn))∧((a3y s n).isSome=false→e=1∧L'=L):=by
 unfold b2S;simp only[c7F h,oB];cases hs:(a3y s n).isSome with
 |false=>grind
 |true=>
  have hp:a1F s n:=by
   grind[a3y]
  obtain⟨h1,h2,hf,-,-,-,-,hlen,hww,hrw,-,hparts⟩:=hp;have hkind:=b4F hf;have hwd:=a3I s.2.2.2.2.2.2.2.2.1;have hsw:short s.2.2.2.2.2.2.2.2.1:=by have:=h.warm;unfold short;omega
  have hwarm:=h.warm;have hrest:=h.rest;have hst:=h.stages;have ht:=h.taps;have q1:=a0w (wrap .u64 s.1) 3 L;have q2:=a0w (wrap .u64 s.2.1) 5 (a0n (wrap .u64 s.1) 3 L);have q3:=a0w ((a0s s.2.2.2.2.2.2.2.2.1:Nat):Int) 5 (a0n (wrap .u64 s.2.1) 5 (a0n (wrap .u64 s.1) 3 L));have ew:wrap .u64 ((a0s s.2.2.2.2.2.2.2.2.1:Nat):Int)=((a0s s.2.2.2.2.2.2.2.2.1:Nat):Int):=a1p (by omega);have r1:a0t ((L,()),wrap .u64 s.1,(3:Int))=some (a2U (wrap .u64 s.1) 3,a0n (wrap .u64 s.1) 3 L,()):=a1Y (n:=3) (by omega) (by omega);have r2:a0t ((a0n (wrap .u64 s.1) 3 L,()),wrap .u64 s.2.1,(5:Int))=some (a2U (wrap .u64 s.2.1) 5,a0n (wrap .u64 s.2.1) 5 (a0n (wrap .u64 s.1) 3 L),()):=a1Y (n:=5) (by omega) (by omega);have r3:a0t ((a0n (wrap .u64 s.2.1) 5 (a0n (wrap .u64 s.1) 3 L),()),((a0s s.2.2.2.2.2.2.2.2.1:Nat):Int),(5:Int))=some (a2U ((a0s s.2.2.2.2.2.2.2.2.1:Nat):Int) 5,b1x s L,()):=a1Y (n:=5) (by omega) (by omega);have q4:(b1x s L).length≤L.length+13:=by unfold b1x;omega
  generalize hM:b1x s L=M at r3 q4;have q5:=c1S h M;have q6:=a5g (a0s s.2.2.2.2.2.2.2.2.1) s.2.2.2.2.2.2.2.2.1 (a1H s M);have q7:a0s s.2.2.2.2.2.2.2.2.1*s.2.2.2.2.2.2.2.2.1.length≤32*5000:=a81 hwd hwarm;have hrl:=a8w (l:=s.2.2.2.2.2.2.2.2.1) (n:=a0s s.2.2.2.2.2.2.2.2.1) (L:=a1H s M) (by omega) (by omega) (by omega)

  have hrsl:=b7s (n:=n) (wd:=((a0s s.2.2.2.2.2.2.2.2.1:Nat):Int)) (s:=s) (by omega) s.2.2.2.2.2.2.2.1.length 0 (a0n (wrap .u64 ((s.2.2.2.2.2.2.2.1.length:Nat):Int)) 2 M) (by omega) (by grind[a0w]);have q8:=a0w (wrap .u64 (wrap .i64 (s.2.2.2.2.1-1))) 10 M;have q9:=a5g 8 s.2.2.2.2.2.2.1 (a0n (wrap .u64 (wrap .i64 (s.2.2.2.2.1-1))) 10 M);have hrtl:a3E ((a0n (wrap .u64 (wrap .i64 (s.2.2.2.2.1-1))) 10 M,()),s.2.2.2.2.2.2.1,(8:Int))=some (a1N 8 s.2.2.2.2.2.2.1 (a0n (wrap .u64 (wrap .i64 (s.2.2.2.2.1-1))) 10 M),()):=a8w (n:=8) (by omega) (by omega) (by omega);have etk:a67 3 s.2.2.2.2.2.2.1=s.2.2.2.2.2.2.1:=a28 (by omega);simp at hrsl;have k2r:a0t ((M,()),wrap .u64 s.2.2.1,(3:Int))=some (a2U (wrap .u64 s.2.2.1) 3,a0n (wrap .u64 s.2.2.1) 3 M,()):=a1Y (n:=3) (by omega) (by omega);have k4r:a0t ((M,()),wrap .u64 (wrap .i64 (s.2.2.2.2.1-1)),(10:Int))=some (a2U (wrap .u64 (wrap .i64 (s.2.2.2.2.1-1))) 10,a0n (wrap .u64 (wrap .i64 (s.2.2.2.2.1-1))) 10 M,()):=a1Y (n:=10) (by omega) (by omega);have k5r:a0t ((M,()),wrap .u64 ((s.2.2.2.2.2.2.2.1.length:Nat):Int),(2:Int))=some (a2U (wrap .u64 ((s.2.2.2.2.2.2.2.1.length:Nat):Int)) 2,a0n (wrap .u64 ((s.2.2.2.2.2.2.2.1.length:Nat):Int)) 2 M,()):=a1Y (n:=2) (by omega) (by omega);have c3r:=b6H (s:=s) h.coefs (L:=M) (by omega);have c4r:=b6H (s:=s) h.coefs (L:=a1N 8 s.2.2.2.2.2.2.1 (a0n (wrap .u64 (wrap .i64 (s.2.2.2.2.1-1))) 10 M)) (by omega);simp only[bT,cF,a9R hsw,oB,r1,r2,ew,r3];generalize hPM:a1N (a0s s.2.2.2.2.2.2.2.2.1) s.2.2.2.2.2.2.2.2.1 (a1H s M)=PM at hrl q6

  have tail:∀(hk01:s.1≠0∧s.1≠1),∃zn,PartsOk s.2.2.2.2.2.2.2.2.2.1 n ((s.2.2.2.2.2.2.2.2.1.length:Nat):Int) s.2.2.2.2.2.2.2.2.2.2.1 zn:=fun hk01=>by
   simp_all[PartsOk.of]
  rcases hkind with k|k|k|k|k|k;have kl:a1H s M=M:=by unfold a1H;grind
  rw[kl]at hrl;refine⟨0,PM,?_,.inl rfl,by omega,fun _=>⟨rfl,[],by simp_all[a5p],fun h=>absurd k (by omega)⟩,fun h=>by grind⟩;simp only[k,show((0:Int)==2)=false from rfl,show((0:Int)==4)=false from rfl,show((0:Int)==3)=false from rfl,show((0:Int)==5)=false from rfl,cF,oB,hrl,a5O]
  simp
  have kl:a1H s M=M:=by unfold a1H;grind
  rw[kl]at hrl;refine⟨0,PM,?_,.inl rfl,by omega,fun _=>⟨rfl,[],by simp_all[a5p],fun h=>absurd k (by omega)⟩,fun h=>by grind⟩;simp only[k,show((1:Int)==2)=false from rfl,show((1:Int)==4)=false from rfl,show((1:Int)==3)=false from rfl,show((1:Int)==5)=false from rfl,cF,oB,hrl,a5O]
  simp
  all_goals
   obtain⟨zn,hz⟩:=tail (by omega);have t2:=c5h (L:=PM) hz (by omega);have t3:(a3J s.2.2.2.2.2.2.2.2.2.1 zn s.2.2.2.2.2.2.2.2.2.2.1 PM).length≤L.length+700000:=by
    have z1:=a0w (wrap .u64 s.2.2.2.2.2.2.2.2.2.1.1) 4 PM;have z2:=b4Y zn s.2.2.2.2.2.2.2.2.2.1.2.1 s.2.2.2.2.2.2.2.2.2.2.1 (a0n (wrap .u64 s.2.2.2.2.2.2.2.2.2.1.1) 4 PM) hz.all;have z3:=hz.len
    grind[a3J]
   refine⟨0,a3J s.2.2.2.2.2.2.2.2.2.1 zn s.2.2.2.2.2.2.2.2.2.2.1 PM,?_,.inl rfl,t3,fun _=>⟨rfl,zn,by simp_all[a5p],fun _=>hz⟩,fun h=>by grind⟩
  have kl:a1H s M=a0n (wrap .u64 s.2.2.1) 3 M:=by unfold a1H;grind
  rw[kl]at hrl;simp only[k,show((2:Int)==2)=true from rfl,cT,k2r,oB,hrl,a5O]
  grind
  have kl:a1H s M=a6t s M:=by unfold a1H;grind
  rw[kl]at hrl;simp only[k,show((3:Int)==2)=false from rfl,show((3:Int)==3)=true from rfl,cT,cF,c3r,oB,hrl,a5O]
  grind
  have kl:a1H s M=a6t s (a1N 8 s.2.2.2.2.2.2.1 (a0n (wrap .u64 (wrap .i64 (s.2.2.2.2.1-1))) 10 M)):=by unfold a1H;grind
  rw[kl]at hrl;simp only[k,show((4:Int)==2)=false from rfl,show((4:Int)==3)=false from rfl,show((4:Int)==4)=true from rfl,cT,cF,k4r,etk,hrtl,c4r,oB,hrl,a5O]
  grind
  have kl:a1H s M=a4q s.2.2.2.2.2.2.2.1 (a0n (wrap .u64 ((s.2.2.2.2.2.2.2.1.length:Nat):Int)) 2 M):=by unfold a1H;grind
  rw[kl]at hrl;simp only[k,show((5:Int)==2)=false from rfl,show((5:Int)==4)=false from rfl,show((5:Int)==3)=false from rfl,show((5:Int)==5)=true from rfl,cT,cF,k5r,hrsl,oB,hrl,a5O]
  grind
theorem b8k(zn:List Nat):(a1w zn).map a43=zn:=by
 unfold a1w;rw[List.map_map]
 have:a43∘(fun(a:Nat)=>(a:Int))=id:=by rfl
 simp_all
end Go.Ab
namespace Go.Ab
set_option maxRecDepth 100000 in
theorem d2H:b8b ()=some true:=by kernel_rfl
end Go.Ab
namespace Go.Ab
def a4v(s:Sub)(n:Int):Int:=
 if(a3y s n).isSome=true then(((a5p s ((a0Z s.2.2.2.2.2.2.2.2.2.1.1 n ((s.2.2.2.2.2.2.2.2.1.length:Nat):Int)).map a43) []).length:Nat):Int)else 0
theorem c6q{s:Sub}{n:Int}{zn:List Nat}(hz:s.1≠0∧s.1≠1→PartsOk s.2.2.2.2.2.2.2.2.2.1 n ((s.2.2.2.2.2.2.2.2.1.length:Nat):Int) s.2.2.2.2.2.2.2.2.2.2.1 zn)(L:List Int):
  a5p s zn L=a5p s ((a0Z s.2.2.2.2.2.2.2.2.2.1.1 n ((s.2.2.2.2.2.2.2.2.1.length:Nat):Int)).map a43) L:=by
 by_cases hk:s.1=0∨s.1=1
 unfold a5p;rw[if_pos hk,if_pos hk];rw[(hz (not_or.1 hk)).sizes,b8k]
theorem d6X{s:Sub}(h:SmallS s)(n:Int):b2H (s,n)=some (a4v s n):=by
 obtain⟨e,L',h1,-,-,h4,h5⟩:=c5j h (n:=n) (L:=[]) (by simp);have hw:wL []=(([]:List Int),(0:Int),()):=rfl;rw[hw]at h1;obtain⟨w1,-⟩:=c9j L';unfold b2H a4v;simp only[h1,oB,b0G];cases hs:(a3y s n).isSome with
 |false=>
  obtain⟨rfl,rfl⟩:=h5 hs;rfl
 |true=>
  obtain⟨rfl,zn,rfl,hz⟩:=h4 hs;rw[if_pos rfl,←c6q hz];simp only[w1,show((0:Int) != 0)=false from rfl,cF]
theorem d0s{s:Sub}(h:SmallS s)(n:Int):b1v (s,n)=some (a4v s n):=by
 obtain⟨e,L',h1,-,-,h4,h5⟩:=d2G h (n:=n) (L:=[]) (by simp);unfold b1v a4v;simp only[h1,oB,b2T];cases hs:(a3y s n).isSome with
 |false=>
  obtain⟨rfl,rfl⟩:=h5 hs;rfl
 |true=>
  obtain⟨rfl,zn,rfl,hz⟩:=h4 hs;rw[if_pos rfl,←c6q hz]
end Go.Ab
namespace Go.Ab
end Go.Ab
namespace Go.Ab
open IntKind(wrap)
def dif:List Int→List Int
 |a::b::r=>W (b-a)::dif (b::r)
 |_=>[]
theorem a4j:∀l:List Int,(dif l).length=l.length-1
 | []=>rfl
 | [_]=>rfl
 |a::b::r=>by simp[dif,a4j (b::r)]
theorem c2o:∀(l:List Int)(i:Nat)(x y:Int),l[i]?=some x→l[i+1]?=some y→(dif l)[i]?=some (W (y-x))
 |a::b::r,0,x,y,h1,h2=>by simp at h1 h2;subst h1;subst h2;rfl
 |a::b::r,i+1,x,y,h1,h2=>by
  simp only[dif,List.getElem?_cons_succ]at h1 h2⊢;exact c2o (b::r) i x y h1 h2
 | [_],0,x,y,h1,h2=>by simp at h2
 | [_],i+1,x,y,h1,h2=>by simp at h1
 | [],i,x,y,h1,h2=>by simp at h1
def a1G:Nat→List Int→List Int
 |0,l=>l
 |o+1,l=>dif (a1G o l)
theorem a5U(l:List Int):∀o,(a1G o l).length=l.length-o
 |0=>rfl
 |o+1=>by simp only[a1G,a4j,a5U l o];omega
theorem b3e{l:List Int}(h:short l)(o:Nat):short (a1G o l):=by
 have h:l.length<1000000:=h;show(a1G o l).length<1000000;rw[a5U];omega
def b3f(l:List Int)(i:Nat):List Int:=(dif l).take i++l.drop i
theorem b8l{l:List Int}{i:Nat}(h:i≤l.length-1):(b3f l i).length=l.length:=by
 simp only[b3f,lN,a04,a07,a4j];omega
theorem c7i{l:List Int}{i j:Nat}(h:i≤l.length-1)(hj:i≤j):(b3f l i).getD j 0=l.getD j 0:=by
 have e:((dif l).take i).length=i:=by rw[a04,a4j];omega
 rw[lD,lD,b3f,a64 (by omega),e,a88];congr 2;omega
theorem d5e{l:List Int}{i:Nat}(h:i<l.length-1):(b3f l i).set i (W (l.getD (i+1) 0-l.getD i 0))=b3f l (i+1):=by
 have e:((dif l).take i).length=i:=by rw[a04,a4j];omega
 have h1:l[i]?=some l[i]:=lG (by omega);have h2:l[i+1]?=some l[i+1]:=lG (by omega);have hd:=c2o l i _ _ h1 h2;have hlt:i<(dif l).length:=by rw[a4j];omega
 simp only[b3f];rw[List.set_append,if_neg (by omega),e,a92,a01 (show i<l.length by omega),a61,a41 hlt,aA];have e2:(dif l)[i]=W (l.getD (i+1) 0-l.getD i 0):=by
  rw[lG hlt]at hd;rw[Option.some.inj hd,lD,lD,h1,h2];rfl
 rw[e2];rfl
theorem d2I{l:List Int}{o k:Int}(hs:short l)(h:1≤l.length):a0e a6U ((0:Int),o,k,l,())=some (o,k,b3f l (l.length-1),()):=by
 have hs:l.length<1000000:=hs;have h0:b3f l 0=l:=by simp[b3f]
 have:=a0I (f:=a6U) (fun i:Nat=>((i:Int),o,k,b3f l i,())) (l.length-1) (b:=(o,k,b3f l (l.length-1),()))
  (fun i hi=>by
   have w1:wrap .i64 ((i:Int)+1)=((i+1:Nat):Int):=a0c (by omega);have hl:=b8l (l:=l) (i:=i) (by omega);have d0:decide (((i+1:Nat):Int)<((l.length:Nat):Int))=true:=by simp;omega
   have d1:decide ((0:Int)≤((i+1:Nat):Int))=true:=by simp;omega
   have d2:decide ((0:Int)≤(i:Int))=true:=by simp
   have d3:decide ((i:Int)<((l.length:Nat):Int))=true:=by simp;omega
   have n1:a43 ((i+1:Nat):Int)=i+1:=by omega
   have n2:a43 (i:Int)=i:=by omega
   have st:=d5e (l:=l) (i:=i) (by omega);have g1:=c7i (l:=l) (i:=i) (j:=i+1) (by omega) (by omega);have g2:=c7i (l:=l) (i:=i) (j:=i) (by omega) (by omega);simp only[W]at st;simp only[a6U,w1,hl,d0,d1,d2,d3,n1,n2,g1,g2,st,a02,cT])
  (by
   have hl:=b8l (l:=l) (i:=l.length-1) (by omega);have w1:wrap .i64 (((l.length-1:Nat):Int)+1)=((l.length:Nat):Int):=by rw[a0k (by omega)];omega
   have d0:decide (((l.length:Nat):Int)<((l.length:Nat):Int))=false:=by simp
   simp only[a6U,w1,hl,d0,cF])
 simp only[nZ,a32,h0]at this;exact this
theorem d4b{l:List Int}:(b3f l (l.length-1)).take (l.length-1)=dif l:=by
 have e:(dif l).take (l.length-1)=dif l:=a28 (by rw[a4j];omega);rw[b3f,e,List.take_append_of_le_length (by rw[a4j];omega),e]
theorem b4Z{l:List Int}{o:Nat}(ho:o≤4)(hn:o≤l.length)(hs:short l)(hw:l.all a0b=true):
  a3W (l,(o:Int))=some (bif (a1G o l).all a0b then(a1G o l,0)else([],6)):=by
 have hs':l.length<1000000:=hs;have loop:=a0I (f:=a9j) (fun k:Nat=>((o:Int),(k:Int),a1G k l,())) o (b:=(a1G o l,()))
  (fun k hk=>by
   have hk1:1≤(a1G k l).length:=by rw[a5U];omega
   have hks:(a1G k l).length<1000000:=b3e hs k;have d0:decide ((k:Int)<(o:Int))=true:=by simp;omega
   have hm:=b8l (l:=a1G k l) (i:=(a1G k l).length-1) (by omega);have w1:wrap .i64 ((((a1G k l).length:Nat):Int)-1)=(((a1G k l).length-1:Nat):Int):=by rw[a0k (by omega)];omega
   have w2:wrap .i64 ((k:Int)+1)=((k+1:Nat):Int):=a0c (by omega);have d1:decide ((0:Int)≤(((a1G k l).length-1:Nat):Int))=true:=by simp
   have d2:decide ((((a1G k l).length-1:Nat):Int)≤(((a1G k l).length:Nat):Int))=true:=by simp
   have d3:decide ((a1G k l).length-1≤(a1G k l).length)=true:=by simp
   have n1:a43 (((a1G k l).length-1:Nat):Int)=(a1G k l).length-1:=by omega
   simp only[a9j,d0,cT,d2I (b3e hs k) hk1,oB,hm,w1,w2,d1,d2,d3,n1,a02,d4b,a1G])
  (by
   have d0:decide ((o:Int)<(o:Int))=false:=by simp
   simp only[a9j,d0,cF])
 have c1:decide ((o:Int)<0)=false:=by simp
 have c2:decide ((o:Int) > 4)=false:=by simp;omega
 have c3:decide (((l.length:Nat):Int)<(o:Int))=false:=by simp;omega
 have c4:lim l.length=true:=b0X (by omega);simp only[nZ,a32]at loop;have e0:a1G 0 l=l:=rfl;rw[e0]at loop;unfold a3W;simp only[c1,c2,c3,c4,cF,cT,oB,a8Q hs,hw,bT,loop,a8Q (b3e hs o)];cases (a1G o l).all a0b<;>rfl
def ex:Nat→(Nat→Int)→Nat→Int
 |0,f,i=>f i
 |o+1,f,i=>ex o f (i+1)-ex o f i
theorem c3P{l:List Int}(hw:l.all a0b=true):∀(o i:Nat),i+o<l.length→(a1G o l)[i]?=some (W (ex o (fun j=>l.getD j 0) i))
 |0,i,h=>by
  have h:i<l.length:=by omega
  have e:l.getD i 0=l[i]:=by simp[lD,h]
  simp only[a1G,ex,e];rw[lG h,b7o (lA.1 hw _ (a06 h))]
 |o+1,i,h=>by
  have h1:=c3P hw o i (by omega);have h2:=c3P hw o (i+1) (by omega);simp only[a1G,ex];rw[c2o _ i _ _ h1 h2];simp only[W,a8f,Int.sub_bmod_bmod,Int.bmod_sub_bmod]
theorem d4c{l:List Int}(hw:l.all a0b=true){o j:Nat}(ho:o≤4)(h:o+j<l.length):W (W (ex o (fun j=>l.getD j 0) j)+a3v o (l.take (o+j)))=l.getD (o+j) 0:=by
 have hwide:a0b (l.getD (o+j) 0)=true:=by
  have e:l.getD (o+j) 0=l[o+j]:=by simp[lD,h]
  rw[e];exact lA.1 hw _ (a06 h)
 have at_eq:∀i:Nat,1≤i→i≤o→atB (l.take (o+j)) i=l.getD (o+j-i) 0:=fun i h1 h2=>by
  simp only[atB,a04,a73 (a71 h),lD,List.getElem?_take];rw[if_pos (by omega)]
 have key:ex o (fun j=>l.getD j 0) j+a3v o (l.take (o+j))=l.getD (o+j) 0:=by
  have h5:o=0∨o=1∨o=2∨o=3∨o=4:=by omega
  rcases h5 with rfl|rfl|rfl|rfl|rfl;simp[ex,a3v];simp only[ex,a3v,at_eq 1 (by omega) (by omega)];have e1:1+j-1=j:=by omega
  have e2:j+1=1+j:=by omega
  rw[e1,e2];omega;simp only[ex,a3v,at_eq 1 (by omega) (by omega),at_eq 2 (by omega) (by omega)];have e1:2+j-1=j+1:=by omega
  have e2:2+j-2=j:=by omega
  have e3:j+1+1=2+j:=by omega
  rw[e1,e2,e3];omega;simp only[ex,a3v,at_eq 1 (by omega) (by omega),at_eq 2 (by omega) (by omega),at_eq 3 (by omega) (by omega)];have e1:3+j-1=j+1+1:=by omega
  have e2:3+j-2=j+1:=by omega
  have e3:3+j-3=j:=by omega
  have e4:j+1+1+1=3+j:=by omega
  rw[e1,e2,e3,e4];omega;simp only[ex,a3v,at_eq 1 (by omega) (by omega),at_eq 2 (by omega) (by omega),at_eq 3 (by omega) (by omega),at_eq 4 (by omega) (by omega)];have e1:4+j-1=j+1+1+1:=by omega
  have e2:4+j-2=j+1+1:=by omega
  have e3:4+j-3=j+1:=by omega
  have e4:4+j-4=j:=by omega
  have e5:j+1+1+1+1=4+j:=by omega
  rw[e1,e2,e3,e4,e5];omega
 have:W (W (ex o (fun j=>l.getD j 0) j)+a3v o (l.take (o+j)))=W (ex o (fun j=>l.getD j 0) j+a3v o (l.take (o+j))):=by
  simp only[W,a8f,a97]
 rw[this,key,b7o hwide]
theorem c9q{l:List Int}(hw:l.all a0b=true){o:Nat}(ho:o≤4):∀(k j:Nat),o+j+k=l.length→a4i (a3v o) ((a1G o l).drop j) (l.take (o+j))=some l
 |0,j,h=>by
  rw[List.drop_of_length_le (by rw[a5U];omega),a28 (by omega)];rfl
 |k+1,j,h=>by
  have hlt:j<(a1G o l).length:=by rw[a5U];omega
  have hg:=c3P hw o j (by omega);rw[lG hlt]at hg;have e:=Option.some.inj hg;have e2:l.getD (o+j) 0=l[o+j]:=by simp[lD,show o+j<l.length by omega]
  have st:=d4c hw ho (show o+j<l.length by omega);rw[e2]at st;rw[a01 hlt,e];simp only[a4i,st,lA.1 hw _ (a06 (show o+j<l.length by omega)),cT];have et:l.take (o+j)++[l[o+j]]=l.take (o+(j+1)):=by
   rw[show o+(j+1)=(o+j)+1 by omega]
   simp
  rw[et];exact c9q hw ho k (j+1) (by omega)
end Go.Ab
namespace Go.Ab
open IntKind(wrap)
theorem a9b{σ β:Type}{f:σ→Option (σ ⊕ β)}(I:Nat→σ→Prop)(Q:β→Prop)(n:Nat)(hstep:∀i s,i<n→I i s→∃s',f s=some (.inl s')∧I (i+1) s')
  (hexit:∀s,I n s→∃b,f s=some (.inr b)∧Q b):∀(k i:Nat)(s:σ),i+k=n→I i s→∃b,a0e f s=some b∧Q b
 |0,i,s,h,hi=>by
  obtain rfl:i=n:=by omega
  obtain⟨b,h1,h2⟩:=hexit s hi;exact⟨b,a0j h1,h2⟩
 |k+1,i,s,h,hi=>by
  obtain⟨s',h1,h2⟩:=hstep i s (by omega) hi;rw[a0p h1];exact a9b I Q n hstep hexit k (i+1) s' (by omega) h2
theorem c3k(y:Int):0≤wrap .u64 y∧wrap .u64 y<18446744073709551616:=by
 simp only[wrap,IntKind.bits,IntKind.signed]
 simp
 omega
def b4l(n:Int)(x:Int):Bool:=a0b x&&!(a87 x (a0F .i64 1 n) != 0)
def b9N{β:Type}(n:Int)(bad:β)(out:List Int)(x:Int):List Int ⊕ β:=bif b4l n x then .inl (out++[a0l .i64 x n])else .inr bad
def b3g(n:Int)(l:List Int):Option (List Int):=bif l.all (b4l n)then some (l.map fun x=>a0l .i64 x n)else none
theorem c0w{β:Type}(n:Int)(bad:β)(fin:List Int→β):∀(l out:List Int),b2U fin (a3p (b9N n bad) l out)=match b3g n l with|some r=>fin (out++r)|none=>bad
 | [],out=>by simp[a3p,b2U,b3g]
 |x::l,out=>by
  simp only[a3p,b9N,b3g,a22];cases hx:b4l n x with
  |true=>
   simp only[cT,a25];rw[c0w n bad fin l _];simp only[b3g];cases l.all (b4l n)with
   |true=>simp
   |false=>rfl
  |false=>rfl
theorem d2J{o:Nat}(h:o≤30):a0F .i64 1 (o:Int)=((2^o:Nat):Int):=by
 have h2:2^o≤2^30:=a26 (by omega) h
 have:=b9I (N:=1) (o:=o) (by omega) (by omega)
 simpa using this
theorem b8X{l:List Int}{o:Nat}(h1:o≤30)(hr:l.length<100000):a8F (l,(o:Int))=some (a1J (b3g (o:Int) l)):=by
 have hsr:short l:=by unfold short;omega
 have g1:¬ (o:Int)<0:=by omega
 have g2:¬ (o:Int) > 30:=by omega
 have g3:(a0F .i64 (1:Int) (o:Int)==0)=false:=by
  rw[d2J h1]
  have:0<2^o:=a29 o
  simp only[beq_eq_false_iff_ne,ne_eq];omega
 unfold a8F;simp only[g1,g2,decide_false,cF,oB]
 have:=a2M (f:=a8i) l (fun i out=>((o:Int),l,(l.length:Int),(i:Int),out,())) (b9N (o:Int) (Sum.inr ((6:Int),([]:List Int),())))
  (fun i out=>out.length=i) (fun out=>Sum.inl (out,()))
  (fun i h out hI=>by
   have hlt:i<1000000:=by omega
   simp only[a8i,dlt h,cT,a0d h,oB,b8Q,b9N,b4l,g1,g3,decide_false,cF];cases hb:a0b l[i]with
   |true=>
    cases hb2:(a87 l[i] (a0F .i64 1 (o:Int)) != 0)with
    |false=>
     simp only[cT,bT,cF,oB,g1,decide_false,a0q (show out.length+1<1000000 by omega),a0c hlt,a02,a05,hb2];refine⟨fun a' ha=>?_,fun b hb=>(by cases hb)⟩;simp only[Sum.inl.injEq]at ha;subst ha;exact⟨rfl,by simp;omega⟩
    |true=>
     refine⟨fun a' ha=>(by simp at ha),fun b hb=>?_⟩;simp only[a25,bT,cF,Sum.inr.injEq]at hb;subst hb;simp[hb2]
   |false=>
    refine⟨fun a' ha=>(by simp at ha),fun b hb=>?_⟩;simp only[a80,cF,Sum.inr.injEq]at hb;subst hb;rfl)
  (fun out _=>by simp[a8i]) (a:=[]) rfl
 simp only[nZ,c0w,a16]at this;rw[this];cases b3g (o:Int) l<;>rfl
theorem c3Q{o:Nat}(h:o≤30){x:Int}(hx:b4l (o:Int) x=true):a0b (a0l .i64 x (o:Int))=true∧a0F .i64 (a0l .i64 x (o:Int)) (o:Int)=x∧a0b x=true:=by
 simp only[b4l,d2J h,bA,a37,bne_eq_false_iff_eq]at hx;obtain⟨hw,hm⟩:=hx;obtain⟨c,rfl⟩:=Int.dvd_of_tmod_eq_zero hm;have hw':=a3F.1 hw;have e:min (a43 (o:Int)) (IntKind.bits .i64)=o:=by simp only[tN,IntKind.bits];omega
 have hp:(0:Int)<2^o:=Int.pow_pos (by omega);have ep:((2^o:Nat):Int)=2^o:=by simp
 rw[ep]at hw' hw⊢;have e1:a0l .i64 (2^o*c) (o:Int)=c:=by
  unfold a0l;rw[e];exact a68 _ (by omega)
 rw[e1];refine⟨a3F.2 ?_,?_,hw⟩;generalize (2:Int)^o=p at hp hw';have hs:p*c=(p-1)*c+c:=by rw[b00];omega
 by_cases hc:0≤c
 have:=a59 (show 0≤p-1 by omega) hc
 omega
 have:=a59 (show 0≤p-1 by omega) (show 0≤-c by omega)
 rw[Int.mul_neg]at this;omega;unfold a0F;rw[e,Int.mul_comm];exact a0k (by omega)
theorem d6Y{o:Nat}(h:o≤30){l d:List Int}(hd:b3g (o:Int) l=some d):d.all a0b=true∧d.length=l.length∧upO (o:Int) d=some l:=by
 unfold b3g at hd;cases ha:l.all (b4l (o:Int))with
 |false=>rw[ha]at hd;cases hd
 |true=>
  rw[ha]at hd;simp only[cT,sj]at hd;subst hd;have hall:=lA.1 ha;refine⟨?_,by simp,?_⟩;simp only[List.all_map];exact lA.2 fun x hx=>(c3Q h (hall x hx)).1;have e1:(l.map fun x=>a0l .i64 x (o:Int)).all (fun x=>a0b x&&a0b (a0F .i64 x (o:Int)))=true:=by
   simp only[List.all_map];refine lA.2 fun x hx=>?_
   obtain⟨h1,h2,h3⟩:=c3Q h (hall x hx);simp only[Function.comp,h1,h2,h3,a02]
  unfold upO;rw[e1];simp only[cT,sj,List.map_map];have em:l.map ((fun x=>a0F .i64 x (o:Int))∘fun x=>a0l .i64 x (o:Int))=l.map id:=List.map_congr_left (fun x hx=>(c3Q h (hall x hx)).2.1);rw[em,List.map_id]
end Go.Ab
namespace Go.Ab
theorem d2K{n warm:Int}(h:a3w n warm=true):(a0Z 0 n warm).length≠0:=by
 have h':=h;simp only[a3w,bA,dT]at h';unfold a0Z b3a;have e:((n.toNat / 2^(0:Int).toNat:Nat):Int)=n:=by simp;omega
 have e2:n.toNat%2^(0:Int).toNat=0:=by simp;omega
 simp only[h,e,e2];simp[h'.2.2.2]
end Go.Ab
namespace Go.Ab
open IntKind(wrap)
theorem a8y{N n:Nat}(hn:n≤63)(h:N<2^n)(L:List Int):(a0n (N:Int) n L).length=L.length+n:=by
 unfold a0n;rw[a8g (N:=N) (o:=n) (by omega),Nat.div_eq_of_lt h];simp[c1N]
def a3e(k:Nat)(x:Int):Nat:=if a0C x / 2^k<32 then a0C x / 2^k+1+k else 65
theorem c3R{k:Nat}(hk:k≤25)(x:Int):a3e k x≤65:=by
 unfold a3e;split;rename_i h;generalize a0C x / 2^k=q at h;omega;omega
theorem d4d{k:Nat}(hk:k≤25){x:Int}(hw:a0b x=true)(L:List Int):(a8x k x L).length=L.length+a3e k x:=by
 unfold a8x a3e;have hp:0<2^k:=a29 k;have hm:a0C x%2^k<2^k:=b09 _ hp;have hf:=b1Q hw;split;rw[a8y (by omega) hm,a8v];omega;rw[a8y (n:=32) (by omega) (by omega),a8v]
theorem c5k{k:Nat}(hk:k≤25):∀(l L:List Int),l.all a0b=true→(a5H k l L).length=L.length+(l.map (a3e k)).sum
 | [],L,_=>by simp[a5H]
 |x::l,L,h=>by
  simp only[a22,bA]at h;have e:a5H k (x::l) L=a5H k l (a8x k x L):=rfl;rw[e,c5k hk l _ h.2,d4d hk h.1,a66,a51];omega
theorem c9r{k:Nat}(hk:k≤25){x:Int}(hw:a0b x=true):a8Z ((k:Int),x)=some ((a3e k x:Nat):Int):=by
 have hy:=b1Q hw;have eq:a0l .u64 ((a0C x:Nat):Int) (k:Int)=((a0C x / 2^k:Nat):Int):=a8g (by omega);have ew:wrap .i64 ((a0C x / 2^k:Nat):Int)=((a0C x / 2^k:Nat):Int):=b3J (a36 (a33 _ _) hy);have hk0:decide ((k:Int)<0)=false:=by simp
 unfold a8Z a3e;simp only[b0K hk,b3c,hw,oB,bT,cF,b3d hw,hk0,eq,ew];generalize a0C x / 2^k=q
 by_cases hq:q<32
 have hd:decide ((q:Int)<32)=true:=decide_eq_true (by omega);simp only[hd,cT,if_pos hq];rw[a0k (n:=(q:Int)+1) (by omega),a0k (by omega)];rfl;have hd:decide ((q:Int)<32)=false:=decide_eq_false (by omega);simp only[hd,cF,if_neg hq];rfl
theorem c5l{f:Int→Nat}{M:Nat}(h:∀x,f x≤M):∀l:List Int,(l.map f).sum≤M*l.length
 | []=>by simp
 |x::l=>by
  have:=h x
  have:=c5l h l
  rw[a66,a51,lC,a79,a99];omega
theorem b9O{f:Int→Nat}{l:List Int}{i:Nat}(h:i<l.length):((l.take (i+1)).map f).sum=((l.take i).map f).sum+f l[i]:=by
 rw[a41 h,pA,List.sum_append];simp only[a66,List.map_nil,a51,List.sum_nil,a52]
theorem c3l{k:Nat}(hk:k≤25){l:List Int}(hw:l.all a0b=true)(hl:l.length<10000):a4Q ((k:Int),l)=some (((l.map (a3e k)).sum:Nat):Int):=by
 have:=a0I (f:=a5t) (fun i:Nat=>((k:Int),((((l.take i).map (a3e k)).sum:Nat):Int),l,(l.length:Int),(i:Int),())) l.length (b:=((((l.map (a3e k)).sum:Nat):Int),()))
  (fun i hi=>by
   have hc:=c9r hk (lA.1 hw _ (a06 hi));have h1:=c5l (c3R hk) (l.take (i+1));rw[b9O hi]at h1;rw[a04]at h1;have e:wrap .i64 (((((l.take i).map (a3e k)).sum:Nat):Int)+((a3e k l[i]:Nat):Int))=((((l.take (i+1)).map (a3e k)).sum:Nat):Int):=by
    rw[b9O hi,a0k (by omega)];omega
   simp only[a5t,dlt hi,cT,a0d hi,oB,hc,e,a0c (show i<1000000 by omega)])
  (by simp only[a5t,dge,cF,a20])
 unfold a4Q;have e0:(((l.take 0).map (a3e k)).sum:Nat)=0:=rfl;simp only[e0,nZ]at this;simp only[this,oB]
theorem d5f(x:Int){n:Nat}(hn:n≤62):∃N:Nat,a3q x n=(N:Int)∧N<2^n:=by
 obtain⟨h1,h2⟩:=c3k x;obtain⟨y,hy⟩:=a03 h1;have hp:0<2^n:=a29 n;refine⟨y%2^n,?_,b09 _ hp⟩;unfold a3q;rw[hy];exact c9n (by omega) hn
theorem b7t{n:Nat}(hn:n≤62):∀(l L:List Int),(a1N n l L).length=L.length+n*l.length
 | [],L=>by simp[a1N]
 |x::l,L=>by
  have e:a1N n (x::l) L=a1N n l (a0n (a3q x n) n L):=rfl;obtain⟨N,h1,h2⟩:=d5f x hn;rw[e,b7t hn l,h1,a8y (by omega) h2,lC,a79,a99];omega
theorem d7I{x:Int}(h:a0b x=true):a2G x ((31:Nat):Int)=true:=by
 have:=a3F.1 h
 have e1:a0F .i64 (-1) (((31:Nat):Int)-1)=-1073741824:=by decide
 have e2:wrap .i64 (a0F .i64 1 (((31:Nat):Int)-1)-1)=1073741823:=by decide
 unfold a2G;rw[e1,e2];simp only[bA,dT];omega
theorem c5m{x:Int}(h:a0b x=true):∀(k w:Nat),w+k=32→1≤k→a2b x k w≤31
 |k+1,w,hk,_=>by
  simp only[a2b]
  by_cases h31:w=31
  subst h31;rw[d7I h]
  simp
  ·cases (x != 0)&&!a2G x w with
   |true=>exact c5m h k (w+1) (by omega) (by omega)
   |false=>simp only[cF];omega
theorem b7u:∀(l:List Int)(w:Nat),l.all a0b=true→w≤31→l.foldl (fun w x=>a2b x (32-w) w) w≤31
 | [],w,_,h=>h
 |x::l,w,hl,h=>by
  simp only[a22,bA]at hl;exact b7u l _ hl.2 (c5m hl.1 (32-w) w (by omega) (by omega))
theorem b4m{l:List Int}(h:l.all a0b=true):a0s l≤31:=b7u l 0 h (by omega)
theorem b6I{l:List Int}(hl:l.length<10000):a7w l=some (((5+a0s l*l.length:Nat)):Int):=by
 have hw:=a3I l;have hm:a0s l*l.length≤32*l.length:=a40 _ hw;unfold a7w;simp only[a7s (show short l by unfold short;omega),oB];have e:((a0s l:Nat):Int)*((l.length:Nat):Int)=((a0s l*l.length:Nat):Int):=by simp
 rw[e,a0k (n:=((a0s l*l.length:Nat):Int)) (by omega),a0k (by omega)];congr 1
def b1y(k:Int)(part:List Int):Nat:=5+(if k=31 then 5+a0s part*part.length else(part.map (a3e k.toNat)).sum)
def a2y:List Nat→List Int→List Int→Nat
 |z::zs,k::ks,l=>b1y k (l.take z)+a2y zs ks (l.drop z)
 |_,_,_=>0
theorem b7v{q:Nat}(h:q<2147483648):wrap .u64 (q:Int)=(q:Int):=a1p (by omega)
theorem d4e{k:Int}(hk:kB k=true){part:List Int}(hw:part.all a0b=true)(L:List Int):(b0x k part L).length=L.length+b1y k part:=by
 simp only[kB,a17,bA,dT,beq_iff_eq]at hk;obtain⟨K,rfl⟩:=a03 (show 0≤k by omega);have hK:K≤31:=by omega
 have h1:=a8y (N:=K) (n:=5) (by omega) (by omega) L;have hwd:=b4m hw;unfold b0x b1y;rw[b7v (by omega)];split;rw[b7t (by omega),a8y (n:=5) (by omega) (by omega),h1];omega;rw[c5k (by omega) _ _ hw,h1];omega
theorem c5n:∀(zs:List Nat)(ks l L:List Int),ks.all kB=true→l.all a0b=true→(a5I zs ks l L).length=L.length+a2y zs ks l
 |z::zs,k::ks,l,L,h,hw=>by
  simp only[a22,bA]at h;have hwp:(l.take z).all a0b=true:=lA.2 fun x hx=>lA.1 hw x (a27 hx);have hwr:(l.drop z).all a0b=true:=lA.2 fun x hx=>lA.1 hw x (a24 hx);simp only[a5I,a2y];rw[c5n zs ks _ _ h.2 hwr,d4e h.1 hwp];omega
 | [],_,_,_,_,_=>by simp[a5I,a2y]
 |_::_,[],_,_,_,_=>by simp[a5I,a2y]
theorem c9s{k:Int}(hk:kB k=true)(part:List Int):b1y k part≤10+65*part.length:=by
 simp only[kB,a17,bA,dT,beq_iff_eq]at hk;unfold b1y;split;have hm:a0s part*part.length≤32*part.length:=a40 _ (a3I part);omega
 have:=c5l (c3R (k:=k.toNat) (by omega)) part
 omega
theorem b6J{zn:List Nat}{p:Prt}(hk:p.2.1.length=zn.length)(hall:p.2.1.all kB=true)(hz:zn.length≤256):∀(j i:Nat)(l:List Int)(c:Nat),i+j=zn.length→(zn.drop i).sum=l.length→l.all a0b=true→l.length≤5000→c+10*j+65*l.length<1000000→
  a0e a1X (l,(c:Int),(zn.length:Int),(i:Int),a1w zn,p,())=some (((c+a2y (zn.drop i) (p.2.1.drop i) l:Nat):Int),())
 |0,i,l,c,hi,_,_,_,_=>by
  obtain rfl:i=zn.length:=by omega
  rw[a18];exact a0j (by simp[a1X,a2y])
 |j+1,i,l,c,hi,hsum,hw,hl5,hb=>by
  have hlt:i<zn.length:=by omega
  have hki:i<p.2.1.length:=by omega
  have hkb:=lA.1 hall _ (a06 hki);rw[a9S hlt]at hsum;have h0:decide ((0:Int)≤(i:Int))=true:=by simp
  have h1:decide ((i:Int)<(((a1w zn).length:Nat):Int))=true:=by rw[a1a];simp;omega
  have h2:decide ((0:Int)≤((zn[i]:Nat):Int))=true:=by simp
  have h3:decide (((zn[i]:Nat):Int)≤((l.length:Nat):Int))=true:=by simp;omega
  have hpart:(l.take zn[i]).length=zn[i]:=by rw[a04];omega
  have hrest:(l.drop zn[i]).length=(zn.drop (i+1)).sum:=by rw[a07];omega
  have hwp:(l.take zn[i]).all a0b=true:=lA.2 fun x hx=>lA.1 hw x (a27 hx);have hwr:(l.drop zn[i]).all a0b=true:=lA.2 fun x hx=>lA.1 hw x (a24 hx);have hle:=c9s hkb (l.take zn[i]);rw[hpart]at hle;have goal:a1X (l,(c:Int),(zn.length:Int),(i:Int),a1w zn,p,())=some (.inl (l.drop zn[i],((c+b1y p.2.1[i] (l.take zn[i]):Nat):Int),(zn.length:Int),((i+1:Nat):Int),a1w zn,p,())):=by
   by_cases h31:p.2.1[i]=31
   have hne:(p.2.1[i]==31)=true:=by rw[h31];rfl
   have hr:=b6I (l:=l.take zn[i]) (by omega);have ec:b1y p.2.1[i] (l.take zn[i])=5+(5+a0s (l.take zn[i])*(l.take zn[i]).length):=by unfold b1y;rw[if_pos h31]
   rw[ec]at hle⊢;generalize 5+a0s (l.take zn[i])*(l.take zn[i]).length=r at hr hle⊢;have e1:wrap .i64 (5+(r:Int))=5+(r:Int):=a0k (by omega);have e2:wrap .i64 ((c:Int)+(5+(r:Int)))=((c+(5+r):Nat):Int):=by rw[a0k (by omega)];omega
   simp only[a1X,dlt hlt,h0,h1,a4r hlt,h2,h3,cT,a02,tN,a0d hki,oB,hne,hr,e1,e2,a20,a0c (show i<1000000 by omega)];have hne:(p.2.1[i]==31)=false:=by simp[h31]
   have hkb':=hkb;simp only[kB,a17,bA,dT,beq_iff_eq]at hkb';obtain⟨K,hK⟩:=a03 (show 0≤p.2.1[i]by omega);have hr:=c3l (k:=K) (by omega) hwp (by omega);have ec:b1y p.2.1[i] (l.take zn[i])=5+((l.take zn[i]).map (a3e K)).sum:=by unfold b1y;rw[if_neg h31,hK];rfl
   rw[←hK]at hr;rw[ec]at hle⊢;generalize ((l.take zn[i]).map (a3e K)).sum=r at hr hle⊢;have e1:wrap .i64 (5+(r:Int))=5+(r:Int):=a0k (by omega);have e2:wrap .i64 ((c:Int)+(5+(r:Int)))=((c+(5+r):Nat):Int):=by rw[a0k (by omega)];omega
   simp only[a1X,dlt hlt,h0,h1,a4r hlt,h2,h3,cT,cF,a02,tN,a0d hki,oB,hne,hr,e1,e2,a20,a0c (show i<1000000 by omega)]
  rw[a0p goal,b6J hk hall hz j (i+1) (l.drop zn[i]) _ (by omega) hrest.symm hwr (by rw[a07];omega) (by rw[a07];omega)];rw[a01 hlt,a01 hki];simp only[a2y];congr 3;omega
theorem c7J{p:Prt}{n warm:Int}{l:List Int}{zn:List Nat}(h:PartsOk p n warm l zn):a6m (p,n,warm,l)=some ((4+a2y zn p.2.1 l:Nat):Int):=by
 have hk:Go.Ab.short p.2.1:=by have:=h.ks;have:=h.len;unfold Go.Ab.short;omega
 have h5:=h.short;have hz:=h.len;have h1:=b6J h.ks h.all h.len zn.length 0 l 4 (by omega) (by rw[a08];exact h.sum) h.wide h.short (by omega);simp only[nZ,a32,a08]at h1;unfold a6m;simp only[b3b hk,h.may,b3K h.row h.rest h.wide h.short,oB,bT,cF,a3H,h.sizes,a1a,h1]
theorem c7K{p:Prt}{n warm:Int}{l:List Int}{zn:List Nat}(h:PartsOk p n warm l zn)(L:List Int):(a3J p zn l L).length=L.length+(4+a2y zn p.2.1 l):=by
 obtain⟨o,ho⟩:=a03 h.order.1;have h2:=h.order.2;unfold a3J;rw[c5n _ _ _ _ h.all h.wide,ho,b7v (by omega),a8y (by omega) (by omega)];omega
end Go.Ab
namespace Go.Ab
def a0W(o:Int):Sub:=((0:Int),(0:Int),o,(0:Int),(0:Int),([]:List Int),a00 3 (0:Int),([]:List Stg),([]:List Int),((0:Int),([]:List Int),()),([]:List Int),())
theorem d0t(o:Int):SmallS (a0W o):=⟨by simp[a0W],by simp[a0W],by simp[a0W],by simp[a0W],by simp[a0W],by simp[a0W]⟩
end Go.Ab
namespace Go.Ab
end Go.Ab
namespace Go.Ab
open IntKind(wrap)
theorem d2L{x:Int}(h:-1048576≤x∧x≤1048575):a2v (a1D x (-1048576)) 1048575=x:=by
 unfold a2v a1D;have h1:decide ((-1048576:Int) > x)=false:=decide_eq_false (by omega);have h2:decide ((1048575:Int)<x)=false:=decide_eq_false (by omega);simp only[h1,cF,h2]
theorem c8h{x:Int}(h:a0b x=true):-1048576≤a0l .i64 x ((10:Nat):Int)∧a0l .i64 x ((10:Nat):Int)≤1048575:=by
 have hx:=a3F.1 h;have e:a0l .i64 x ((10:Nat):Int)=x / 1024:=by
  show Int.fdiv x 1024=_;exact a48 _ (by decide)
 rw[e];omega
theorem c7j{x:Int}(hx:a0b x=true){a l:List Int}{n i:Int}:∀(k s:Nat),s+k=10→∃s':Nat,s'≤10∧a0e a2n (a,(s:Int),x,l,n,i,())=some (a,(s':Int),l,n,i,())
 |0,s,h=>by
  obtain rfl:s=10:=by omega
  have d0:decide (((10:Nat):Int)<0)=false:=by decide
  have hs:=d2L (c8h hx);refine⟨10,a42 _,a0j ?_⟩;simp only[a2n,d0,cF,a2i,oB,hs,bne_self_eq_false]
 |k+1,s,h=>by
  have d0:decide ((s:Int)<0)=false:=decide_eq_false (by omega);cases hc:(a2v (a1D (a0l .i64 x (s:Int)) (-1048576)) 1048575 != a0l .i64 x (s:Int))with
  |false=>exact⟨s,by omega,a0j (by simp only[a2n,d0,cF,a2i,oB,hc])⟩
  |true=>
   obtain⟨s',h1,h2⟩:=c7j hx (a:=a) (l:=l) (n:=n) (i:=i) k (s+1) (by omega);refine⟨s',h1,?_⟩;rw[a0p (s':=(a,((s+1:Nat):Int),x,l,n,i,())) (by simp only[a2n,d0,cF,a2i,oB,hc,cT,a0c (show s<1000000 by omega)])];exact h2
theorem d0u{l:List Int}(hw:l.all a0b=true)(hl:l.length<100000):∃r,a3Y l=some r∧r.length=l.length:=by
 obtain⟨b,h1,s,h2,h3⟩:=a9b (f:=a2J) (fun i st=>∃s:Nat,s≤10∧st=(l,(s:Int),l,(l.length:Int),(i:Int),())) (fun b=>∃s:Nat,s≤10∧b=(l,(s:Int),())) l.length
  (fun i st hi h=>by
   obtain⟨s,hs,rfl⟩:=h;obtain⟨s',hs',e⟩:=c7j (lA.1 hw _ (a06 hi)) (a:=l) (l:=l) (n:=(l.length:Int)) (i:=(i:Int)) (10-s) s (by omega);exact⟨_,by simp only[a2J,dlt hi,cT,a0d hi,oB,e,a0c (show i<1000000 by omega)]<;>rfl,s',hs',rfl⟩)
  (fun st h=>by
   obtain⟨s,hs,rfl⟩:=h;exact⟨_,by simp only[a2J,dge,cF]<;>rfl,s,hs,rfl⟩) l.length 0 _ (by omega) ⟨0,by omega,rfl⟩
 subst h3;obtain⟨c,g1,o,g2,g3⟩:=a9b (f:=a2K) (fun i st=>∃o:List Int,st=((s:Int),l,(l.length:Int),(i:Int),o,())∧o.length=l.length) (fun b=>∃o:List Int,b=(o,())∧o.length=l.length) l.length
  (fun i st hi h=>by
   obtain⟨o,rfl,ho⟩:=h;have d0:decide ((s:Int)<0)=false:=decide_eq_false (by omega);have d1:decide ((0:Int)≤(i:Int))=true:=by simp
   have d2:decide ((i:Int)<((o.length:Nat):Int))=true:=decide_eq_true (by omega);exact⟨_,by simp only[a2K,dlt hi,cT,a0d hi,oB,d0,cF,d1,d2,a02,a0c (show i<1000000 by omega)]<;>rfl,_,rfl,by simp[ho]⟩)
  (fun st h=>by
   obtain⟨o,rfl,ho⟩:=h;exact⟨_,by simp only[a2K,dge,cF]<;>rfl,o,rfl,ho⟩) l.length 0 _ (by omega) ⟨a00 l.length 0,rfl,by simp⟩
 subst g2;refine⟨o,?_,g3⟩;have d0:decide ((0:Int)≤((l.length:Nat):Int))=true:=by simp
 have d1:decide (((l.length:Nat):Int)≤((l.length:Nat):Int))=true:=by simp
 have d2:lim l.length=true:=a0q (by omega);simp only[nZ]at h1 g1;unfold a3Y;simp only[h1,oB,d0,d1,d2,tN,a02,cT,g1]
theorem c5o:∀(N:Nat)(num den:Int),den.toNat≤N→∃a b,a0e a3l (num,den,())=some (a,b,())
 |N,num,den,h=>by
  by_cases hd:den≥1099511627776
  ·have d0:decide (den≥(1099511627776:Int))=true:=decide_eq_true hd;have e:a0l .i64 den 1=den / 2:=by
    show Int.fdiv den 2=_;exact a48 _ (by decide)
   rw[a0p (s':=(a0l .i64 num 1,den / 2,())) (by simp only[a3l,d0,cT,e])]
   match N with
   |0=>omega
   |N+1=>exact c5o N _ _ (by omega)
  have d0:decide (den≥(1099511627776:Int))=false:=decide_eq_false hd;exact⟨num,den,a0j (by simp only[a3l,d0,cF])⟩
theorem b7w{f g:List Int}{m:Nat}(hm:1≤m)(hg:g.length=f.length)(hl:f.length<100000)(hm2:m<1000):∃k,a3i (f,g,(m:Int))=some k:=by
 obtain⟨b,h1,num,den,h2⟩:=a9b (f:=a2A) (fun i st=>∃num den:Int,st=(f,g,num,den,((m+i:Nat):Int),())) (fun b=>∃num den:Int,b=(num,den,())) (f.length-m)
  (fun i st hi h=>by
   obtain⟨num,den,rfl⟩:=h;have hlt:m+i<f.length:=by omega
   have e:wrap .i64 (((m+i:Nat):Int)-1)=((m+i-1:Nat):Int):=by rw[a0k (by omega)];omega
   exact⟨_,by simp only[a2A,dlt hlt,cT,a0d hlt,e,a0d (show m+i-1<g.length by omega),oB,a0c (show m+i<1000000 by omega)]<;>rfl,_,_,rfl⟩)
  (fun st h=>by
   obtain⟨num,den,rfl⟩:=h;have d0:decide (((m+(f.length-m):Nat):Int)<((f.length:Nat):Int))=false:=decide_eq_false (by omega);exact⟨_,by simp only[a2A,d0,cF]<;>rfl,_,_,rfl⟩) (f.length-m) 0 (f,g,0,0,(m:Int),()) (by omega) ⟨0,0,rfl⟩
 subst h2;obtain⟨a,c,h3⟩:=c5o den.toNat num den (a42 _);unfold a3i;simp only[h1,oB,h3];cases hc:(c==0)with
 |true=>exact⟨0,rfl⟩
 |false=>
  simp only[cF];cases decide ((a0F .i64 a 15).tmod c<0)<;>exact⟨_,rfl⟩
theorem c7L{f g ks:List Int}{m:Nat}{order k:Int}(hm:1≤m)(hg:g.length=f.length)(hl:f.length<100000)(hm2:m<1000):
  ∃f' g':List Int,a0e a1x (order,(m:Int),k,((f.length:Nat):Int)-1,f,g,ks,())=some (order,(m:Int),f',g',ks,())∧f'.length=f.length∧g'.length=f.length:=by
 obtain⟨b,h1,f',g',h2,h3⟩:=a9b (f:=a1x) (fun i st=>∃f' g':List Int,st=(order,(m:Int),k,((f.length:Nat):Int)-1-(i:Int),f',g',ks,())∧f'.length=f.length∧g'.length=f.length)
  (fun b=>∃f' g':List Int,b=(order,(m:Int),f',g',ks,())∧f'.length=f.length∧g'.length=f.length) (f.length-m)
  (fun i st hi h=>by
   obtain⟨f',g',rfl,hf',hg'⟩:=h;have d0:decide (((f.length:Nat):Int)-1-(i:Int)≥(m:Int))=true:=decide_eq_true (by omega);have d1:decide ((0:Int)≤((f.length:Nat):Int)-1-(i:Int))=true:=decide_eq_true (by omega);have d2:decide (((f.length:Nat):Int)-1-(i:Int)<((f'.length:Nat):Int))=true:=decide_eq_true (by omega);have d3:decide (((f.length:Nat):Int)-1-(i:Int)<((g'.length:Nat):Int))=true:=decide_eq_true (by omega);have e:wrap .i64 (((f.length:Nat):Int)-1-(i:Int)-1)=((f.length:Nat):Int)-1-((i+1:Nat):Int):=by rw[a0k (by omega)];omega
   have d4:decide ((0:Int)≤((f.length:Nat):Int)-1-((i+1:Nat):Int))=true:=decide_eq_true (by omega);have d5:decide (((f.length:Nat):Int)-1-((i+1:Nat):Int)<((g'.length:Nat):Int))=true:=decide_eq_true (by omega);exact⟨_,by simp only[a1x,d0,d1,d2,d3,e,d4,d5,cT,a02,a2i,oB]<;>rfl,_,_,rfl,by simp[hf'],by simp[hg']⟩)
  (fun st h=>by
   obtain⟨f',g',rfl,hf',hg'⟩:=h;have d0:decide (((f.length:Nat):Int)-1-((f.length-m:Nat):Int)≥(m:Int))=false:=decide_eq_false (by omega);exact⟨_,by simp only[a1x,d0,cF]<;>rfl,f',g',rfl,hf',hg'⟩) (f.length-m) 0 _ (by omega) ⟨f,g,rfl,rfl,hg⟩
 subst h2;simp only[nZ,Int.sub_zero]at h1;exact⟨f',g',h1,h3⟩
theorem c9t{f g:List Int}{o:Nat}(ho:o≤32)(hg:g.length=f.length)(hl:f.length<100000):∃ks:List Int,a0e a2d ((o:Int),(1:Int),f,g,([]:List Int),())=some (ks,())∧ks.length=o:=by
 obtain⟨b,h1,ks,h2,h3⟩:=a9b (f:=a2d) (fun i st=>∃f' g' ks:List Int,st=((o:Int),((i+1:Nat):Int),f',g',ks,())∧f'.length=f.length∧g'.length=f.length∧ks.length=i)
  (fun b=>∃ks:List Int,b=(ks,())∧ks.length=o) o
  (fun i st hi h=>by
   obtain⟨f',g',ks,rfl,hf',hg',hk⟩:=h;have d0:decide (((i+1:Nat):Int)≤(o:Int))=true:=decide_eq_true (by omega);obtain⟨k,hk2⟩:=b7w (f:=f') (g:=g') (m:=i+1) (by omega) (by omega) (by omega) (by omega);have e:wrap .i64 (((f'.length:Nat):Int)-1)=((f'.length:Nat):Int)-1:=a0k (by omega);obtain⟨f2,g2,h1,h2,h3⟩:=c7L (f:=f') (g:=g') (ks:=ks++[k]) (m:=i+1) (order:=(o:Int)) (k:=k) (by omega) (by omega) (by omega) (by omega);have hlim:lim (ks.length+1)=true:=a0q (by omega);exact⟨_,by simp only[a2d,d0,cT,hk2,oB,hlim,e,a09,h1,a0c (show i+1<1000000 by omega)]<;>rfl,f2,g2,ks++[k],rfl,by omega,by omega,by simp[hk]⟩)
  (fun st h=>by
   obtain⟨f',g',ks,rfl,hf',hg',hk⟩:=h;have d0:decide (((o+1:Nat):Int)≤(o:Int))=false:=decide_eq_false (by omega);exact⟨_,by simp only[a2d,d0,cF]<;>rfl,ks,rfl,hk⟩) o 0 _ (by omega) ⟨f,g,[],rfl,rfl,hg,rfl⟩
 subst h2;exact⟨ks,h1,h3⟩
theorem c1T{l:List Int}(hw:l.all a0b=true)(hl:l.length≤4096){o:Nat}(h1:1≤o)(h2:o≤32):∃ks:List Int,a3u (l,(o:Int))=some (ks,0)∧ks.length=o:=by
 have hs:short l:=by unfold short;omega
 obtain⟨r,e1,e2⟩:=d0u hw (by omega);have hr:short r:=by unfold short;omega
 obtain⟨ks,e3,e4⟩:=c9t (f:=r) (g:=r) h2 rfl (by omega);have c1:decide ((o:Int)<1)=false:=decide_eq_false (by omega);have c2:decide ((o:Int) > 32)=false:=decide_eq_false (by omega);have c3:decide (((l.length:Nat):Int) > 4096)=false:=decide_eq_false (by omega);have c4:decide ((0:Int)≤(o:Int))=true:=by simp
 have c5:lim o=true:=a0q (by omega);refine⟨ks,?_,e4⟩;unfold a3u;simp only[c1,c2,c3,c4,c5,cF,cT,oB,a5F hs,hw,bT,e1,a8t hr,tN,a02,e3]
end Go.Ab
namespace Go.Ab
open IntKind(wrap)
theorem b6K{σ β:Type}{f:σ→Option (σ ⊕ β)}(I:Nat→σ→Prop)(Q:β→Prop)(n:Nat)(hstep:∀i s,i<n→I i s→(∃s',f s=some (.inl s')∧I (i+1) s')∨(∃b,f s=some (.inr b)∧Q b))
  (hexit:∀s,I n s→∃b,f s=some (.inr b)∧Q b):∀(k i:Nat)(s:σ),i+k=n→I i s→∃b,a0e f s=some b∧Q b
 |0,i,s,h,hi=>by
  obtain rfl:i=n:=by omega
  obtain⟨b,h1,h2⟩:=hexit s hi;exact⟨b,a0j h1,h2⟩
 |k+1,i,s,h,hi=>by
  rcases hstep i s (by omega) hi with⟨s',h1,h2⟩|⟨b,h1,h2⟩;rw[a0p h1];exact b6K I Q n hstep hexit k (i+1) s' (by omega) h2;exact⟨b,a0j h1,h2⟩
theorem d0v{ks:List Int}(hl:ks.length≤32):∃b,a0e a1d (ks,ks,(ks.length:Int),(0:Int),())=some b∧(b=.inl (ks,())∨b=.inr (([]:List Int),(1:Int),())):=
 b6K (f:=a1d) (fun i s=>s=(ks,ks,(ks.length:Int),(i:Int),())) (fun b=>b=.inl (ks,())∨b=.inr (([]:List Int),(1:Int),())) ks.length
  (fun i s hi h=>by
   subst h;cases h1:decide (ks[i]<(-16383:Int))with
   |true=>exact Or.inr ⟨_,by simp only[a1d,dlt hi,cT,a0d hi,oB,h1]<;>rfl,Or.inr rfl⟩
   |false=>
    cases h2:decide (ks[i] > (16383:Int))with
    |true=>exact Or.inr ⟨_,by simp only[a1d,dlt hi,cT,cF,a0d hi,oB,h1,h2]<;>rfl,Or.inr rfl⟩
    |false=>exact Or.inl ⟨_,by simp only[a1d,dlt hi,cT,cF,a0d hi,oB,h1,h2,a0c (show i<1000000 by omega)]<;>rfl,rfl⟩)
  (fun s h=>by
   subst h;exact⟨_,by simp only[a1d,dge,cF]<;>rfl,Or.inl rfl⟩) ks.length 0 _ (by omega) rfl
theorem d0w{c a:List Int}{i:Nat}{k n:Int}(hc:c.length=i)(hi:i≤32):
  ∃nx:List Int,a0e a2f (c,(i:Int),k,a,n,(i:Int),c,(c.length:Int),(0:Int),([]:List Int),())=some (k,a,n,(i:Int),nx,())∧nx.length=i:=by
 obtain⟨b,h1,nx,h2,h3⟩:=a9b (f:=a2f) (fun j s=>∃nx:List Int,s=(c,(i:Int),k,a,n,(i:Int),c,(c.length:Int),(j:Int),nx,())∧nx.length=j)
  (fun b=>∃nx:List Int,b=(k,a,n,(i:Int),nx,())∧nx.length=c.length) c.length
  (fun j s hj h=>by
   obtain⟨nx,rfl,hn⟩:=h;have e1:wrap .i64 ((i:Int)-1)=(i:Int)-1:=a0k (by omega);have e2:wrap .i64 ((i:Int)-1-(j:Int))=((i-1-j:Nat):Int):=by rw[a0k (by omega)];omega
   have hlim:lim (nx.length+1)=true:=a0q (by omega);exact⟨_,by simp only[a2f,dlt hj,cT,a0d hj,oB,e1,e2,a0d (show i-1-j<c.length by omega),hlim,a0c (show j<1000000 by omega),a09]<;>rfl,_,rfl,by simp[hn]⟩)
  (fun s h=>by
   obtain⟨nx,rfl,hn⟩:=h;exact⟨_,by simp only[a2f,dge,cF]<;>rfl,nx,rfl,hn⟩) c.length 0 _ (by omega) ⟨[],rfl,rfl⟩
 subst h2;exact⟨nx,h1,by omega⟩
theorem c5p{ks:List Int}(h1:1≤ks.length)(hl:ks.length≤32):∃c e,a4H ks=some (c,e)∧(e=0→c.length=ks.length):=by
 obtain⟨b,g1,g2⟩:=d0v hl;have c1:decide (((ks.length:Nat):Int)<1)=false:=decide_eq_false (by omega);have c2:decide (((ks.length:Nat):Int) > 32)=false:=decide_eq_false (by omega);unfold a4H;simp only[c1,c2,cF,oB,g1];rcases g2 with rfl|rfl;obtain⟨r,h2,c,h3,h4⟩:=a9b (f:=a2Z) (fun i s=>∃c:List Int,s=(c,ks,(ks.length:Int),(i:Int),())∧c.length=i) (fun r=>∃c:List Int,r=(c,())∧c.length=ks.length) ks.length
  (fun i s hi h=>by
   obtain⟨c,rfl,hc⟩:=h;have e1:wrap .i64 ((i:Int)+1)=((i+1:Nat):Int):=a0c (by omega);have d1:decide ((0:Int)≤((i+1:Nat):Int))=true:=by simp;omega
   have l1:lim (i+1)=true:=a0q (by omega);obtain⟨nx,n1,n2⟩:=d0w (c:=c) (a:=ks) (i:=i) (k:=ks[i]) (n:=(ks.length:Int)) hc (by omega);have l2:lim (nx.length+1)=true:=a0q (by omega);exact⟨_,by simp only[a2Z,dlt hi,cT,a0d hi,oB,e1,d1,tN,l1,a02,n1,l2,a09]<;>rfl,_,rfl,by simp[n2]⟩)
  (fun s h=>by
   obtain⟨c,rfl,hc⟩:=h;exact⟨_,by simp only[a2Z,dge,cF]<;>rfl,c,rfl,hc⟩) ks.length 0 _ (by omega) ⟨[],rfl,rfl⟩
 subst h3;simp only[nZ]at h2;exact⟨c,0,by simp only[h2,oB],fun _=>h4⟩;exact⟨[],1,rfl,fun h=>absurd h (by decide)⟩
theorem d0x{c:List Int}{s:Nat}{w:Nat}{half:Int}(hc:c.length≤32)(hw:w≤32):
  ∃out:List Int,a0e a1z (c,(w:Int),(s:Int),half,c,(c.length:Int),(0:Int),([]:List Int),())=some (c,(w:Int),(s:Int),out,()):=by
 obtain⟨b,h1,out,h2⟩:=b6K (f:=a1z) (fun j st=>∃out:List Int,st=(c,(w:Int),(s:Int),half,c,(c.length:Int),(j:Int),out,())∧out.length=j)
  (fun b=>∃out:List Int,b=(c,(w:Int),(s:Int),out,())) c.length
  (fun j st hj h=>by
   obtain⟨out,rfl,ho⟩:=h;have d0:decide ((s:Int)<0)=false:=decide_eq_false (by omega);have hlim:lim (out.length+1)=true:=a0q (by omega);cases hf:a2G (a0l .i64 (wrap .i64 (c[j]+half)) (s:Int)) (w:Int)with
   |true=>exact Or.inl ⟨_,by simp only[a1z,dlt hj,cT,a0d hj,oB,d0,cF,a8a hw,hf,bT,hlim,a0c (show j<1000000 by omega),a09]<;>rfl,_,rfl,by simp[ho]⟩
   |false=>exact Or.inr ⟨_,by simp only[a1z,dlt hj,cT,a0d hj,oB,d0,cF,a8a hw,hf,a05]<;>rfl,out,rfl⟩)
  (fun st h=>by
   obtain⟨out,rfl,ho⟩:=h;exact⟨_,by simp only[a1z,dge,cF]<;>rfl,out,rfl⟩) c.length 0 _ (by omega) ⟨[],rfl,rfl⟩
 subst h2;exact⟨out,h1⟩
end Go.Ab
namespace Go.Ab
open IntKind(wrap)
theorem d0y{c:List Int}{w:Int}(hl:c.length≤32):∃b,a0e a1e (c,w,c,(c.length:Int),(0:Int),())=some b∧(b=.inl (c,w,())∨b=.inr ((0:Int),(1:Int),([]:List Int),())):=
 b6K (f:=a1e) (fun i s=>s=(c,w,c,(c.length:Int),(i:Int),())) (fun b=>b=.inl (c,w,())∨b=.inr ((0:Int),(1:Int),([]:List Int),())) c.length
  (fun i s hi h=>by
   subst h;cases h1:decide (c[i]<(-35184372088832:Int))with
   |true=>exact Or.inr ⟨_,by simp only[a1e,dlt hi,cT,a0d hi,oB,h1]<;>rfl,Or.inr rfl⟩
   |false=>
    cases h2:decide (c[i] > (35184372088832:Int))with
    |true=>exact Or.inr ⟨_,by simp only[a1e,dlt hi,cT,cF,a0d hi,oB,h1,h2]<;>rfl,Or.inr rfl⟩
    |false=>exact Or.inl ⟨_,by simp only[a1e,dlt hi,cT,cF,a0d hi,oB,h1,h2,a0c (show i<1000000 by omega)]<;>rfl,rfl⟩)
  (fun s h=>by
   subst h;exact⟨_,by simp only[a1e,dge,cF]<;>rfl,Or.inl rfl⟩) c.length 0 _ (by omega) rfl
theorem d2M{c:List Int}{w:Nat}(h1:1≤c.length)(hl:c.length≤32)(hw:2≤w∧w≤16):∃o sh e,a6c (c,(w:Int))=some (o,sh,e)∧(e=0→o.length=c.length):=by
 obtain⟨b,g1,g2⟩:=d0y (w:=(w:Int)) hl;have c1:decide (((c.length:Nat):Int)<1)=false:=decide_eq_false (by omega);have c2:decide (((c.length:Nat):Int) > 32)=false:=decide_eq_false (by omega);have c3:decide ((w:Int)<2)=false:=decide_eq_false (by omega);have c4:decide ((w:Int) > 16)=false:=decide_eq_false (by omega);unfold a6c;simp only[c1,c2,c3,c4,cF,oB,g1];rcases g2 with rfl|rfl
 ·obtain⟨r,h2,h3⟩:=b6K (f:=a1A) (fun i s=>s=(c,(w:Int),(i:Int),())) (fun r=>r=.inl ()∨∃(sh:Int)(o:List Int),r=.inr (sh,(0:Int),o,())∧o.length=c.length) 15
   (fun i s hi h=>by
    subst h;have d0:decide ((i:Int)≤14)=true:=decide_eq_true (by omega);have d1:decide ((0:Int)≤((c.length:Nat):Int))=true:=by simp
    have l1:lim c.length=true:=a0q (by omega);have step:∀half:Int,∃o:List Int,a0e a1z (c,(w:Int),(i:Int),half,c,(c.length:Int),(0:Int),([]:List Int),())=some (c,(w:Int),(i:Int),o,()):=fun half=>d0x hl (by omega)
    by_cases hp:(i:Int) > 0
    ·have e1:wrap .i64 ((i:Int)-1)=(i:Int)-1:=a0k (by omega);have d2:decide ((i:Int)-1<0)=false:=decide_eq_false (by omega);obtain⟨o,ho⟩:=step (a0F .i64 1 ((i:Int)-1));cases hc:((((o.length:Nat):Int))==((c.length:Nat):Int))with
     |true=>exact Or.inr ⟨_,by simp only[a1A,d0,cT,hp,decide_true,e1,d2,cF,oB,d1,tN,l1,a02,ho,hc]<;>rfl,Or.inr ⟨_,o,rfl,by have:=beq_iff_eq.1 hc;omega⟩⟩
     |false=>exact Or.inl ⟨_,by simp only[a1A,d0,cT,hp,decide_true,e1,d2,cF,oB,d1,tN,l1,a02,ho,hc,a0c (show i<1000000 by omega)]<;>rfl,rfl⟩
    ·obtain⟨o,ho⟩:=step 0;cases hc:((((o.length:Nat):Int))==((c.length:Nat):Int))with
     |true=>exact Or.inr ⟨_,by simp only[a1A,d0,cT,hp,decide_false,cF,oB,d1,tN,l1,a02,ho,hc]<;>rfl,Or.inr ⟨_,o,rfl,by have:=beq_iff_eq.1 hc;omega⟩⟩
     |false=>exact Or.inl ⟨_,by simp only[a1A,d0,cT,hp,decide_false,cF,oB,d1,tN,l1,a02,ho,hc,a0c (show i<1000000 by omega)]<;>rfl,rfl⟩)
   (fun s h=>by
    subst h;have d0:decide (((15:Nat):Int)≤14)=false:=by decide
    exact⟨_,by simp only[a1A,d0,cF]<;>rfl,Or.inl rfl⟩) 15 0 (c,(w:Int),(0:Int),()) (by omega) rfl
  rcases h3 with rfl|⟨sh,o,rfl,ho⟩;exact⟨[],0,6,by simp only[h2,oB],fun h=>absurd h (by decide)⟩;exact⟨o,sh,0,by simp only[h2,oB],fun _=>ho⟩
 exact⟨[],0,1,rfl,fun h=>absurd h (by decide)⟩
theorem c7k{l:List Int}(hw:l.all a0b=true)(hl:l.length≤4096){o w:Nat}(h1:1≤o)(h2:o≤32)(h3:2≤w∧w≤16):∃c sh e,a3m (l,(o:Int),(w:Int))=some (c,sh,e)∧(e=0→c.length=o):=by
 obtain⟨ks,e1,e2⟩:=c1T hw hl h1 h2;obtain⟨c,e,g1,g2⟩:=c5p (ks:=ks) (by omega) (by omega);unfold a3m;simp only[e1,oB,show((0:Int) != 0)=false from rfl,cF,g1]
 by_cases he:e=0
 subst he;obtain⟨o',sh,e',g3,g4⟩:=d2M (c:=c) (w:=w) (by have:=g2 rfl;omega) (by have:=g2 rfl;omega) h3
 have:=g2 rfl
 exact⟨o',sh,e',by simp only[show((0:Int) != 0)=false from rfl,cF,g3,oB],fun h=>by have:=g4 h;omega⟩;have hne:(e != 0)=true:=by simpa using he
 exact⟨[],0,e,by simp only[hne,cT],fun h=>absurd h he⟩
theorem d2N{l:List Int}{o:Nat}(hl:l.length<100000)(ho:o≤4):∃v,a6I (l,(o:Int))=some v:=by
 obtain⟨b,h1,v,h2⟩:=a9b (f:=a2s) (fun i s=>∃v:Int,s=((o:Int),v,l,(l.length:Int),(i:Int),())) (fun b=>∃v:Int,b=(v,())) l.length
  (fun i s hi h=>by
   obtain⟨v,rfl⟩:=h;cases hc:decide (wrap .i64 ((i:Int)+(o:Int))≥4)with
   |true=>exact⟨_,by simp only[a2s,dlt hi,cT,a0d hi,oB,hc,a0c (show i<1000000 by omega)]<;>rfl,_,rfl⟩
   |false=>exact⟨_,by simp only[a2s,dlt hi,cT,cF,a0d hi,oB,hc,a0c (show i<1000000 by omega)]<;>rfl,_,rfl⟩)
  (fun s h=>by
   obtain⟨v,rfl⟩:=h;exact⟨_,by simp only[a2s,dge,cF]<;>rfl,v,rfl⟩) l.length 0 ((o:Int),(0:Int),l,(l.length:Int),(0:Int),()) (by omega) ⟨0,rfl⟩
 subst h2;refine⟨v,?_⟩;unfold a6I;simp only[h1,oB]
theorem c5q{l:List Int}{o:Nat}(ho:o≤4)(hs:l.length<100000)(hw:l.all a0b=true):∃r e,a3W (l,(o:Int))=some (r,e)∧r.length≤l.length:=by
 by_cases hn:o≤l.length
 ·rw[b4Z ho hn (by unfold short;omega) hw];cases (a1G o l).all a0b with
  |true=>exact⟨_,_,rfl,by rw[a5U];omega⟩
  |false=>exact⟨_,_,rfl,by simp⟩
 have c1:decide ((o:Int)<0)=false:=decide_eq_false (by omega);have c2:decide ((o:Int) > 4)=false:=decide_eq_false (by omega);have c3:decide (((l.length:Nat):Int)<(o:Int))=true:=decide_eq_true (by omega);exact⟨[],1,by unfold a3W;simp only[c1,c2,c3,cF,cT,oB],by simp⟩
theorem c5r{l:List Int}(hs:l.length<100000)(hw:l.all a0b=true):∃o:Nat,a4Y l=some (o:Int)∧o≤4:=by
 obtain⟨b,h1,o,h2,h3⟩:=a9b (f:=a1v) (fun i s=>∃(o:Nat)(v:Int),s=(l,(o:Int),v,(i:Int),())∧o≤4) (fun b=>∃o:Nat,b=((o:Int),())∧o≤4) 5
  (fun i s hi h=>by
   obtain⟨o,v,rfl,ho⟩:=h;have d0:decide ((i:Int)≤4)=true:=decide_eq_true (by omega);obtain⟨r,e,g1,g2⟩:=c5q (o:=i) (by omega) hs hw;obtain⟨y,g3⟩:=d2N (l:=r) (o:=i) (by omega) (by omega);cases hc:(e != 0)with
   |true=>exact⟨_,by simp only[a1v,d0,cT,g1,oB,hc,a0c (show i<1000000 by omega)]<;>rfl,o,v,rfl,ho⟩
   |false=>
    cases h4:decide (v<0)with
    |true=>exact⟨_,by simp only[a1v,d0,cT,cF,g1,oB,hc,g3,h4,a0c (show i<1000000 by omega)]<;>rfl,i,y,rfl,by omega⟩
    |false=>
     cases h5:decide (y<v)with
     |true=>exact⟨_,by simp only[a1v,d0,cT,cF,g1,oB,hc,g3,h4,h5,a0c (show i<1000000 by omega)]<;>rfl,i,y,rfl,by omega⟩
     |false=>exact⟨_,by simp only[a1v,d0,cT,cF,g1,oB,hc,g3,h4,h5,a0c (show i<1000000 by omega)]<;>rfl,o,v,rfl,ho⟩)
  (fun s h=>by
   obtain⟨o,v,rfl,ho⟩:=h;have d0:decide (((5:Nat):Int)≤4)=false:=by decide
   exact⟨_,by simp only[a1v,d0,cF]<;>rfl,o,rfl,ho⟩) 5 0 (l,(0:Int),(-1:Int),(0:Int),()) (by omega) ⟨0,-1,rfl,by omega⟩
 subst h2;refine⟨o,?_,h3⟩;unfold a4Y;simp only[h1,oB]
end Go.Ab
namespace Go.Ab
open IntKind(wrap)
def a4T(g:List Int→Int):List Int→List Int→List Int
 | [],_=>[]
 |x::r,done=>W (x-g done)::a4T g r (done++[x])
theorem a9T(g:List Int→Int):∀r done,(a4T g r done).length=r.length
 | [],_=>rfl
 |x::r,done=>by simp[a4T,a9T g r]
theorem d4f{x g:Int}(h:a0b x=true):W (W (x-g)+g)=x:=by
 have:=b7o h
 simp only[W,a8f,a97]at *;rw[show x-g+g=x from by omega];exact this
theorem b9P(g:List Int→Int):∀(r done:List Int),r.all a0b=true→a4i g (a4T g r done) done=some (done++r)
 | [],done,_=>by simp[a4T,a4i]
 |x::r,done,h=>by
  rw[a22,bA]at h;simp only[a4T,a4i,d4f h.1,h.1,cT,b9P g r (done++[x]) h.2,aA,a46]
def b1z(g:List Int→Int)(r done:List Int):Option (List Int):=bif (a4T g r done).all a0b then some (a4T g r done)else none
def b7x{β:Type}(g:List Int→Int)(bad:β)(a:List Int×List Int)(x:Int):(List Int×List Int) ⊕ β:=
 bif a0b (W (x-g a.1))then .inl (a.1++[x],a.2++[W (x-g a.1)])else .inr bad
theorem b9Q{β:Type}(g:List Int→Int)(bad:β)(fin:List Int×List Int→β):∀(r done acc:List Int),
  b2U fin (a3p (b7x g bad) r (done,acc))=match b1z g r done with|some e=>fin (done++r,acc++e)|none=>bad
 | [],done,acc=>by simp[a3p,b2U,b1z,a4T]
 |x::r,done,acc=>by
  simp only[a3p,b7x];cases h:a0b (W (x-g done))with
  |true=>
   simp only[cT];rw[b9Q g bad fin r];simp only[b1z,a4T,a22,h,a25];cases (a4T g r (done++[x])).all a0b<;>simp
  |false=>simp[b2U,b1z,a4T,h]
def c2p(g:List Int→Int)(a:List Int×List Int)(x:Int):(List Int×List Int) ⊕ (List Int×Unit):=.inl (a.1++[x],a.2++[W (x-g a.1)])
theorem b9R(g:List Int→Int)(fin:List Int×List Int→List Int×Unit):∀(r done acc:List Int),
  b2U fin (a3p (c2p g) r (done,acc))=fin (done++r,acc++a4T g r done)
 | [],done,acc=>by simp[a3p,b2U,a4T]
 |x::r,done,acc=>by
  simp only[a3p,c2p];rw[b9R g fin r];simp[a4T]
theorem c5s{g:List Int→Int}{r done e:List Int}(h:b1z g r done=some e):e=a4T g r done∧e.all a0b=true:=by
 unfold b1z at h;cases hc:(a4T g r done).all a0b with
 |true=>simp only[hc,cT,sj]at h;subst h;exact⟨rfl,hc⟩
 |false=>simp[hc]at h
theorem b2b{l:List Int}{i:Nat}(h:i<l.length):l.take i++[l[i]]=l.take (i+1):=by rw[List.take_append_getElem h]
theorem a8z{l:List Int}{p:Int→Bool}(h:l.all p=true)(i:Nat):(l.take i).all p=true:=by
 rw[lA]at h⊢;exact fun x hx=>h x (a27 hx)
theorem b9S{l:List Int}{p:Int→Bool}(h:l.all p=true)(i:Nat):(l.drop i).all p=true:=by
 rw[lA]at h⊢;exact fun x hx=>h x (a24 hx)
theorem b7y{σ β:Type}{f:σ→Option (σ ⊕ β)}(l:List Int)(k:Nat)(hk:k≤l.length)(S:Nat→List Int→σ)(g:List Int×List Int→Int→(List Int×List Int) ⊕ β)(fin:List Int→β)
  (hstep:∀i (h:i<l.length) acc,k≤i→acc.length=i-k→(∀a',g (l.take i,acc) l[i]=.inl a'→f (S i acc)=some (.inl (S (i+1) a'.2))∧a'.1=l.take (i+1)∧a'.2.length=i+1-k)∧(∀b,g (l.take i,acc) l[i]=.inr b→f (S i acc)=some (.inr b)))
  (hexit:∀acc,acc.length=l.length-k→f (S l.length acc)=some (.inr (fin acc))):a0e f (S k [])=some (b2U (fun a=>fin a.2) (a3p g (l.drop k) (l.take k,[]))):=by
 have h:=a2M (f:=f) (l.drop k) (fun i a=>S (k+i) a.2) g (fun i a=>a.1=l.take (k+i)∧a.2.length=i) (fun a=>fin a.2)
  (fun i hi a ha=>by
   obtain⟨a1,acc⟩:=a;obtain⟨h1,h2⟩:=ha;simp only at h1 h2;subst h1;rw[a07]at hi;have hlt:k+i<l.length:=by omega
   have e:(l.drop k)[i]'(by rw[a07];exact hi)=l[k+i]:=by rw[List.getElem_drop]
   rw[e];obtain⟨g1,g2⟩:=hstep (k+i) hlt acc (by omega) (by omega);refine⟨fun a' ha'=>?_,g2⟩;obtain⟨q1,q2,q3⟩:=g1 a' ha';exact⟨q1,q2,by omega⟩)
  (fun a ha=>by
   rw[a07]at ha⊢;rw[show k+(l.length-k)=l.length from by omega];exact hexit a.2 ha.2) (a:=(l.take k,[])) ⟨by simp,rfl⟩
 exact h
def b1A(l c:List Int)(s:Int):Option (List Int):=bif l.all a0b then b1z (a7y c s) (l.drop c.length) (l.take c.length)else none
theorem b8Y{l c:List Int}{s:Int}(hl:a6r c s=true)(hc:c.length≤l.length)(hr:l.length<100000):
  a8H (l,c,s)=some (a1J (b1A l c s)):=by
 have hs:short l:=by unfold short;omega
 have hcs:short c:=by unfold short;omega
 have h0:0≤s:=by simp only[a6r,bA,dT]at hl;omega
 have e1:decide (((l.length:Nat):Int)<((c.length:Nat):Int))=false:=by simp;omega
 unfold a8H b1A;simp only[b1w hcs,hl,oB,bT,cF,e1,a5F hs];cases hw:l.all a0b with
 |false=>rfl
 |true=>
  have e2:wrap .i64 (((l.length:Nat):Int)-((c.length:Nat):Int))=((l.length-c.length:Nat):Int):=by rw[a0k (by omega)];omega
  have e3:decide ((0:Int)≤((l.length-c.length:Nat):Int))=true:=by simp
  have e4:lim (l.length-c.length)=true:=a0q (by omega);simp only[bT,cF,cT,e2,e3,tN,e4,a02]
  have:=b7y (f:=a6k) l c.length hc (fun i acc=>(l,c,s,(i:Int),acc,())) (b7x (a7y c s) (.inr ((6:Int),([]:List Int),()))) (fun acc=>.inl (acc,()))
   (fun i hi acc hki hacc=>by
    have ht:short (l.take i):=by unfold short;rw[a04];omega
    have h1:decide ((0:Int)≤(i:Int))=true:=by simp
    have h2:decide ((i:Int)≤((l.length:Nat):Int))=true:=by simp;omega
    have h3:lim (acc.length+1)=true:=a0q (by omega);constructor
    ·intro a' ha';unfold b7x at ha';cases hq:a0b (W (l[i]-a7y c s (l.take i)))with
     |false=>simp[hq]at ha'
     |true=>
      simp only[hq,cT,Sum.inl.injEq]at ha';subst ha';refine⟨?_,b2b hi,by simp;omega⟩;simp only[a6k,dlt hi,cT,a0d hi,oB,h1,h2,a02,tN,b9D ht hcs h0,a7Y,hq,bT,cF,h3,a0c (a23 hi hs),a09]
    ·intro b hb;unfold b7x at hb;cases hq:a0b (W (l[i]-a7y c s (l.take i)))with
     |true=>simp[hq]at hb
     |false=>
      simp only[hq,cF,Sum.inr.injEq]at hb;subst hb;simp only[a6k,dlt hi,cT,a0d hi,oB,h1,h2,a02,tN,b9D ht hcs h0,a7Y,hq,a05])
   (fun acc hacc=>by simp[a6k])
  rw[this,b9Q];cases b1z (a7y c s) (l.drop c.length) (l.take c.length)<;>rfl
theorem b5i{l c:List Int}{s:Int}(hl:a6r c s=true)(hc:c.length≤l.length)(hr:l.length<100000):
  a8o (l,c,s)=some (a1J (b1A l c s)):=by
 have hs:short l:=by unfold short;omega
 have hcs:short c:=by unfold short;omega
 have e1:decide (((l.length:Nat):Int)<((c.length:Nat):Int))=false:=by simp;omega
 unfold a8o b1A;simp only[a6s hcs,hl,oB,bT,cF,e1,a0A hs];cases hw:l.all a0b with
 |false=>rfl
 |true=>
  simp only[bT,cF,cT]
  have:=b7y (f:=a6w) l c.length hc (fun i acc=>(l,c,s,(i:Int),acc,())) (c2p (a7y c s)) (fun acc=>(acc,()))
   (fun i hi acc hki hacc=>by
    have ht:short (l.take i):=by unfold short;rw[a04];omega
    have h1:decide ((0:Int)≤(i:Int))=true:=by simp
    have h2:decide ((i:Int)≤((l.length:Nat):Int))=true:=by simp;omega
    have h3:lim (acc.length+1)=true:=a0q (by omega);refine⟨fun a' ha'=>?_,fun b hb=>by cases hb⟩;simp only[c2p,Sum.inl.injEq]at ha';subst ha';refine⟨?_,b2b hi,by simp;omega⟩;simp only[a6w,dlt hi,cT,a0d hi,oB,h1,h2,a02,tN,b4C ht hcs (a8z hw i) hl,h3,a0c (a23 hi hs),a09])
   (fun acc hacc=>by simp[a6w])
  rw[this,b9R];have hsr:short (a4T (a7y c s) (l.drop c.length) (l.take c.length)):=by unfold short;rw[a9T,a07];omega
  simp only[oB,a16,a0A hsr,b1z];cases (a4T (a7y c s) (l.drop c.length) (l.take c.length)).all a0b<;>rfl
theorem b9T{l c r:List Int}{s:Int}(h:b1A l c s=some r):b2X (l.take c.length) r c s=some l∧r.all a0b=true∧r.length=l.length-c.length:=by
 unfold b1A at h;cases hw:l.all a0b with
 |false=>simp[hw]at h
 |true=>
  simp only[hw,cT]at h;obtain⟨e,hr⟩:=c5s h;refine⟨?_,hr,by rw[e,a9T,a07]⟩;simp only[b2X,a8z hw,hr,a02,cT];rw[e,b9P _ _ _ (b9S hw _),List.take_append_drop]
def b3h(l:List Int)(lag:Int)(t:List Int):Option (List Int):=bif l.all a0b then b1z (a5o lag t) l []else none
theorem c9u{l t:List Int}{lag:Int}(hl:a7H lag t=true)(ht:t.length=3)(hr:l.length<100000):
  a8X (l,lag,t)=some (a1J (b3h l lag t)):=by
 have hs:short l:=by unfold short;omega
 obtain⟨h1,h2⟩:2≤lag∧lag≤1024:=by simp only[a7H,bA,dT]at hl;omega
 unfold a8X b3h;simp only[b8e ht,hl,oB,bT,cF,b7n hs];cases hw:l.all a0b with
 |false=>rfl
 |true=>
  have e3:decide ((0:Int)≤((l.length:Nat):Int))=true:=by simp
  have e4:lim l.length=true:=a0q (by omega);simp only[bT,cF,cT,e3,tN,e4,a02]
  have:=b7y (f:=a7S) l 0 (Nat.zero_le _) (fun i acc=>(l,lag,l,(l.length:Int),(i:Int),acc,t,())) (b7x (a5o lag t) (.inr ((6:Int),([]:List Int),()))) (fun acc=>.inl (acc,()))
   (fun i hi acc hki hacc=>by
    have h3:lim (acc.length+1)=true:=a0q (by omega);have hp:=b7p (lag:=lag) (t:=t) (a71 hi) hs ht h1 h2;constructor
    ·intro a' ha';unfold b7x at ha';cases hq:a0b (W (l[i]-a5o lag t (l.take i)))with
     |false=>simp[hq]at ha'
     |true=>
      simp only[hq,cT,Sum.inl.injEq]at ha';subst ha';refine⟨?_,b2b hi,by simp;omega⟩;simp only[a7S,dlt hi,cT,a0d hi,oB,hp,a9M,hq,bT,cF,h3,a0c (a23 hi hs),a09]
    ·intro b hb;unfold b7x at hb;cases hq:a0b (W (l[i]-a5o lag t (l.take i)))with
     |true=>simp[hq]at hb
     |false=>
      simp only[hq,cF,Sum.inr.injEq]at hb;subst hb;simp only[a7S,dlt hi,cT,a0d hi,oB,hp,a9M,hq,a05])
   (fun acc hacc=>by simp[a7S])
  simp only[nZ]at this;rw[this,b9Q,a08,a47];cases b1z (a5o lag t) l []<;>rfl
theorem c5t{l t:List Int}{lag:Int}(hl:a7H lag t=true)(ht:t.length=3)(hr:l.length<100000):
  a6e (l,lag,t)=some (a1J (b3h l lag t)):=by
 have hs:short l:=by unfold short;omega
 obtain⟨h1,h2⟩:2≤lag∧lag≤1024:=by simp only[a7H,bA,dT]at hl;omega
 unfold a6e b3h;simp only[b3G ht,hl,oB,bT,cF,a0A hs];cases hw:l.all a0b with
 |false=>rfl
 |true=>
  simp only[bT,cF,cT]
  have:=b7y (f:=a7E) l 0 (Nat.zero_le _) (fun i acc=>(l,lag,(i:Int),acc,t,())) (c2p (a5o lag t)) (fun acc=>(acc,()))
   (fun i hi acc hki hacc=>by
    have hti:short (l.take i):=by unfold short;rw[a04];omega
    have hp:=b6A (out:=l.take i) (lag:=lag) (t:=t) hti ht h1 h2;have h4:decide ((0:Int)≤(i:Int))=true:=by simp
    have h5:decide ((i:Int)≤((l.length:Nat):Int))=true:=by simp;omega
    have h3:lim (acc.length+1)=true:=a0q (by omega);refine⟨fun a' ha'=>?_,fun b hb=>by cases hb⟩;simp only[c2p,Sum.inl.injEq]at ha';subst ha';refine⟨?_,b2b hi,by simp;omega⟩;simp only[a7E,dlt hi,cT,a0d hi,oB,h4,h5,a02,tN,hp,h3,a0c (a23 hi hs),a09])
   (fun acc hacc=>by simp[a7E])
  simp only[nZ]at this;rw[this,b9R,a08,a47];have hsr:short (a4T (a5o lag t) l []):=by unfold short;rw[a9T];omega
  simp only[oB,a16,a0A hsr,b1z];cases (a4T (a5o lag t) l []).all a0b<;>rfl
theorem b7z{l t r:List Int}{lag:Int}(h:b3h l lag t=some r):b2Y r lag t=some l∧r.all a0b=true∧r.length=l.length:=by
 unfold b3h at h;cases hw:l.all a0b with
 |false=>simp[hw]at h
 |true=>
  simp only[hw,cT]at h;obtain⟨e,hr⟩:=c5s h;refine⟨?_,hr,by rw[e,a9T]⟩;simp only[b2Y,hr,cT];rw[e,b9P _ _ _ hw,a16]
end Go.Ab
namespace Go.Ab
def rsG:List Int→Fil→List Int
 | [],_=>[]
 |x::r,f=>W (x-a0J f)::rsG r (b0w f x)
theorem b5E:∀r f,(rsG r f).length=r.length
 | [],_=>rfl
 |x::r,f=>by simp[rsG,b5E r]
def rsO:List Int→List Int→Fil→Option (List Int)
 | [],done,_=>some done
 |x::r,done,f=>bif a0b (W (x-a0J f))then rsO r (done++[W (x-a0J f)]) (b0w f x)else none
theorem c9v:∀(r done:List Int)(f:Fil),rsO r done f=bif (rsG r f).all a0b then some (done++rsG r f)else none
 | [],done,f=>by simp[rsO,rsG]
 |x::r,done,f=>by
  simp only[rsO,rsG,a22];cases a0b (W (x-a0J f))with
  |false=>rfl
  |true=>simp only[cT,a25,c9v r,aA,a46]
theorem d1c:∀(r z:List Int)(f:Fil),r.all a0b=true→stO (rsG r f) z f=some (z++r)
 | [],z,f,_=>by simp[rsG,stO]
 |x::r,z,f,h=>by
  rw[a22,bA]at h;have e:W (a0J f+W (x-a0J f))=x:=by rw[Int.add_comm];exact d4f h.1
  simp only[rsG,stO,e,h.1,cT,d1c r _ _ h.2,aA,a46]
theorem b7A{row:List Int}{a:List Stg}{b c:Int}(hs:short row):∀(k i:Nat)(done:List Int)(f:Fil),i+k=row.length→done.length=i→FilOk f→
  a0e a6X (a,b,c,(row.length:Int),(i:Int),done++row.drop i,f,())=some (match rsO (row.drop i) done f with
   |some r=>.inl (a,b,c,r,())
   |none=>.inr ((6:Int),([]:List Int),()))
 |0,i,done,f,h,hd,hf=>by
  obtain rfl:i=row.length:=by omega
  rw[a18,a21];exact a0j (b:=Sum.inl (a,b,c,done,())) (by simp[a6X])
 |k+1,i,done,f,h,hd,hf=>by
  have hi:i<row.length:=by omega
  have hs':row.length<1000000:=hs;have h0:decide ((0:Int)≤(i:Int))=true:=by simp
  have hl:(done++row.drop i).length=row.length:=by simp;omega
  have h1:decide ((i:Int)<(((done++row.drop i).length:Nat):Int))=true:=by rw[hl];simp;omega
  have hst:rsO (row.drop i) done f=bif a0b (W (row[i]-a0J f))then rsO (row.drop (i+1)) (done++[W (row[i]-a0J f)]) (b0w f row[i])else none:=by
   rw[a01 hi];rfl
  rw[hst];cases hw:a0b (W (row[i]-a0J f))with
  |true=>
   rw[a0p (s':=(a,b,c,(row.length:Int),((i+1:Nat):Int),(done++[W (row[i]-a0J f)])++row.drop (i+1),b0w f row[i],())) (by
    simp only[a6X,dlt hi,h0,h1,cT,a02,a7Z hf,oB,tN,a9P hd hi,a6M,hw,bT,cF,c0q hf,b9G hd hi,a0c (show i<1000000 by omega)])]
   exact b7A hs k (i+1) _ _ (by omega) (by simp;omega) (b9F hf _)
  |false=>
   exact a0j (by
    simp only[a6X,dlt hi,h0,h1,cT,a02,a7Z hf,oB,tN,a9P hd hi,a6M,hw,a05];rfl)
theorem c0x{row:List Int}{a:List Stg}{b:Int}(hs:short row):∀(k i:Nat)(done:List Int)(f:Fil),i+k=row.length→done.length=i→FilOk f→
  a0e a7j (a,b,(i:Int),done++row.drop i,f,())=some (a,b,done++rsG (row.drop i) f,())
 |0,i,done,f,h,hd,hf=>by
  obtain rfl:i=row.length:=by omega
  rw[a18,a21];have hl:done.length=row.length:=hd;exact a0j (by rw[←hl];simp[a7j,rsG])
 |k+1,i,done,f,h,hd,hf=>by
  have hi:i<row.length:=by omega
  have hs':row.length<1000000:=hs;have h0:decide ((0:Int)≤(i:Int))=true:=by simp
  have hl:(done++row.drop i).length=row.length:=by simp;omega
  have h1:decide ((i:Int)<(((done++row.drop i).length:Nat):Int))=true:=by rw[hl];simp;omega
  rw[a0p (s':=(a,b,((i+1:Nat):Int),(done++[W (row[i]-a0J f)])++row.drop (i+1),b0w f row[i],())) (by
    simp only[a7j,h0,h1,cT,a02,b2Z hf,oB,tN,a9P hd hi,c3e hf,b9G hd hi,a0c (show i<1000000 by omega)]),
   c0x hs k (i+1) _ _ (by omega) (by simp;omega) (b9F hf _),a01 hi]
  simp only[rsG,aA,a46]
def lRO:List Stg→List Int→Option (List Int)
 | [],row=>some row
 |s::r,row=>match rsO row [] (a7z s)with
  |some row'=>lRO r row'
  |none=>none
theorem c9w{row d:List Int}{f:Fil}(h:rsO row [] f=some d):d=rsG row f∧d.all a0b=true:=by
 rw[c9v]at h;cases hc:(rsG row f).all a0b with
 |true=>simp only[hc,cT,a16,sj]at h;subst h;exact⟨rfl,hc⟩
 |false=>simp[hc]at h
theorem c7l:∀(a b:List Stg)(row:List Int),lO (a++b) row=match lO a row with|some r=>lO b r|none=>none
 | [],b,row=>rfl
 |s::a,b,row=>by
  simp only[a98,lO];split;exact c7l a b _;rfl
theorem c9x:∀(st:List Stg)(row d:List Int),row.all a0b=true→lRO st row=some d→lO st.reverse d=some row∧d.all a0b=true∧d.length=row.length
 | [],row,d,hw,h=>by
  simp only[lRO,sj]at h;subst h;exact⟨rfl,hw,rfl⟩
 |s::st,row,d,hw,h=>by
  simp only[lRO]at h
  split at h
  rename_i row' hr;obtain⟨e,hw'⟩:=c9w hr;obtain⟨h1,h2,h3⟩:=c9x st row' d hw' h;refine⟨?_,h2,by rw[h3,e,b5E]⟩;rw[List.reverse_cons,c7l,h1];simp only[lO];rw[e,d1c row [] _ hw,a16];cases h
theorem b5j{st:List Stg}(hst:∀s∈st,a3G s=true)(hl:st.length≤3):∀(j k:Nat)(row:List Int),k+j=st.length→short row→
  a0e a6Y (st,(st.length:Int),(k:Int),row,())=some (match lRO (st.drop k) row with
   |some r=>.inl (r,())
   |none=>.inr ((6:Int),([]:List Int),()))
 |0,k,row,h,hs=>by
  obtain rfl:k=st.length:=by omega
  rw[a18];exact a0j (by simp[a6Y,lRO])
 |j+1,k,row,h,hs=>by
  have hk:k<st.length:=by omega
  have hstage:=hst _ (a06 hk);have h1:=b7A (a:=st) (b:=(st.length:Int)) (c:=(k:Int)) hs row.length 0 [] (a7z st[k]) (by omega) rfl (c2n hstage);simp only[nZ,a08,a16]at h1;have hne:((0:Int) != 0)=false:=rfl;rw[a01 hk];simp only[lRO];cases hr:rsO row [] (a7z st[k])with
  |some r=>
   rw[hr]at h1;rw[a0p (s':=(st,(st.length:Int),((k+1:Nat):Int),r,())) (by simp only[a6Y,dlt hk,cT,a0d hk,oB,b6C hstage,hne,cF,h1,a0c (show k<1000000 by omega)])];exact b5j hst hl j (k+1) r (by omega) (by have:=(c9w hr).1;unfold short at hs⊢;rw[this,b5E];exact hs)
  |none=>
   rw[hr]at h1;exact a0j (by simp only[a6Y,dlt hk,cT,a0d hk,oB,b6C hstage,hne,cF,h1])
theorem b7B{st:List Stg}(hst:∀s∈st,a3G s=true)(hl:st.length≤3):∀(j k:Nat)(row:List Int),k+j=st.length→short row→
  a0e a5c (st,(k:Int),row,())=some (match lRO (st.drop k) row with
   |some r=>.inl (r,())
   |none=>.inr ((6:Int),([]:List Int),()))
 |0,k,row,h,hs=>by
  obtain rfl:k=st.length:=by omega
  rw[a18];exact a0j (by simp[a5c,lRO])
 |j+1,k,row,h,hs=>by
  have hk:k<st.length:=by omega
  have hstage:=hst _ (a06 hk);have h1:=c0x (a:=st) (b:=(k:Int)) hs row.length 0 [] (a7z st[k]) (by omega) rfl (c2n hstage);simp only[nZ,a08,a16]at h1;have hsr:short (rsG row (a7z st[k])):=by unfold short;rw[b5E];exact hs
  rw[a01 hk];simp only[lRO,c9v,a16];cases hr:(rsG row (a7z st[k])).all a0b with
  |true=>
   rw[a0p (s':=(st,((k+1:Nat):Int),rsG row (a7z st[k]),())) (by simp only[a5c,dlt hk,cT,a0d hk,oB,a8u hstage,h1,a0A hsr,hr,bT,cF,a0c (show k<1000000 by omega)])];exact b7B hst hl j (k+1) _ (by omega) hsr
  |false=>
   exact a0j (by simp only[a5c,dlt hk,cT,a0d hk,oB,a8u hstage,h1,a0A hsr,hr,a05];rfl)
def b0y(l:List Int)(st:List Stg):Option (List Int):=bif l.all a0b then lRO st l else none
theorem c7M{l:List Int}{st:List Stg}(hl:a5G st=true)(hr:l.length<100000):b2x (l,st)=some (a1J (b0y l st)):=by
 have hl':=hl;simp only[a5G,bA,dT]at hl';have hss:short st:=by unfold short;omega
 have hsr:short l:=by unfold short;omega
 unfold b2x b0y;simp only[b6z hss,hl,oB,bT,cF,b6y hsr];cases hw:l.all a0b with
 |false=>rfl
 |true=>
  have:=b5j (lA.1 hl'.2) hl'.1 st.length 0 l (by omega) hsr
  simp only[nZ,a08]at this;simp only[bT,cF,cT,a8t hsr,oB,this];cases lRO st l<;>rfl
theorem c3S{l:List Int}{st:List Stg}(hl:a5G st=true)(hr:l.length<100000):a9o (l,st)=some (a1J (b0y l st)):=by
 have hl':=hl;simp only[a5G,bA,dT]at hl';have hss:short st:=by unfold short;omega
 have hsr:short l:=by unfold short;omega
 have hlm:lim (0+l.length)=true:=a0q (by omega);unfold a9o b0y;simp only[b2W hss,hl,oB,bT,cF,a0A hsr];cases hw:l.all a0b with
 |false=>rfl
 |true=>
  have:=b7B (lA.1 hl'.2) hl'.1 st.length 0 l (by omega) hsr
  simp only[nZ,a08]at this;simp only[bT,cF,cT,hlm,oB,a09,a16,this];cases lRO st l<;>rfl
theorem c5u{l r:List Int}{st:List Stg}(h:b0y l st=some r):b0Y r st=some l∧r.all a0b=true∧r.length=l.length:=by
 unfold b0y at h;cases hw:l.all a0b with
 |false=>simp[hw]at h
 |true=>
  simp only[hw,cT]at h;obtain⟨h1,h2,h3⟩:=c9x st l r hw h;exact⟨by simp only[b0Y,h2,cT,h1],h2,h3⟩
end Go.Ab
namespace Go.Ab
open IntKind(wrap)
theorem p64{w:Nat}(h:w≤64):((2^w:Nat):Int) ∣ 18446744073709551616:=a34.2 (a76 2 h)
theorem d7J(n:Int):∃q,wrap .i64 n=n+18446744073709551616*q:=by
 rw[a8f,Int.bmod];split;exact⟨-(n / 18446744073709551616),by omega⟩;exact⟨-(n / 18446744073709551616)-1,by omega⟩
theorem d5g{w:Nat}(h:w≤64)(n:Int):((2^w:Nat):Int) ∣ wrap .i64 n↔((2^w:Nat):Int) ∣ n:=by
 obtain⟨q,hq⟩:=d7J n;rw[hq];exact a70 (a55 (p64 h))
theorem c7m{w:Nat}(h:w≤64)(a:Int):2^w ∣ (a19 64 a).toNat↔((2^w:Nat):Int) ∣ a:=by
 have e:(((a19 64 a).toNat:Nat):Int)=a+18446744073709551616*-(a / 18446744073709551616):=by
  rw[a91]
  have:((2^64:Nat):Int)=18446744073709551616:=rfl
  rw[this];omega
 rw[←a34,e];exact a70 (a55 (p64 h))
theorem d2O(w x y:Nat):2^w ∣ (x ||| y)↔2^w ∣ x∧2^w ∣ y:=by
 rw[a56,a56,a56,Nat.or_mod_two_pow];exact Nat.or_eq_zero_iff
theorem d7K{w:Nat}(h:w≤64)(a b:Int):((2^w:Nat):Int) ∣ bits .i64 .or a b↔((2^w:Nat):Int) ∣ a∧((2^w:Nat):Int) ∣ b:=by
 show((2^w:Nat):Int) ∣ wrap .i64 ((((a19 64 a) ||| (a19 64 b)).toNat:Nat):Int)↔_;rw[d5g h,a34,BitVec.toNat_or,d2O,c7m h,c7m h]
def orI(l:List Int)(a:Int):Int:=l.foldl (fun a x=>bits .i64 .or a x) a
theorem b5K{w:Nat}(h:w≤64):∀(l:List Int)(a:Int),((2^w:Nat):Int) ∣ orI l a↔((2^w:Nat):Int) ∣ a∧∀x∈l,((2^w:Nat):Int) ∣ x
 | [],a=>by simp[orI]
 |x::l,a=>by
  show((2^w:Nat):Int) ∣ orI l (bits .i64 .or a x)↔_;rw[b5K h l,d7K h];simp only[mC,forall_eq_or_imp,and_assoc]
theorem c3T:∀(l:List Int),(∀x∈l,x=0)→orI l 0=0
 | [],_=>rfl
 |x::l,h=>by
  have hx:=h x (a62);subst hx;show orI l (bits .i64 .or 0 0)=0;rw[show bits .i64 .or 0 0=0 from by decide];exact c3T l fun y hy=>h y (a84 _ hy)
theorem d4g{l:List Int}(hw:l.all a0b=true)(h:∃x∈l,x≠0):orI l 0≠0:=by
 intro e;obtain⟨x,hx,hne⟩:=h;have hd:=((b5K (w:=62) (by omega) l 0).1 (by rw[e];exact a72 _)).2 x hx;have hwx:=a3F.1 (lA.1 hw x hx);have e62:((2^62:Nat):Int)=4611686018427387904:=rfl;rw[e62]at hd;omega
def a9c(l:List Int)(w:Nat):Prop:=
 ((∀x∈l,x=0)∧w=0)∨((∃x∈l,x≠0)∧w≤30∧(∀x∈l,((2^w:Nat):Int) ∣ x)∧(w=30∨∃x∈l,¬ ((2^(w+1):Nat):Int) ∣ x))
theorem d2P{v w:Nat}(h:v≤w){x:Int}(hx:((2^w:Nat):Int) ∣ x):((2^v:Nat):Int) ∣ x:=
 Int.dvd_trans (a34.2 (a76 2 h)) hx
theorem a9c.unique{l:List Int}{v w:Nat}(hv:a9c l v)(hw:a9c l w):v=w:=by
 have key:∀{v w:Nat},v≤30→w≤30→(∀x∈l,((2^w:Nat):Int) ∣ x)→(v=30∨∃x∈l,¬ ((2^(v+1):Nat):Int) ∣ x)→w≤v:=by
  intro v w h30 h30' h1 h2;rcases h2 with h2|⟨x,hx,h2⟩;omega;exact b01 fun hlt=>h2 (d2P (show v+1≤w by omega) (h1 x hx))
 rcases hv with⟨h0,hv⟩|⟨⟨x,hx,hne⟩,hv1,hv2,hv3⟩;rcases hw with⟨-,hw⟩|⟨⟨x,hx,hne⟩,-⟩;omega;exact absurd (h0 x hx) hne;rcases hw with⟨h0,-⟩|⟨-,hw1,hw2,hw3⟩;exact absurd (h0 x hx) hne;exact Nat.le_antisymm (key hw1 hv1 hv2 hw3) (key hv1 hw1 hw2 hv3)
theorem c9y:∀(n N:Nat),N≤n→0<N→∃k m,N=2^k*(2*m+1)
 |0,N,h,h0=>absurd h0 (by omega)
 |n+1,N,h,h0=>by
  by_cases he:N%2=0
  obtain⟨k,m,e⟩:=c9y n (N / 2) (by omega) (by omega);refine⟨k+1,m,?_⟩;rw[a94,a93 (2^k) 2,Nat.mul_assoc,←e];omega;exact⟨0,N / 2,by omega⟩
theorem d6Z{k m:Nat}(h:2^k*(2*m+1)<2^64):(2^k*(2*m+1)) &&& (2^64-2^k*(2*m+1))=2^k:=by
 have hp:1≤2^k:=a90;have hk:k<64:=by
  refine b02 fun hge=>?_
  have h1:2^64≤2^k:=a26 (by decide) hge;have h2:2^k*1≤2^k*(2*m+1):=Nat.mul_le_mul_left _ (by omega);omega
 have e:2^k*(2*m+1)=(2^k*(2*m)+(2^k-1))+1:=by rw[a79];omega
 have hx:2^k*(2*m)+(2^k-1)<2^64:=by omega
 refine Nat.eq_of_testBit_eq fun i=>?_
 have e2:(2^64-2^k*(2*m+1)).testBit i=(decide (i<64)&&!(2^k*(2*m)+(2^k-1)).testBit i):=by
  rw[e];exact Nat.testBit_two_pow_sub_succ hx i
 have e1:=a60 (2*m+1) (b:=0) (i:=k) (by omega) i;rw[a52]at e1;have e3:=a60 (2*m) (b:=2^k-1) (i:=k) (by omega) i;rw[Nat.testBit_and,e2,e1,e3,Nat.testBit_two_pow]
 by_cases h1:i<k
 have:¬ k=i:=by omega
 simp[h1,this]
 by_cases h2:k=i
 subst h2;simp[hk,Nat.testBit_zero];obtain⟨j,rfl⟩:∃j,i=k+(j+1):=⟨i-k-1,by omega⟩;have s1:k+(j+1)-k=j+1:=by omega
 have s2:(2*m+1) / 2=m:=by omega
 have s3:2*m / 2=m:=by omega
 simp only[h1,h2,if_false,s1,Nat.testBit_succ,s2,s3,decide_false];cases m.testBit j<;>simp
theorem d5h:∀k:Nat,k<64→b3T[(2^k*285870213051353865)%18446744073709551616 / 288230376151711744]?=some (k:Int):=by
 have h:∀k:Fin 64,b3T[(2^k.val*285870213051353865)%18446744073709551616 / 288230376151711744]?=some (k.val:Int):=by decide
 exact fun k hk=>h ⟨k,hk⟩
theorem d0z{k m:Nat}:¬ 2^(k+1) ∣ 2^k*(2*m+1):=by
 rintro⟨c,hc⟩
 rw[a94,Nat.mul_assoc]at hc
 have:=Nat.eq_of_mul_eq_mul_left (a29 k) hc
 omega
theorem d5i{N:Nat}(h0:0<N)(h:N<18446744073709551616):∃k:Nat,a2m (N:Int)=some (k:Int)∧2^k ∣ N∧¬ 2^(k+1) ∣ N:=by
 obtain⟨k,m,e⟩:=c9y N N (a42 _) h0;have h2:2^k≤N:=by rw[e];exact Nat.le_mul_of_pos_right _ (by omega)
 have hk:k<64:=by
  refine b02 fun hge=>?_
  have h1:2^64≤2^k:=a26 (by decide) hge;omega
 refine⟨k,?_,⟨_,e⟩,e▸d0z⟩;have hb:bits .u64 .and (N:Int) (wrap .u64 (0-(N:Int)))=((2^k:Nat):Int):=by
  have e1:wrap .u64 (0-(N:Int))=((18446744073709551616-N:Nat):Int):=by
   have:wrap .u64 (0-(N:Int))=(0-(N:Int))%18446744073709551616:=by simp[wrap,IntKind.bits,IntKind.signed]
   rw[this];omega
  rw[e1];show wrap .u64 (((a19 64 (N:Int)) &&& (a19 64 ((18446744073709551616-N:Nat):Int))).toNat:Int)=_;rw[a39,a39,a69,a44,a44,a49 h,a49 (by omega)]
  have:=d6Z (k:=k) (m:=m) (by rw[←e];exact h)
  rw[←e]at this;rw[show(18446744073709551616:Nat)=2^64 from rfl,this];exact a1p (by omega)
 have hx:((N:Int)==0)=false:=by simp only[beq_eq_false_iff_ne,ne_eq];omega
 unfold a2m;rw[hb,hx,cF];have e2:wrap .u64 (((2^k:Nat):Int)*285870213051353865)=(((2^k*285870213051353865)%18446744073709551616:Nat):Int):=by
  have:wrap .u64 (((2^k:Nat):Int)*285870213051353865)=(((2^k:Nat):Int)*285870213051353865)%18446744073709551616:=by simp[wrap,IntKind.bits,IntKind.signed]
  rw[this];omega
 have hg:=d5h k hk;generalize (2^k*285870213051353865)%18446744073709551616=M at e2 hg;have e3:=a8g (N:=M) (o:=58) (by omega);rw[e2,show(58:Int)=((58:Nat):Int)from rfl,e3,show 2^58=288230376151711744 from rfl];generalize M / 288230376151711744=J at hg;obtain⟨hi,hv⟩:=lS.1 hg;rw[a0d hi,hv];simp only[oB,a0k (show -9223372036854775808≤(k:Int)∧(k:Int)≤9223372036854775807 by omega)]
theorem d7L(y:Int):bits .i64 .and y 1=y%2:=by
 have h:((a19 64 y) &&& (a19 64 1)).toNat=(y%18446744073709551616).toNat%2:=by
  rw[a69,a91];have e:(a19 64 1).toNat=2^1-1:=by decide
  rw[e,a58];rfl
 show wrap .i64 ((((a19 64 y) &&& (a19 64 1)).toNat:Nat):Int)=_;rw[h,a0k (by omega)];omega
theorem c9z{n:Nat}(hn:n≤62)(c:Int):a0l .i64 (((2^n:Nat):Int)*c) (n:Int)=c:=by
 have hp:0<2^n:=a29 n;have e:min (a43 (n:Int)) (IntKind.bits .i64)=n:=by simp only[tN,IntKind.bits];omega
 have ep:((2^n:Nat):Int)=2^n:=by simp
 unfold a0l;rw[e,ep];exact a68 _ (by omega)
theorem b7C{a:Int}(h0:a≠0):∀(k n:Nat),n+k=30→((2^n:Nat):Int) ∣ a→
  ∃r:Nat,a0e a6d (a,(n:Int),())=some ((r:Int),())∧r≤30∧((2^r:Nat):Int) ∣ a∧(r=30∨¬ ((2^(r+1):Nat):Int) ∣ a)
 |0,n,h,hd=>by
  obtain rfl:n=30:=by omega
  exact⟨30,a0j (by simp[a6d,h0]),by omega,hd,.inl rfl⟩
 |k+1,n,h,hd=>by
  have h0':(a != 0)=true:=by simp[h0]
  have hlt:decide ((n:Int)<30)=true:=by simp;omega
  have hwr:wrap .u64 (n:Int)=(n:Int):=a1p (by omega);have hnn:decide ((n:Int)<0)=false:=by simp
  have hws:wrap .i64 ((n:Int)+1)=((n+1:Nat):Int):=a0c (by omega);obtain⟨c,hc⟩:=hd;have hg:a0l .i64 a (n:Int)=c:=by rw[hc];exact c9z (by omega) c
  have hdvd:((2^(n+1):Nat):Int) ∣ a↔c%2=0:=by
   have e2:((2^(n+1):Nat):Int)=((2^n:Nat):Int)*2:=by rw[a94];simp
   rw[e2,hc];have hp:((2^n:Nat):Int)≠0:=by have:=a29 n;omega
   rw[Int.mul_dvd_mul_iff_left hp];omega
  by_cases h2:c%2=0
  have hb:(bits .i64 .and c 1==0)=true:=by rw[d7L,h2];rfl
  obtain⟨r,h3,h4⟩:=b7C h0 k (n+1) (by omega) (hdvd.2 h2);refine⟨r,?_,h4⟩;rw[a0p (s':=(a,((n+1:Nat):Int),())) (by simp only[a6d,h0',cT,hlt,hwr,hnn,cF,hg,hb,hws])];exact h3;have hb:(bits .i64 .and c 1==0)=false:=by rw[d7L];simp only[beq_eq_false_iff_ne,ne_eq];exact h2
  exact⟨n,a0j (by simp only[a6d,h0',cT,hlt,hwr,hnn,cF,hg,hb]),by omega,⟨c,hc⟩,.inr fun hh=>h2 (hdvd.1 hh)⟩
theorem d1d{l:List Int}(hs:short l):∀(k i:Nat)(a:Int),i+k=l.length→a0e a6T (a,l,(l.length:Int),(i:Int),())=some (orI (l.drop i) a,())
 |0,i,a,h=>by
  obtain rfl:i=l.length:=by omega
  rw[a18];exact a0j (by simp[a6T,orI])
 |k+1,i,a,h=>by
  have hi:i<l.length:=by omega
  have hs':l.length<1000000:=hs;rw[a01 hi,a0p (s':=(bits .i64 .or a l[i],l,(l.length:Int),((i+1:Nat):Int),())) (by
   simp only[a6T,dlt hi,cT,a0d hi,oB,a0c (show i<1000000 by omega)])]
  exact d1d hs k (i+1) _ (by omega)
theorem c3m{l:List Int}(hs:short l):∀(k i:Nat)(a:Int),i+k=l.length→a0e b0l (l,a,(i:Int),())=some (orI (l.drop i) a,())
 |0,i,a,h=>by
  obtain rfl:i=l.length:=by omega
  rw[a18];exact a0j (by simp[b0l,orI])
 |k+1,i,a,h=>by
  have hi:i<l.length:=by omega
  have hs':l.length<1000000:=hs;rw[a01 hi,a0p (s':=(l,bits .i64 .or a l[i],((i+1:Nat):Int),())) (by
   simp only[b0l,dlt hi,cT,a0d hi,oB,a0c (show i<1000000 by omega)])]
  exact c3m hs k (i+1) _ (by omega)
theorem c3n{l:List Int}{r:Nat}(hr:r≤30)(h:r=30∨¬ ((2^(r+1):Nat):Int) ∣ orI l 0):r=30∨∃x∈l,¬ ((2^(r+1):Nat):Int) ∣ x:=by
 rcases h with h|h;exact .inl h;refine .inr (Classical.byContradiction fun hc=>h ((b5K (by omega) l 0).2 ⟨a72 _,fun x hx=>Classical.byContradiction fun hn=>hc ⟨x,hx,hn⟩⟩))
theorem c7N{l:List Int}(hs:short l)(hw:l.all a0b=true):∃w:Nat,a7x l=some (w:Int)∧w≤30∧a9c l w:=by
 have h1:=c3m hs l.length 0 0 (by omega);simp only[nZ,a08]at h1;unfold a7x;simp only[h1,oB]
 by_cases hz:∀x∈l,x=0
 have e:=c3T l hz;exact⟨0,by rw[e,a0j (b:=((0:Int),())) (by simp[a6d])];rfl,by omega,.inl ⟨hz,rfl⟩⟩;have hx:∃x∈l,x≠0:=Classical.byContradiction fun hc=>hz fun x hx=>Classical.byContradiction fun hn=>hc ⟨x,hx,hn⟩;obtain⟨r,h2,h3,h4,h5⟩:=b7C (d4g hw hx) 30 0 (by omega) (by simp);rw[nZ]at h2;exact⟨r,by rw[h2];rfl,h3,.inr ⟨hx,h3,((b5K (by omega) l 0).1 h4).2,c3n h3 h5⟩⟩
theorem c3U{l:List Int}(hs:short l)(hw:l.all a0b=true):∃w:Nat,a5i l=some (w:Int)∧w≤30∧a9c l w:=by
 have h1:=d1d hs l.length 0 0 (by omega);simp only[nZ,a08]at h1;unfold a5i;simp only[h1,oB]
 by_cases hz:∀x∈l,x=0
 have e:=c3T l hz;exact⟨0,by rw[e];rfl,by omega,.inl ⟨hz,rfl⟩⟩;have hx:∃x∈l,x≠0:=Classical.byContradiction fun hc=>hz fun x hx=>Classical.byContradiction fun hn=>hc ⟨x,hx,hn⟩;have hne:=d4g hw hx;have he:(orI l 0==0)=false:=by simpa using hne
 obtain⟨q,hq⟩:∃q,wrap .u64 (orI l 0)=orI l 0+18446744073709551616*q:=⟨-(orI l 0 / 18446744073709551616),by
  have:wrap .u64 (orI l 0)=orI l 0%18446744073709551616:=by simp[wrap,IntKind.bits,IntKind.signed]
  rw[this];omega⟩
 obtain⟨r1,r2⟩:=c3k (orI l 0);obtain⟨N,hN⟩:=a03 r1;have hdN:∀v,v≤64→(2^v ∣ N↔((2^v:Nat):Int) ∣ orI l 0):=fun v hv=>by
  rw[←a34,←hN,hq];exact a70 (a55 (p64 hv))
 have hN0:0<N:=by
  refine Nat.pos_of_ne_zero fun e0=>?_
  obtain⟨x,hxl,hx0⟩:=hx;have hd:=((b5K (w:=62) (by omega) l 0).1 ((hdN 62 (by omega)).1 (by rw[e0];exact Nat.dvd_zero _))).2 x hxl;have hwx:=a3F.1 (lA.1 hw x hxl);rw[show((2^62:Nat):Int)=4611686018427387904 from rfl]at hd;omega
 obtain⟨k,hk,hk1,hk2⟩:=d5i hN0 (by omega);have hk64:k≤63:=by
  refine b01 fun hgt=>?_
  have h1:2^64≤2^k:=a26 (by decide) (by omega)
  have:=Nat.le_of_dvd hN0 hk1
  omega
 simp only[he,cF,hN,hk,oB];have em:a2v (k:Int) 30=((min k 30:Nat):Int):=by rw[c6i];omega
 refine⟨min k 30,by rw[em],by omega,.inr ⟨hx,by omega,?_,?_⟩⟩;exact((b5K (by omega) l 0).1 ((hdN _ (by omega)).1 (Nat.dvd_trans (a76 2 (by omega)) hk1))).2;refine c3n (by omega) ?_
 by_cases hk30:30≤k
 exact .inl (by omega)
 have:min k 30=k:=by omega
 rw[this];exact .inr fun hh=>hk2 ((hdN _ (by omega)).2 hh)
theorem d7a{l:List Int}{w:Nat}(hw30:w≤30)(hw:l.all a0b=true)(h:a9c l w):b3g (w:Int) l=some (l.map fun x=>a0l .i64 x (w:Int)):=by
 have hd:∀x∈l,((2^w:Nat):Int) ∣ x:=by
  rcases h with⟨h,-⟩|⟨-,-,h,-⟩;exact fun x hx=>by rw[h x hx];exact a72 _
  exact h
 have:l.all (b4l (w:Int))=true:=by
  rw[lA];intro x hx;obtain⟨c,hc⟩:=hd x hx;have hm:a87 x (a0F .i64 1 (w:Int))=0:=by rw[d2J hw30,hc];exact Int.mul_tmod_right _ _
  simp only[b4l,lA.1 hw x hx,hm,a25];rfl
 simp only[b3g,this,cT]
end Go.Ab
namespace Go.Ab
open IntKind(wrap)
theorem c5v{k:Nat}(hk:k≤25){x:Int}(hw:a0b x=true):a6L ((k:Int),x)=some ((a3e k x:Nat):Int):=by
 have hy:=b1Q hw;have eq:a0l .u64 ((a0C x:Nat):Int) (k:Int)=((a0C x / 2^k:Nat):Int):=a8g (by omega);have ew:wrap .i64 ((a0C x / 2^k:Nat):Int)=((a0C x / 2^k:Nat):Int):=b3J (a36 (a33 _ _) hy);have eu:wrap .u64 (k:Int)=(k:Int):=a1p (by omega);have hk0:decide ((k:Int)<0)=false:=by simp
 unfold a6L a3e;simp only[b1R hk,a2P,hw,oB,bT,cF,b4k hw,eu,hk0,eq,ew];generalize a0C x / 2^k=q
 by_cases hq:q<32
 have hd:decide ((q:Int)<32)=true:=decide_eq_true (by omega);simp only[hd,cT,if_pos hq]
 grind[a0k]
 grind
def b3i(k:Nat)(l:List Int):Nat:=(l.map (a3e k)).sum
theorem b0z{k:Nat}(hk:k≤25){l:List Int}(hw:l.all a0b=true)(hl:l.length<10000):a4h ((k:Int),l)=some ((b3i k l:Nat):Int):=by
 have:=a0I (f:=a4g) (fun i:Nat=>((k:Int),l,((((l.take i).map (a3e k)).sum:Nat):Int),(i:Int),())) l.length (b:=((((l.map (a3e k)).sum:Nat):Int),()))
  (fun i hi=>by
   have hc:=c5v hk (lA.1 hw _ (a06 hi));have h1:=c5l (c3R hk) (l.take (i+1));rw[b9O hi]at h1;rw[a04]at h1;have e:wrap .i64 (((((l.take i).map (a3e k)).sum:Nat):Int)+((a3e k l[i]:Nat):Int))=((((l.take (i+1)).map (a3e k)).sum:Nat):Int):=by
    grind[b9O,a0k]
   simp only[a4g,dlt hi,cT,a0d hi,oB,hc,e,a0c (show i<1000000 by omega)])
  (by simp_all[a4g])
 unfold a4h;have e0:(((l.take 0).map (a3e k)).sum:Nat)=0:=rfl;simp_all[b3i]
def rbN(l:List Int):Nat→Nat
 |0=>0
 |i+1=>if b3i (i+1) l<b3i (rbN l i) l then i+1 else rbN l i
theorem c1U(l:List Int):∀i,rbN l i≤i
 |0=>a42 _
 |i+1=>by
  have:=c1U l i
  simp only[rbN]
  split<;>omega
theorem b9U{k:Nat}(hk:k≤25){l:List Int}(hw:l.all a0b=true)(hl:l.length<10000):a4Q ((k:Int),l)=some ((b3i k l:Nat):Int):=c3l hk hw hl
theorem d2Q{a b:Nat}(h:a<b):decide ((a:Int)<(b:Int))=true:=decide_eq_true (by omega)
theorem c2q{a b:Nat}(h:¬ a<b):decide ((a:Int)<(b:Int))=false:=decide_eq_false (by omega)
theorem c1V{l:List Int}(hw:l.all a0b=true)(hl:l.length<10000):b3Z l=some ((rbN l 25:Nat):Int):=by
 have:=a0I (f:=b0f) (fun i:Nat=>(l,((rbN l i:Nat):Int),((b3i (rbN l i) l:Nat):Int),((i+1:Nat):Int),())) 25 (b:=(((rbN l 25:Nat):Int),()))
  (fun i hi=>by
   have d0:decide (((i+1:Nat):Int)≤25)=true:=decide_eq_true (by omega);have w1:wrap .i64 (((i+1:Nat):Int)+1)=((i+1+1:Nat):Int):=a0c (by omega);have hs:=b9U (k:=i+1) (by omega) hw hl
   by_cases hlt:b3i (i+1) l<b3i (rbN l i) l
   simp_all[b0f,rbN];simp only[b0f,d0,cT,cF,hs,oB,w1,c2q hlt,rbN,hlt,if_false])
  (by
   rfl)
 have h0:=b9U (k:=0) (by omega) hw hl;have e1:((0+1:Nat):Int)=1:=rfl;have e0:rbN l 0=0:=rfl;simp_all[b3Z]
theorem b7D{l:List Int}(hw:l.all a0b=true)(hl:l.length<10000):b1s l=some ((rbN l 25:Nat):Int):=by
 have:=a0I (f:=a8q) (fun i:Nat=>(l,((rbN l i:Nat):Int),((i+1:Nat):Int),())) 25 (b:=(((rbN l 25:Nat):Int),()))
  (fun i hi=>by
   have d0:decide (((i+1:Nat):Int)≤25)=true:=decide_eq_true (by omega);have w1:wrap .i64 (((i+1:Nat):Int)+1)=((i+1+1:Nat):Int):=a0c (by omega);have hs:=b0z (k:=i+1) (by omega) hw hl;have hs2:=b0z (k:=rbN l i) (by grind[c1U]) hw hl
   by_cases hlt:b3i (i+1) l<b3i (rbN l i) l
   simp_all[a8q,rbN];simp only[a8q,d0,cT,cF,hs,hs2,oB,w1,c2q hlt,rbN,hlt,if_false])
  (by
   rfl)
 have e1:((0+1:Nat):Int)=1:=rfl;have e0:rbN l 0=0:=rfl;simp_all[b1s]
def b0A(l:List Int):Int:=if 5+a0s l*l.length<b3i (rbN l 25) l then 31 else((rbN l 25:Nat):Int)
theorem d2R(l:List Int):kB (b0A l)=true:=by
 have:=c1U l 25
 unfold b0A;split;rfl;simp only[kB,a17,bA,dT];omega
theorem c5w{l:List Int}(hw:l.all a0b=true)(hl:l.length<10000):b0g l=some (b0A l):=by
 have h1:=c1U l 25;have hs:=b9U (k:=rbN l 25) h1 hw hl;unfold b0g b0A
 by_cases hlt:5+a0s l*l.length<b3i (rbN l 25) l
 simp only[c1V hw hl,b6I hl,hs,oB,d2Q hlt,cT,hlt,if_true];simp only[c1V hw hl,b6I hl,hs,oB,c2q hlt,cF,hlt,if_false]
theorem b9V{l:List Int}(hl:l.length<10000):a3n ((31:Int),l)=some ((5+a0s l*l.length:Nat):Int):=by
 have hm:=c1Q (a3I l) hl;have he:((31:Int)==31)=true:=rfl;unfold a3n;simp only[he,cT,a9R (show short l by unfold short;omega),oB]
 grind[a0k]
theorem c9A{l:List Int}(hw:l.all a0b=true)(hl:l.length<10000):b5v l=some (b0A l):=by
 have h1:=c1U l 25;have hs:=b0z (k:=rbN l 25) h1 hw hl;unfold b5v b0A
 by_cases hlt:5+a0s l*l.length<b3i (rbN l 25) l
 simp only[b7D hw hl,b9V hl,hs,oB,d2Q hlt,cT,hlt,if_true];simp only[b7D hw hl,b9V hl,hs,oB,c2q hlt,cF,hlt,if_false]
def a1B:List Nat→List Int→List Int
 | [],_=>[]
 |z::zs,l=>b0A (l.take z)::a1B zs (l.drop z)
theorem b8Z:∀zs l,(a1B zs l).length=zs.length
 | [],_=>rfl
 |z::zs,l=>by simp[a1B,b8Z zs]
theorem c5x:∀zs l,(a1B zs l).all kB=true
 | [],_=>rfl
 |z::zs,l=>by simp[a1B,c5x zs,d2R]
theorem c0y{zn:List Nat}{n warm most least order:Int}{L:List Int}{a b:Prt}(hz:zn.length≤256):∀(j i:Nat)(rest ks:List Int),i+j=zn.length→(zn.drop i).sum=rest.length→rest.all a0b=true→rest.length≤5000→ks.length=i→
  a0e a9k (n,warm,most,L,least,order,rest,((zn.length:Nat):Int),(i:Int),a1w zn,a,b,(order,ks,()),())=some (n,warm,most,L,least,order,a,b,(order,ks++a1B (zn.drop i) rest,()),())
 |0,i,rest,ks,h,_,_,_,_=>by
  obtain rfl:i=zn.length:=by omega
  simp_all[a0j,a9k,a1B]
 |j+1,i,rest,ks,h,hr,hwr,hr5,hki=>by
  have hlt:i<zn.length:=by omega
  rw[a9S hlt]at hr;have h0:decide ((0:Int)≤(i:Int))=true:=by simp
  have h1:decide ((i:Int)<(((a1w zn).length:Nat):Int))=true:=by simp_all[a1a]
  have h2:decide ((0:Int)≤((zn[i]:Nat):Int))=true:=by simp
  have h3:decide (((zn[i]:Nat):Int)≤((rest.length:Nat):Int))=true:=by grind
  have hk:=c5w (a8z hwr zn[i]) (by grind);have hlim:lim (ks.length+1)=true:=a0q (by omega);rw[a01 hlt,a0p (s':=(n,warm,most,L,least,order,rest.drop zn[i],((zn.length:Nat):Int),((i+1:Nat):Int),a1w zn,a,b,(order,ks++[b0A (rest.take zn[i])],()),())) (by
   simp only[a9k,dlt hlt,h0,h1,a4r hlt,h2,h3,cT,a02,tN,hk,oB,hlim,a20,a0c (show i<1000000 by omega),a09])]
  rw[c0y hz j (i+1) _ _ (by omega) (by grind) (b9S hwr _) (by grind) (by simp_all)];simp_all[a1B]
theorem b5k{zn:List Nat}{n warm most least order:Int}{l:List Int}{a b:Prt}(hz:zn.length≤256)(hw:l.all a0b=true)(h5:l.length≤5000):∀(j i off:Nat)(ks:List Int),i+j=zn.length→off+(zn.drop i).sum=l.length→ks.length=i→
  a0e a5E (n,warm,most,l,least,order,(off:Int),(i:Int),a1w zn,a,b,(order,ks,()),())=some (n,warm,most,l,least,order,a,b,(order,ks++a1B (zn.drop i) (l.drop off),()),())
 |0,i,off,ks,h,_,_=>by
  obtain rfl:i=zn.length:=by omega
  simp_all[a0j,a5E,a1a,a1B]
 |j+1,i,off,ks,h,hr,hki=>by
  have hlt:i<zn.length:=by omega
  rw[a9S hlt]at hr;have h0:decide ((0:Int)≤(i:Int))=true:=by simp
  have h1:decide ((i:Int)<(((a1w zn).length:Nat):Int))=true:=by simp_all[a1a]
  have eo:wrap .i64 ((off:Int)+((zn[i]:Nat):Int))=((off+zn[i]:Nat):Int):=by grind[a0k]
  have h2:decide ((0:Int)≤((off+zn[i]:Nat):Int))=true:=by rfl
  have h3:decide (((off+zn[i]:Nat):Int)≤((l.length:Nat):Int))=true:=by grind
  have h4:decide ((0:Int)≤(off:Int))=true:=by simp
  have h6:decide ((off:Int)≤((off+zn[i]:Nat):Int))=true:=by grind
  have epart:a96 off (a67 (off+zn[i]) l)=(l.drop off).take zn[i]:=by grind
  have hk:=c9A (a8z (b9S hw off) zn[i]) (by grind);have hlim:lim (ks.length+1)=true:=a0q (by omega);rw[a01 hlt,a0p (s':=(n,warm,most,l,least,order,((off+zn[i]:Nat):Int),((i+1:Nat):Int),a1w zn,a,b,(order,ks++[b0A ((l.drop off).take zn[i])],()),())) (by
   simp only[a5E,h0,h1,a4r hlt,eo,h2,h3,h4,h6,cT,a02,tN,epart,hk,oB,hlim,a0c (show i<1000000 by omega),a09])]
  rw[b5k hz hw h5 j (i+1) _ _ (by omega) (by omega) (by simp_all)];simp_all[a1B]
theorem c5y{k:Int}(hk:kB k=true){l:List Int}(hw:l.all a0b=true)(hl:l.length<10000):∃d:Nat,a3n (k,l)=some (d:Int)∧b1y k l=5+d:=by
 by_cases h31:k=31
 subst h31;exact⟨_,b9V hl,by rfl⟩;have hne:(k==31)=false:=by simp_all
 simp[kB]at hk;obtain⟨K,rfl⟩:=a03 (show 0≤k by omega);have hr:=b0z (k:=K) (by omega) hw hl;exact⟨b3i K l,by unfold a3n;grind,by unfold b1y;rw[if_neg h31];rfl⟩
theorem b3j{zn:List Nat}{p:Prt}{l:List Int}(hk:p.2.1.length=zn.length)(hall:p.2.1.all kB=true)(hz:zn.length≤256)(hw:l.all a0b=true)(hl5:l.length≤5000):∀(j i off:Nat)(c:Nat),i+j=zn.length→off+(zn.drop i).sum=l.length→c+10*j+65*(l.length-off)<1000000→
  a0e a3a (l,(c:Int),(off:Int),(i:Int),a1w zn,p,())=some (((c+a2y (zn.drop i) (p.2.1.drop i) (l.drop off):Nat):Int),())
 |0,i,off,c,hi,_,_=>by
  obtain rfl:i=zn.length:=by omega
  simp_all[a0j,a3a,a1a,a2y]
 |j+1,i,off,c,hi,hsum,hb=>by
  have hlt:i<zn.length:=by omega
  have hki:i<p.2.1.length:=by omega
  have hkb:=lA.1 hall _ (a06 hki);rw[a9S hlt]at hsum;have h0:decide ((0:Int)≤(i:Int))=true:=by simp
  have h1:decide ((i:Int)<(((a1w zn).length:Nat):Int))=true:=by simp_all[a1a]
  have eo:wrap .i64 ((off:Int)+((zn[i]:Nat):Int))=((off+zn[i]:Nat):Int):=by grind[a0k]
  have h2:decide ((0:Int)≤((off+zn[i]:Nat):Int))=true:=by rfl
  have h3:decide (((off+zn[i]:Nat):Int)≤((l.length:Nat):Int))=true:=by grind
  have h4:decide ((0:Int)≤(off:Int))=true:=by simp
  have h5:decide ((off:Int)≤((off+zn[i]:Nat):Int))=true:=by grind
  have epart:a96 off (a67 (off+zn[i]) l)=(l.drop off).take zn[i]:=by grind
  have hpart:((l.drop off).take zn[i]).length=zn[i]:=by rw[a04,a07];omega
  obtain⟨d,hd,hd1⟩:=c5y hkb (a8z (b9S hw off) zn[i]) (by omega);have hle:=c9s hkb ((l.drop off).take zn[i]);have e1:wrap .i64 ((c:Int)+5)=((c+5:Nat):Int):=by rw[a0k (by omega)];rfl
  have e2:wrap .i64 (((c+5:Nat):Int)+(d:Int))=((c+5+d:Nat):Int):=by rw[a0k (by omega)];rfl
  rw[a0p (s':=(l,((c+5+d:Nat):Int),((off+zn[i]:Nat):Int),((i+1:Nat):Int),a1w zn,p,())) (by
   simp only[a3a,h0,h1,a4r hlt,eo,h2,h3,h4,h5,cT,a02,tN,a0d hki,oB,epart,hd,e1,e2,a0c (show i<1000000 by omega)]),
   b3j hk hall hz hw hl5 j (i+1) (off+zn[i]) _ (by omega) (by omega) (by omega),
   a01 hlt,a01 hki]
  simp only[a2y,b18];congr 3;omega
theorem c3V{p:Prt}{n warm:Int}{l:List Int}{zn:List Nat}(h:PartsOk p n warm l zn):a2T (p,n,warm,l)=some ((4+a2y zn p.2.1 l:Nat):Int):=by
 have hk:Go.Ab.short p.2.1:=by have:=h.ks;have:=h.len;unfold Go.Ab.short;omega
 have hs:Go.Ab.short l:=by have:=h.short;unfold Go.Ab.short;omega
 have h5:=h.short;have hz:=h.len;have hr:=h.row;simp[a3w]at hr;have e:wrap .i64 (n-warm)=n-warm:=a0k (by omega);have he:(((l.length:Nat):Int) != n-warm)=false:=by rw[h.rest];simp
 have h1:=b3j h.ks h.all h.len h.wide h.short zn.length 0 0 4 (by omega) (by rw[a08,h.sum];omega) (by omega);simp only[nZ,a32,a08]at h1;unfold a2T;simp only[a7r hk,h.may,oB,bT,cF,e,he,a0A hs,h.wide,a2D,h.sizes,h1]
theorem c1W{o n warm:Int}{l:List Int}(h:(a0Z o n warm).length=0):a2T ((o,([]:List Int),()),n,warm,l)=some 0:=by
 have hm:a2X (o,([]:List Int),()) n warm=false:=by simp[a2X,h]
 unfold a2T;simp only[a7r (p:=(o,([]:List Int),())) (by simp[short]),hm,oB,a05,cT]
def zsN(o n warm:Int):List Nat:=(a0Z o n warm).map a43
def b1B(o n warm:Int)(l:List Int):Prt:=(o,a1B (zsN o n warm) l,())
def b9W(o n warm:Int)(l:List Int):Nat:=4+a2y (zsN o n warm) (a1B (zsN o n warm) l) l
def a0N(n warm:Int)(l:List Int):Nat→Prt×Nat
 |0=>((0,[],()),0)
 |i+1=>if(a0Z (i:Int) n warm).length=0 then a0N n warm l i else
   if(a0N n warm l i).2=0∨b9W (i:Int) n warm l<(a0N n warm l i).2 then(b1B (i:Int) n warm l,b9W (i:Int) n warm l)else a0N n warm l i
def b7E(n warm:Int)(l:List Int):Prt:=(a0N n warm l 7).1
theorem c6r{o:Nat}{n warm:Int}{l:List Int}(hs:(a0Z (o:Int) n warm).length≠0)(hl:(l.length:Int)=n-warm)(hw:l.all a0b=true)(h5:l.length≤5000):
  ∃zn,a0Z (o:Int) n warm=a1w zn∧zsN (o:Int) n warm=zn∧zn.length≤256∧zn.sum=l.length∧a2X (b1B (o:Int) n warm l) n warm=true∧PartsOk (b1B (o:Int) n warm l) n warm l zn:=by
 obtain⟨zn,g1,g2,g3⟩:=b8j hs;have ez:zsN (o:Int) n warm=zn:=by simp_all[zsN,b8k]
 have hp:a2X (b1B (o:Int) n warm l) n warm=true:=by
  simp only[a2X,b1B,bA,a37,beq_eq_false_iff_ne,ne_eq,beq_iff_eq];simp_all[a1a,b8Z,c5x]
 obtain⟨zn',hok⟩:=PartsOk.of hp hl hw h5
 have:zn'=zn:=by
  have h1:=hok.sizes
  grind[b1B,b8k]
 grind
theorem b9X{n warm:Int}{l:List Int}(hr:a3w n warm=true)(hl:(l.length:Int)=n-warm)(hw:l.all a0b=true)(h5:l.length≤5000):∀i,1≤i→(a0N n warm l i).2≠0∧a2X (a0N n warm l i).1 n warm=true
 |0,h=>absurd h (by omega)
 |i+1,_=>by
  by_cases hs:(a0Z (i:Int) n warm).length=0
  ·simp only[a0N,hs,if_true];cases i with
   |zero=>grind[d2K]
   |succ i=>exact b9X hr hl hw h5 (i+1) (by omega)
  ·obtain⟨zn,-,-,-,-,hp,-⟩:=c6r hs hl hw h5;simp only[a0N,hs,if_false];split;simp_all[b9W]
   ·rename_i hne;cases i with
    |zero=>exact absurd (Or.inl rfl) hne
    |succ i=>exact b9X hr hl hw h5 (i+1) (by omega)
theorem d5j{n warm:Int}{l:List Int}(hr:a3w n warm=true)(hl:(l.length:Int)=n-warm)(hw:l.all a0b=true)(h5:l.length≤5000):a2X (b7E n warm l) n warm=true:=
 (b9X hr hl hw h5 7 (by omega)).2
theorem c7O{n warm:Int}{l:List Int}(hr:a3w n warm=true)(hl:(l.length:Int)=n-warm)(hw:l.all a0b=true)(h5:l.length≤5000):
  b2y (n,warm,(6:Int),l)=some (b7E n warm l,0):=by
 have:=a0I (f:=a5k) (fun i:Nat=>(n,warm,(6:Int),l,(((a0N n warm l i).2:Nat):Int),(i:Int),((0:Int),([]:List Int),()),(a0N n warm l i).1,())) 7 (b:=(((0:Int),([]:List Int),()),b7E n warm l,()))
  (fun i hi=>by
   have d0:decide ((i:Int)≤a2v (a1D 6 0) 8)=true:=decide_eq_true (by have:a2v (a1D 6 0) 8=6:=rfl;omega);have w1:wrap .i64 ((i:Int)+1)=((i+1:Nat):Int):=a0c (by omega)
   by_cases hs:(a0Z (i:Int) n warm).length=0
   simp_all[a0N,a5k,a3H];have hb:((((a0Z (i:Int) n warm).length:Nat):Int)==0)=false:=by simp_all
   obtain⟨zn,g1,ez,g3,g4,-,hok⟩:=c6r hs hl hw h5;have g5:=c0y (n:=n) (warm:=warm) (most:=6) (least:=(((a0N n warm l i).2:Nat):Int)) (order:=(i:Int)) (L:=l) (a:=((0:Int),([]:List Int),())) (b:=(a0N n warm l i).1) g3 zn.length 0 l [] (by omega) (by simp_all) hw h5 rfl;simp at g5;have hc:=c7J hok;simp only[b1B,ez]at hc;have hb':(((zn.length:Nat):Int)==0)=false:=by simp_all[a1a]
   have el:(((a1w zn).length:Nat):Int)=((zn.length:Nat):Int):=by rw[a1a]
   have eP:b1B (i:Int) n warm l=((i:Int),a1B zn l,()):=by simp only[b1B,ez]
   have eC:b9W (i:Int) n warm l=4+a2y zn (a1B zn l) l:=by simp only[b9W,ez]
   by_cases hz:(a0N n warm l i).2=0
   have hz':((((a0N n warm l i).2:Nat):Int)==0)=true:=by simp_all
   have eb:a0N n warm l (i+1)=(((i:Int),a1B zn l,()),4+a2y zn (a1B zn l) l):=by simp_all[a0N]
   simp only[a5k,d0,cT,a3H,oB,g1,el,hb',cF,g5,hc,w1,eb,hz'];have hz':((((a0N n warm l i).2:Nat):Int)==0)=false:=by simp_all
   by_cases hlt:4+a2y zn (a1B zn l) l<(a0N n warm l i).2
   have eb:a0N n warm l (i+1)=(((i:Int),a1B zn l,()),4+a2y zn (a1B zn l) l):=by simp_all[a0N]
   simp only[a5k,d0,cT,a3H,oB,g1,el,hb',cF,g5,hc,w1,eb,hz',d2Q hlt];have eb:a0N n warm l (i+1)=a0N n warm l i:=by simp only[a0N,hs,if_false,hz,false_or,eP,eC,hlt]
   simp only[a5k,d0,cT,a3H,oB,g1,el,hb',cF,g5,hc,w1,eb,hz',c2q hlt])
  (by
   rfl)
 simp_all[a0N,b2y,b3K]
theorem c3W{n warm:Int}{l:List Int}(hr:a3w n warm=true)(hl:(l.length:Int)=n-warm)(hw:l.all a0b=true)(h5:l.length≤5000):
  b0t (n,warm,(6:Int),l)=some (b7E n warm l,0):=by
 have:=a0I (f:=a4o) (fun i:Nat=>(n,warm,(6:Int),l,(((a0N n warm l i).2:Nat):Int),(i:Int),((0:Int),([]:List Int),()),(a0N n warm l i).1,())) 7 (b:=(((0:Int),([]:List Int),()),b7E n warm l,()))
  (fun i hi=>by
   have d0:decide ((i:Int)≤a2v (a1D 6 0) 8)=true:=decide_eq_true (by have:a2v (a1D 6 0) 8=6:=rfl;omega);have w1:wrap .i64 ((i:Int)+1)=((i+1:Nat):Int):=a0c (by omega)
   by_cases hs:(a0Z (i:Int) n warm).length=0
   have hs0:a0Z (i:Int) n warm=[]:=a54.1 hs;have g5:a0e a5E (n,warm,(6:Int),l,(((a0N n warm l i).2:Nat):Int),(i:Int),(0:Int),(0:Int),([]:List Int),((0:Int),([]:List Int),()),(a0N n warm l i).1,((i:Int),([]:List Int),()),())=some (n,warm,(6:Int),l,(((a0N n warm l i).2:Nat):Int),(i:Int),((0:Int),([]:List Int),()),(a0N n warm l i).1,((i:Int),([]:List Int),()),()):=a0j (by rfl);have hc:=c1W (l:=l) hs;have hd:decide ((0:Int) > 0)=false:=rfl;simp_all[a0N,a4o,a2D];obtain⟨zn,g1,ez,g3,g4,-,hok⟩:=c6r hs hl hw h5;have g5:=b5k (n:=n) (warm:=warm) (most:=6) (least:=(((a0N n warm l i).2:Nat):Int)) (order:=(i:Int)) (a:=((0:Int),([]:List Int),())) (b:=(a0N n warm l i).1) g3 hw h5 zn.length 0 0 [] (by omega) (by simp_all) rfl;simp at g5;have hc:=c3V hok;simp only[b1B,ez]at hc;have hp:decide (((4+a2y zn (a1B zn l) l:Nat):Int) > 0)=true:=decide_eq_true (by omega);have eP:b1B (i:Int) n warm l=((i:Int),a1B zn l,()):=by simp only[b1B,ez]
   have eC:b9W (i:Int) n warm l=4+a2y zn (a1B zn l) l:=by simp only[b9W,ez]
   by_cases hz:(a0N n warm l i).2=0
   have hz':((((a0N n warm l i).2:Nat):Int)==0)=true:=by simp_all
   have eb:a0N n warm l (i+1)=(((i:Int),a1B zn l,()),4+a2y zn (a1B zn l) l):=by simp_all[a0N]
   simp_all[a4o,a2D];have hz':((((a0N n warm l i).2:Nat):Int)==0)=false:=by simp_all
   by_cases hlt:4+a2y zn (a1B zn l) l<(a0N n warm l i).2
   have eb:a0N n warm l (i+1)=(((i:Int),a1B zn l,()),4+a2y zn (a1B zn l) l):=by simp_all[a0N]
   simp only[a4o,d0,cT,a2D,oB,g1,cF,g5,hc,hp,w1,eb,hz',d2Q hlt];have eb:a0N n warm l (i+1)=a0N n warm l i:=by simp only[a0N,hs,if_false,hz,false_or,eP,eC,hlt]
   simp only[a4o,d0,cT,a2D,oB,g1,cF,g5,hc,hp,w1,eb,hz',c2q hlt])
  (by
   rfl)
 have hrr:=hr;simp[a3w]at hrr;have e:wrap .i64 (n-warm)=n-warm:=a0k (by omega);have he:(((l.length:Nat):Int) != n-warm)=false:=by simp_all
 simp[a0N]at this;unfold b0t;simp only[c5d,hr,oB,bT,cF,e,he,a0A (show short l by unfold short;omega),hw,this]
end Go.Ab
namespace Go.Ab
open IntKind(wrap)
def a0B(k:Int)(s:Sub):Sub:=
 (k,(0:Int),(if k=2 then s.2.2.1 else 0),(if k=3∨k=4 then s.2.2.2.1 else 0),(if k=4 then s.2.2.2.2.1 else 0),(if k=3∨k=4 then s.2.2.2.2.2.1 else[]),
  ((if k=4 then s.2.2.2.2.2.2.1 else a00 3 (0:Int)),(if k=5 then s.2.2.2.2.2.2.2.1 else[]),([]:List Int),((0:Int),([]:List Int),()),([]:List Int),()))
def z0:Prt:=((0:Int),([]:List Int),())
def a1O(s:Sub)(w:Nat)(wm:List Int)(p:Prt)(r:List Int):Sub:=
 (s.1,(w:Int),s.2.2.1,s.2.2.2.1,s.2.2.2.2.1,s.2.2.2.2.2.1,s.2.2.2.2.2.2.1,s.2.2.2.2.2.2.2.1,wm,p,r,())
theorem d4h{s:Sub}(h:SmallS s)(k:Int):a7R (k,s)=some (a0B k s):=by
 have hc:short s.2.2.2.2.2.1:=by have:=h.coefs;unfold short;omega
 have hst:short s.2.2.2.2.2.2.2.1:=by have:=h.stages;unfold short;omega
 obtain⟨k',w,o,sh,lag,c,t,st,wm,p,r,u⟩:=s;simp only at hc hst;unfold a7R a0B
 by_cases k2:k=2
 subst k2;rfl
 by_cases k4:k=4
 subst k4;simp[b5D hc]
 by_cases k3:k=3
 subst k3;simp[b5D hc]
 by_cases k5:k=5
 subst k5;simp[c3g hst];have e2:(k==2)=false:=by simp[k2]
 have e3:(k==3)=false:=by simp[k3]
 have e4:(k==4)=false:=by simp[k4]
 have e5:(k==5)=false:=by simp[k5]
 simp[e2,e3,e4,e5,k2,k3,k4,k5]
theorem c1X{s:Sub}(h:SmallS s)(k:Int):SmallS (a0B k s):=by
 have h1:=h.coefs;have h2:=h.taps;have h3:=h.stages;refine⟨?_,?_,?_,by simp[a0B],by simp[a0B],by simp[a0B]⟩<;>simp only[a0B]<;>split<;>first|omega|simp
theorem b5F{s:Sub}{k n:Int}:a3x (a0B k s).1 (a0B k s) n↔a3x k s n:=by
 unfold a3x a0B;constructor
 rintro(h|h|⟨h,h1⟩|⟨h,h1⟩|⟨h,h1⟩|⟨h,h1⟩)
 exact .inl h;exact .inr (.inl h);simp only at h;subst h;simpa using h1;simp only at h;subst h;simpa using h1;simp only at h;subst h;simpa using h1;simp only at h;subst h;simpa using h1
 rintro(h|h|⟨h,h1⟩|⟨h,h1⟩|⟨h,h1⟩|⟨h,h1⟩)
 exact .inl h;exact .inr (.inl h);subst h;simpa using h1;subst h;simpa using h1;subst h;simpa using h1;subst h;simpa using h1
open Classical in
def a2c (l:List Int):Nat:=if h:∃w,a9c l w then h.choose else 0
theorem d1e{l:List Int}{w:Nat}(h:a9c l w):a2c l=w:=by
 unfold a2c;rw[dif_pos ⟨w,h⟩];exact(Classical.choose_spec (⟨w,h⟩:∃w,a9c l w)).unique h
def a0E(l:List Int):List Int:=l.map fun x=>a0l .i64 x (a2c l:Int)
theorem a9d{l:List Int}(hs:short l)(hw:l.all a0b=true):a5i l=some ((a2c l:Nat):Int)∧a2c l≤30∧a9c l (a2c l):=by
 obtain⟨w,h1,h3,h4⟩:=c3U hs hw;rw[d1e h4];exact⟨h1,h3,h4⟩
theorem c1Y{l:List Int}(hs:short l)(hw:l.all a0b=true):a7x l=some ((a2c l:Nat):Int):=by
 obtain⟨w,h1,-,h4⟩:=c7N hs hw;rw[d1e h4];exact h1
theorem a5P{l:List Int}(hs:l.length≤4096)(hw:l.all a0b=true):b3g ((a2c l:Nat):Int) l=some (a0E l)∧(a0E l).all a0b=true∧(a0E l).length=l.length∧upO ((a2c l:Nat):Int) (a0E l)=some l:=by
 obtain⟨-,h3,h4⟩:=a9d (show short l by unfold short;omega) hw;have h:=d7a h3 hw h4;exact⟨h,d6Y h3 h⟩
theorem c3o{l:List Int}(hs:l.length≤4096)(hw:l.all a0b=true):b4A (l,((a2c l:Nat):Int))=some (a0E l,0):=by
 have hsl:short l:=by unfold short;omega
 have h2:=c1Y hsl hw;obtain⟨-,h3,-⟩:=a9d hsl hw;have g1:decide (((a2c l:Nat):Int)<0)=false:=by simp
 have g2:decide (((a2c l:Nat):Int) > 30)=false:=by simp;omega
 have g3:decide (((a2c l:Nat):Int)<((a2c l:Nat):Int))=false:=by simp
 have eu:wrap .u64 ((a2c l:Nat):Int)=((a2c l:Nat):Int):=a1p (by omega)
 have:=a0I (f:=b2I) (fun i:Nat=>(l,((a2c l:Nat):Int),(i:Int),(a0E l).take i,())) l.length (b:=(a0E l,()))
  (fun i hi=>by
   have hlen:(a0E l).length=l.length:=by simp[a0E]
   have hl:lim (((a0E l).take i).length+1)=true:=a0q (by rw[a04];omega);have e:(a0E l).take i++[a0l .i64 l[i] ((a2c l:Nat):Int)]=(a0E l).take (i+1):=by
    rw[←b2b (l:=a0E l) (by omega)];simp[a0E]
   simp only[b2I,dlt hi,cT,a0d hi,oB,eu,g1,cF,hl,a09,e,a0c (show i<1000000 by omega)])
  (by simp only[b2I,dge,cF];rw[a28 (by simp[a0E])])
 simp only[nZ,a47]at this;unfold b4A;simp only[g1,g2,cF,oB,a0A hsl,hw,bT,h2,g3,this]
theorem c7P{l d:List Int}{o k:Int}(hs:short d):a0e a5a (l,o,d,k,(1:Int),([]:List Int),())=some (l,o,k,dif d,()):=by
 have hs':d.length<1000000:=hs
 have:=a0I (f:=a5a) (fun i:Nat=>(l,o,d,k,((i+1:Nat):Int),(dif d).take i,())) (d.length-1) (b:=(l,o,k,dif d,()))
  (fun i hi=>by
   have h1:i+1<d.length:=by omega
   have h2:i<d.length:=by omega
   have hl:lim (((dif d).take i).length+1)=true:=a0q (by rw[a04,a4j];omega);have e1:wrap .i64 (((i+1:Nat):Int)-1)=(i:Int):=by rw[a0k (by omega)];omega
   have hg:=c2o d i _ _ (lG h2) (lG h1);have hlt:i<(dif d).length:=by rw[a4j];omega
   have e:(dif d).take i++[wrap .i64 (d[i+1]-d[i])]=(dif d).take (i+1):=by
    rw[←b2b hlt];congr 2
    have:=lG hlt
    rw[hg]at this;exact Option.some.inj this
   simp only[a5a,dlt h1,cT,a0d h1,e1,a0d h2,oB,hl,a09,e,a0c (show i+1<1000000 by omega)])
  (by
   have d0:decide (((d.length-1+1:Nat):Int)<((d.length:Nat):Int))=false:=decide_eq_false (by omega);simp only[a5a,d0,cF];rw[a28 (by rw[a4j];omega)])
 simpa using this
theorem b6L{l:List Int}{o:Nat}(ho:o≤4)(hn:o≤l.length)(hs:short l)(hw:l.all a0b=true):
  a3d (l,(o:Int))=some (bif (a1G o l).all a0b then(a1G o l,0)else([],6)):=by
 have hs':l.length<1000000:=hs;have loop:=a0I (f:=a7b) (fun k:Nat=>(l,(o:Int),a1G k l,(k:Int),())) o (b:=(l,a1G o l,()))
  (fun k hk=>by
   have d0:decide ((k:Int)<(o:Int))=true:=by simp;omega
   simp only[a7b,d0,cT,c7P (b3e hs k),oB,a0c (show k<1000000 by omega),a1G])
  (by
   have d0:decide ((o:Int)<(o:Int))=false:=by simp
   simp only[a7b,d0,cF])
 have c1:decide ((o:Int)<0)=false:=by simp
 have c2:decide ((o:Int) > 4)=false:=by simp;omega
 have c3:decide (((l.length:Nat):Int)<(o:Int))=false:=by simp;omega
 have c4:lim (0+l.length)=true:=b0X (by omega);simp only[nZ]at loop;have e0:a1G 0 l=l:=rfl;rw[e0]at loop;unfold a3d;simp only[c1,c2,c3,c4,cF,cT,oB,a09,a16,loop,a0A hs,hw,bT,a0A (b3e hs o)];cases (a1G o l).all a0b<;>rfl
def a3f(k:Int)(s:Sub)(d:List Int):Option (List Int×List Int):=
 if k=2 then(bif (a1G s.2.2.1.toNat d).all a0b then some (d.take s.2.2.1.toNat,a1G s.2.2.1.toNat d)else none)
 else if k=3 then(b1A d s.2.2.2.2.2.1 s.2.2.2.1).map fun r=>(d.take s.2.2.2.2.2.1.length,r)
 else if k=4 then(b3h d s.2.2.2.2.1 s.2.2.2.2.2.2.1).bind fun x=>(b1A x s.2.2.2.2.2.1 s.2.2.2.1).map fun r=>(x.take s.2.2.2.2.2.1.length,r)
 else(b0y d s.2.2.2.2.2.2.2.1).map fun r=>([],r)
theorem c3X{k:Int}{s:Sub}{d wm r:List Int}(hk:k=2∨k=3∨k=4∨k=5)(hf:a3x k s (d.length:Int))(hw:d.all a0b=true)(h:a3f k s d=some (wm,r)):
  wm.length≤d.length∧r.length=d.length-wm.length∧r.all a0b=true∧wm.all a0b=true:=by
 have hf':=hf;simp only[a3x]at hf';rcases hk with rfl|rfl|rfl|rfl
 ·have:0≤s.2.2.1∧s.2.2.1≤(d.length:Int):=by simp at hf';omega
  simp only[a3f,if_true]at h;cases hq:(a1G s.2.2.1.toNat d).all a0b with
  |false=>simp[hq]at h
  |true=>
   simp only[hq,cT,sj,pJ]at h;obtain⟨rfl,rfl⟩:=h;refine⟨by rw[a04];omega,by rw[a5U,a04];omega,hq,a8z hw _⟩
 have:(s.2.2.2.2.2.1.length:Int)≤(d.length:Int):=by simp at hf';omega
 simp only[a3f,show ¬ (3:Int)=2 by decide,if_false,if_true,a30,pJ]at h;obtain⟨r',h1,rfl,rfl⟩:=h;obtain⟨-,h2,h3⟩:=b9T h1;exact⟨by rw[a04];omega,by rw[h3,a04];omega,h2,a8z hw _⟩
 have:(s.2.2.2.2.2.1.length:Int)≤(d.length:Int):=by simp at hf';omega
 simp only[a3f,show ¬ (4:Int)=2 by decide,show ¬ (4:Int)=3 by decide,if_false,if_true,a53,a30,pJ]at h;obtain⟨x,h0,r',h1,rfl,rfl⟩:=h;obtain⟨-,g2,g3⟩:=b7z h0;obtain⟨-,h2,h3⟩:=b9T h1;exact⟨by rw[a04];omega,by rw[h3,a04];omega,h2,a8z g2 _⟩;simp only[a3f,show ¬ (5:Int)=2 by decide,show ¬ (5:Int)=3 by decide,show ¬ (5:Int)=4 by decide,if_false,a30,pJ]at h;obtain⟨r',h1,rfl,rfl⟩:=h;obtain⟨-,h2,h3⟩:=c5u h1;exact⟨by simp,by simpa using h3,h2,rfl⟩
theorem d5k{k:Int}{s:Sub}{d:List Int}(hk:k=2∨k=3∨k=4∨k=5)(h:SmallS s)(hf:a3x k s (d.length:Int))(hd:d.length≤4096)(hw:d.all a0b=true)(w:Nat):
  b3X (a1O (a0B k s) w [] z0 [],d)=some (match a3f k s d with|none=>(6,a1O (a0B k s) w [] z0 [])|some (wm,r)=>(0,a1O (a0B k s) w wm z0 r)):=by
 have ht:=h.taps;have hst:=h.stages;have hsd:short d:=by unfold short;omega
 obtain⟨k',w',o,sh,lag,c,t,st,wm',p,r',u⟩:=s;simp only[a3x]at hf ht hst;unfold b3X;rcases hk with rfl|rfl|rfl|rfl
 ·obtain⟨h0,h4,hn⟩:0≤o∧o≤4∧o≤(d.length:Int):=by simp at hf;omega
  obtain⟨O,rfl⟩:=a03 h0;have hst:short (d.take O):=by unfold short;rw[a04];omega
  have e2:decide ((O:Int)≤((d.length:Nat):Int))=true:=by simp;omega
  simp only[a1O,a0B,a3f,if_true,show((2:Int)==2)=true from rfl,cT,b4Z (show O≤4 by omega) (show O≤d.length by omega) hsd hw,oB,tN];cases (a1G O d).all a0b with
  |false=>rfl
  |true=>simp[b4D,a0O,show O≤d.length by omega,a8t hst]
 ·obtain⟨hl,hn⟩:a6r c sh=true∧(c.length:Int)≤(d.length:Int):=by simpa using hf
  have hst:short (d.take c.length):=by unfold short;rw[a04];omega
  have e1:decide ((0:Int)≤((c.length:Nat):Int))=true:=by simp
  have e2:decide (((c.length:Nat):Int)≤((d.length:Nat):Int))=true:=by simp;omega
  simp only[a1O,a0B,a3f,show((3:Int)==2)=false from rfl,show((3:Int)==3)=true from rfl,show ¬ (3:Int)=2 by decide,show ¬ (3:Int)=4 by decide,show ¬ (3:Int)=5 by decide,true_or,if_true,if_false,cT,cF,b8Y hl (show c.length≤d.length by omega) (show d.length<100000 by omega),oB];cases b1A d c sh with
  |none=>rfl
  |some r=>simp[a1J,b4D,a0O,show c.length≤d.length by omega,a8t hst]
 ·obtain⟨hl,hn,hlg⟩:a6r c sh=true∧(c.length:Int)≤(d.length:Int)∧a7H lag t=true:=by simpa using hf
  simp only[a1O,a0B,a3f,show((4:Int)==2)=false from rfl,show((4:Int)==3)=false from rfl,show((4:Int)==4)=true from rfl,show ¬ (4:Int)=2 by decide,show ¬ (4:Int)=3 by decide,show ¬ (4:Int)=5 by decide,or_true,if_true,if_false,cT,cF,c9u hlg ht (show d.length<100000 by omega),oB];cases hx:b3h d lag t with
  |none=>rfl
  |some x=>
   obtain⟨-,g2,g3⟩:=b7z hx;have hst:short (x.take c.length):=by unfold short;rw[a04];omega
   have e1:decide ((0:Int)≤((c.length:Nat):Int))=true:=by simp
   have e2:decide (((c.length:Nat):Int)≤((x.length:Nat):Int))=true:=by simp;omega
   simp only[a1J,show((0:Int)==0)=true from rfl,cT,b8Y hl (show c.length≤x.length by omega) (show x.length<100000 by omega),oB];cases b1A x c sh with
   |none=>rfl
   |some r=>simp[a1J,b4D,a0O,show c.length≤x.length by omega,a8t hst]
 ·obtain⟨hn,hlr⟩:0<st.length∧a5G st=true:=by simpa using hf
  have hst:short (d.take 0):=by simp[short]
  simp only[a1O,a0B,a3f,show((5:Int)==2)=false from rfl,show((5:Int)==3)=false from rfl,show((5:Int)==4)=false from rfl,show((5:Int)==5)=true from rfl,show ¬ (5:Int)=2 by decide,show ¬ (5:Int)=3 by decide,show ¬ (5:Int)=4 by decide,or_self,if_true,if_false,cT,cF,c7M hlr (show d.length<100000 by omega),oB];cases b0y d st with
  |none=>rfl
  |some r=>
   have e1:decide ((0:Int)≤((d.length:Nat):Int))=true:=by simp
   have hc:=a8t hst;simp only[a47]at hc;simp[a1J,b4D,a0O,e1,hc]
theorem d7b{k:Int}{s:Sub}{d:List Int}(hk:k=2∨k=3∨k=4∨k=5)(h:SmallS s)(hf:a3x k s (d.length:Int))(hd:d.length≤4096)(hw:d.all a0b=true)(w:Nat):
  (a3f k s d=none→∃a b,b0r (a1O (a0B k s) w [] z0 [],d)=some (a,b,6))∧
   (∀wm r,a3f k s d=some (wm,r)→b0r (a1O (a0B k s) w [] z0 [],d)=some (wm,r,0)):=by
 have ht:=h.taps;have hst:=h.stages;have hsd:short d:=by unfold short;omega
 obtain⟨k',w',o,sh,lag,c,t,st,wm',p,r',u⟩:=s;simp only[a3x]at hf ht hst;unfold b0r;rcases hk with rfl|rfl|rfl|rfl
 ·obtain⟨h0,h4,hn⟩:0≤o∧o≤4∧o≤(d.length:Int):=by simp at hf;omega
  obtain⟨O,rfl⟩:=a03 h0;have e1:decide ((0:Int)≤(O:Int))=true:=by simp
  have e2:decide ((O:Int)≤((d.length:Nat):Int))=true:=by simp;omega
  simp only[a1O,a0B,a3f,if_true,show((2:Int)==2)=true from rfl,cT,b6L (show O≤4 by omega) (show O≤d.length by omega) hsd hw,oB,tN,e1,e2,a02];cases (a1G O d).all a0b with
  |false=>exact⟨fun _=>⟨_,_,rfl⟩,fun _ _ h=>by cases h⟩
  |true=>exact⟨fun h=>(by cases h),fun wm r h=>by cases h;rfl⟩
 ·obtain⟨hl,hn⟩:a6r c sh=true∧(c.length:Int)≤(d.length:Int):=by simpa using hf
  have e1:decide ((0:Int)≤((c.length:Nat):Int))=true:=by simp
  have e2:decide (((c.length:Nat):Int)≤((d.length:Nat):Int))=true:=by simp;omega
  simp only[a1O,a0B,a3f,show((3:Int)==2)=false from rfl,show((3:Int)==3)=true from rfl,show((3:Int)==4)=false from rfl,show ¬ (3:Int)=2 by decide,show ¬ (3:Int)=4 by decide,show ¬ (3:Int)=5 by decide,true_or,if_true,if_false,cT,cF,oB,b5i hl (show c.length≤d.length by omega) (show d.length<100000 by omega),e1,e2,a02,tN];cases b1A d c sh with
  |none=>exact⟨fun _=>⟨_,_,rfl⟩,fun _ _ h=>by cases h⟩
  |some r=>exact⟨fun h=>(by cases h),fun wm r h=>by cases h;rfl⟩
 ·obtain⟨hl,hn,hlg⟩:a6r c sh=true∧(c.length:Int)≤(d.length:Int)∧a7H lag t=true:=by simpa using hf
  simp only[a1O,a0B,a3f,show((4:Int)==2)=false from rfl,show((4:Int)==3)=false from rfl,show((4:Int)==4)=true from rfl,show ¬ (4:Int)=2 by decide,show ¬ (4:Int)=3 by decide,show ¬ (4:Int)=5 by decide,or_true,if_true,if_false,cT,cF,oB,c5t hlg ht (show d.length<100000 by omega)];cases hx:b3h d lag t with
  |none=>exact⟨fun _=>⟨_,_,rfl⟩,fun _ _ h=>by cases h⟩
  |some x=>
   obtain⟨-,g2,g3⟩:=b7z hx;have e1:decide ((0:Int)≤((c.length:Nat):Int))=true:=by simp
   have e2:decide (((c.length:Nat):Int)≤((x.length:Nat):Int))=true:=by simp;omega
   simp only[a1J,show((0:Int) != 0)=false from rfl,cF,oB,b5i hl (show c.length≤x.length by omega) (show x.length<100000 by omega),e1,e2,a02,cT,tN];cases b1A x c sh with
   |none=>exact⟨fun _=>⟨_,_,rfl⟩,fun _ _ h=>by cases h⟩
   |some r=>exact⟨fun h=>(by cases h),fun wm r h=>by cases h;rfl⟩
 ·obtain⟨hn,hlr⟩:0<st.length∧a5G st=true:=by simpa using hf
  simp only[a1O,a0B,a3f,show((5:Int)==2)=false from rfl,show((5:Int)==3)=false from rfl,show((5:Int)==4)=false from rfl,show((5:Int)==5)=true from rfl,show ¬ (5:Int)=2 by decide,show ¬ (5:Int)=3 by decide,show ¬ (5:Int)=4 by decide,or_self,if_true,if_false,cT,cF,oB,c3S hlr (show d.length<100000 by omega)];cases b0y d st with
  |none=>exact⟨fun _=>⟨_,_,rfl⟩,fun _ _ h=>by cases h⟩
  |some r=>exact⟨fun h=>(by cases h),fun wm r h=>by cases h;rfl⟩
end Go.Ab
namespace Go.Ab
open Classical in

def a1m (k:Int) (l:List Int) (s:Sub):Sub×Int:=
 if ¬ (1≤l.length∧l.length≤4096∧a3x k s (l.length:Int))then(a0W 0,1)
 else if l.all a0b=false then(a0W 0,6)
 else if k=0 then(bif l.all (fun x=>x==l.headD 0)then(a1O (a0B 0 s) 0 [l.headD 0] z0 [],0)else(a0W 0,7))
 else if k=1 then(a1O (a0B 1 s) (a2c l) (a0E l) z0 [],0)
 else match a3f k s (a0E l)with
  |none=>(a0W 0,6)
  |some (wm,r)=>(a1O (a0B k s) (a2c l) wm (b7E (l.length:Int) (wm.length:Int) r) r,0)
theorem c5z{l:List Int}(h:1≤l.length):a0r l 0=some (l.headD 0):=by
 cases l with
 |nil=>simp at h
 |cons a l=>rfl
theorem c9B{l:List Int}(h1:1≤l.length)(hs:short l)(a b:Sub):
  a0e a6H (l,l,(l.length:Int),(0:Int),a,b,())=some (bif l.all (fun x=>x==l.headD 0)then .inl (l,a,b,())else .inr ((7:Int),a0W 0,())):=by
 have:=a1U (f:=a6H) l (fun i=>(l,l,(l.length:Int),(i:Int),a,b,())) (fun x=>x==l.headD 0) (bt:=Sum.inl (l,a,b,())) (bf:=Sum.inr ((7:Int),a0W 0,()))
  (fun i h hp=>by
   have hne:(l[i] != l.headD 0)=false:=by simpa using hp
   simp only[a6H,dlt h,cT,a0d h,oB,c5z h1,hne,cF,a0c (a23 h hs)])
  (fun i h hp=>by
   have hne:(l[i] != l.headD 0)=true:=by simpa using hp
   simp only[a6H,dlt h,cT,a0d h,oB,c5z h1,hne];rfl)
  (by simp[a6H])
 simpa using this
theorem c9C{l:List Int}(h1:1≤l.length)(hs:short l):b4g l=some (l.all (fun x=>x==l.headD 0)):=by
 have hg:∀i (h:i<l.length),(l[i]==l.headD 0)=true→a6g (l,(i:Int),())=some (.inl (l,((i+1:Nat):Int),())):=fun i h hp=>by
  have hne:(l[i] != l.headD 0)=false:=by simpa using hp
  simp only[a6g,dlt h,cT,a0d h,oB,c5z h1,hne,cF,a0c (a23 h hs)]
 have:=a1U (f:=a6g) l (fun i=>(l,(i:Int),())) (fun x=>x==l.headD 0) (bt:=Sum.inl ()) (bf:=Sum.inr (false,())) hg
  (fun i h hp=>by
   have hne:(l[i] != l.headD 0)=true:=by simpa using hp
   simp only[a6g,dlt h,cT,a0d h,oB,c5z h1,hne])
  (by simp[a6g])
 rw[a0p (hg 0 h1 (by cases l with|nil=>simp at h1|cons a l=>simp))]at this;unfold b4g;rw[show((0+1:Nat):Int)=1 from rfl]at this;rw[this];cases l.all (fun x=>x==l.headD 0)<;>rfl
theorem b8m{k n:Int}{s:Sub}(h:a3x k s n)(h0:k≠0)(h1:k≠1):k=2∨k=3∨k=4∨k=5:=by
 rcases h with h|h|⟨h,-⟩|⟨h,-⟩|⟨h,-⟩|⟨h,-⟩;exact absurd h h0;exact absurd h h1;exact .inl h;exact .inr (.inl h);exact .inr (.inr (.inl h));exact .inr (.inr (.inr h))
theorem d7c{s:Sub}(h:SmallS s)(k:Int){l:List Int}(hl:l.length≤100000):b2z (k,l,s)=some (a1m k l s):=by
 have hs:short l:=by unfold short;omega
 unfold b2z a1m
 by_cases h1:1≤l.length
 rotate_left;have e:decide (((l.length:Nat):Int)<1)=true:=decide_eq_true (by omega);rw[if_pos (fun hc=>h1 hc.1)];simp only[e,cT,oB];rfl;have e1:decide (((l.length:Nat):Int)<1)=false:=decide_eq_false (by omega)
 by_cases h2:l.length≤4096
 rotate_left;have e:decide (((l.length:Nat):Int) > 4096)=true:=decide_eq_true (by omega);rw[if_pos (fun hc=>h2 hc.2.1)];simp only[e1,e,cT,cF,oB];rfl;have e2:decide (((l.length:Nat):Int) > 4096)=false:=decide_eq_false (by omega)
 by_cases h3:a3x k s (l.length:Int)
 rotate_left;have e3:b8g k s (l.length:Int)=false:=by simp[b8g,h3]
 rw[if_pos (fun hc=>h3 hc.2.2)];simp only[e1,e2,c1I h,e3,cF,a05,cT,oB];rfl;have e3:b8g k s (l.length:Int)=true:=by simp[b8g,h3]
 rw[if_neg (fun hc=>hc ⟨h1,h2,h3⟩)];simp only[e1,e2,c1I h,e3,cF,bT,oB,a4M hs];cases hw:l.all a0b with
 |false=>rfl
 |true=>
  simp only[bT,cF,d4h h,oB];rw[if_neg (by decide)]
  by_cases h0:k=0
  ·subst h0;have hf:=c9B h1 hs (a0W 0) (a0B 0 s);have ez:a0W 0=((0:Int),(0:Int),(0:Int),(0:Int),(0:Int),([]:(List Int)),a00 3 (0:Int),([]:(List (Int×Int×Unit))),([]:(List Int)),((0:Int),([]:(List Int)),()),([]:(List Int)),()):=rfl;rw[←ez,if_pos rfl];simp only[show((0:Int)==0)=true from rfl,cT,hf,oB];cases l.all (fun x=>x==l.headD 0)with
   |false=>rfl
   |true=>simp only[cT,c5z h1,oB];rfl
  ·obtain⟨w1,w3,-⟩:=a9d hs hw;obtain⟨d1,d2,d3,-⟩:=a5P h2 hw;have he0:(k==0)=false:=by simp[h0]
   rw[if_neg h0];simp only[he0,cF,w1,oB,b8X w3 (show l.length<100000 by omega),d1,a1J,show((0:Int) != 0)=false from rfl]
   by_cases hk1:k=1
   subst hk1;rfl
   ·have he1:(k==1)=false:=by simp[hk1]
    have hk:=b8m h3 h0 hk1;rw[if_neg hk1];have hsp:=d5k hk h (d:=a0E l) (by rw[d3];exact h3) (by omega) d2 (a2c l);have e4:((a0B k s).1,((a2c l:Nat):Int),(a0B k s).2.2)=a1O (a0B k s) (a2c l) [] z0 []:=rfl;simp only[he1,cF,e4,hsp,oB];cases hr:a3f k s (a0E l)with
    |none=>rfl
    |some q=>
     obtain⟨wm,r⟩:=q;obtain⟨r1,r2,r3,-⟩:=c3X hk (by rw[d3];exact h3) d2 hr;have hrow:a3w (l.length:Int) (wm.length:Int)=true:=by simp only[a3w,bA,dT];omega
     have hb:=c7O hrow (l:=r) (by omega) r3 (by omega);simp only[show((0:Int) != 0)=false from rfl,cF,a1O,hb,oB]
theorem d0A{s:Sub}(h:SmallS s)(k:Int){l:List Int}(hl:l.length≤100000):b1t (k,l,s)=some (a1m k l s):=by
 have hs:short l:=by unfold short;omega
 have hz:a0W 0=((0:Int),(0:Int),(0:Int),(0:Int),(0:Int),([]:(List Int)),a00 3 (0:Int),([]:(List (Int×Int×Unit))),([]:(List Int)),((0:Int),([]:(List Int)),()),([]:(List Int)),()):=rfl;have hch:(show Option (Int×(List Int×(Int×Sub×Sub×Unit)))from
   bif k==(2:Int)then some (k,l,((l.length:Nat):Int),a0W 0,(k,(0:Int),s.2.2.1,(0:Int),(0:Int),([]:(List Int)),a00 3 (0:Int),([]:List Stg),([]:(List Int)),((0:Int),([]:(List Int)),()),([]:(List Int)),()),())
   else(bif k==(3:Int)then some (k,l,((l.length:Nat):Int),a0W 0,(k,(0:Int),(0:Int),s.2.2.2.1,(0:Int),s.2.2.2.2.2.1,a00 3 (0:Int),([]:List Stg),([]:(List Int)),((0:Int),([]:(List Int)),()),([]:(List Int)),()),())
   else(bif k==(4:Int)then some (k,l,((l.length:Nat):Int),a0W 0,(k,(0:Int),(0:Int),s.2.2.2.1,s.2.2.2.2.1,s.2.2.2.2.2.1,s.2.2.2.2.2.2.1,([]:List Stg),([]:(List Int)),((0:Int),([]:(List Int)),()),([]:(List Int)),()),())
   else(bif k==(5:Int)then some (k,l,((l.length:Nat):Int),a0W 0,(k,(0:Int),(0:Int),(0:Int),(0:Int),([]:(List Int)),a00 3 (0:Int),s.2.2.2.2.2.2.2.1,([]:(List Int)),((0:Int),([]:(List Int)),()),([]:(List Int)),()),())
   else some (k,l,((l.length:Nat):Int),a0W 0,(k,(0:Int),(0:Int),(0:Int),(0:Int),([]:(List Int)),a00 3 (0:Int),([]:List Stg),([]:(List Int)),((0:Int),([]:(List Int)),()),([]:(List Int)),()),())))))=some (k,l,((l.length:Nat):Int),a0W 0,a0B k s,()):=by
  unfold a0B
  by_cases k2:k=2
  subst k2;rfl
  by_cases k3:k=3
  subst k3;rfl
  by_cases k4:k=4
  subst k4;rfl
  by_cases k5:k=5
  subst k5;rfl;have e2:(k==2)=false:=by simp[k2]
  have e3:(k==3)=false:=by simp[k3]
  have e4:(k==4)=false:=by simp[k4]
  have e5:(k==5)=false:=by simp[k5]
  simp[e2,e3,e4,e5,k2,k3,k4,k5]
 unfold b1t a1m;simp only[←hz];simp only[]at hch;rw[hch];simp only[oB]
 by_cases h1:1≤l.length
 rotate_left;have e:decide (((l.length:Nat):Int)<1)=true:=decide_eq_true (by omega);rw[if_pos (fun hc=>h1 hc.1)];simp only[e,cT,oB];have e1:decide (((l.length:Nat):Int)<1)=false:=decide_eq_false (by omega)
 by_cases h2:l.length≤4096
 rotate_left;have e:decide (((l.length:Nat):Int) > 4096)=true:=decide_eq_true (by omega);rw[if_pos (fun hc=>h2 hc.2.1)];simp only[e1,e,cT,cF,oB];have e2:decide (((l.length:Nat):Int) > 4096)=false:=decide_eq_false (by omega);have hcs:=c1X h k
 by_cases h3:a3x k s (l.length:Int)
 rotate_left;have e3:decide (b0Z (a0B k s) (l.length:Int)<0)=true:=by simp[b0Z,b5F,h3]
 rw[if_pos (fun hc=>h3 hc.2.2)];simp only[e1,e2,c3N hcs,e3,cF,cT,oB];have e3:decide (b0Z (a0B k s) (l.length:Int)<0)=false:=by
  have:=b8h hcs (n:=(l.length:Int)) (by omega) (by omega) (b5F.2 h3)
  simp[b0Z,b5F,h3];omega
 rw[if_neg (fun hc=>hc ⟨h1,h2,h3⟩)];simp only[e1,e2,c3N hcs,e3,cF,oB,a0A hs];cases hw:l.all a0b with
 |false=>rfl
 |true=>
  simp only[bT,cF,oB];rw[if_neg (by decide)]
  by_cases h0:k=0
  ·subst h0;rw[if_pos rfl];simp only[show((0:Int)==0)=true from rfl,cT,c9C h1 hs,oB];cases l.all (fun x=>x==l.headD 0)with
   |false=>rfl
   |true=>
    have e4:decide ((1:Int)≤((l.length:Nat):Int))=true:=decide_eq_true (by omega);have e5:a67 1 l=[l.headD 0]:=by cases l with|nil=>simp at h1|cons a l=>rfl
    simp only[bT,cF,e4,cT,e5];rfl
  ·have w1:=c1Y hs hw;obtain⟨d1,d2,d3,-⟩:=a5P h2 hw;have he0:(k==0)=false:=by simp[h0]
   rw[if_neg h0];have e4:((a0B k s).1,((a2c l:Nat):Int),(a0B k s).2.2)=a1O (a0B k s) (a2c l) [] z0 []:=rfl;simp only[he0,cF,w1,oB,c3o h2 hw,e4]
   by_cases hk1:k=1
   subst hk1;have hlf:b0r (a1O (a0B 1 s) (a2c l) [] z0 [],a0E l)=some (a0E l,([]:List Int),0):=rfl;have hg:=a5O 1;simp only[hlf,oB,show((0:Int) != 0)=false from rfl,cF,hg];rfl
   ·have hk:=b8m h3 h0 hk1;rw[if_neg hk1];obtain⟨q1,q2⟩:=d7b hk h (d:=a0E l) (by rw[d3];exact h3) (by omega) d2 (a2c l);cases hr:a3f k s (a0E l)with
    |none=>
     obtain⟨a,b,q⟩:=q1 hr;simp only[q,oB,show((6:Int) != 0)=true from rfl,cT]
    |some q=>
     obtain⟨wm,r⟩:=q;obtain⟨r1,r2,r3,-⟩:=c3X hk (by rw[d3];exact h3) d2 hr;have hrow:a3w (l.length:Int) (wm.length:Int)=true:=by simp only[a3w,bA,dT];omega
     have hb:=c3W hrow (l:=r) (by omega) r3 (by omega);have hg:a5u k=some true:=by rw[a5O];congr 1;simp;omega
     simp only[q2 wm r hr,oB,show((0:Int) != 0)=false from rfl,cF,hg,cT,hb];rfl
end Go.Ab
namespace Go.Ab
theorem d4i{p:Prt}{n warm:Int}(h:a2X p n warm=true):p.2.1.length≤256:=by
 simp only[a2X,bA,a37,beq_eq_false_iff_ne,ne_eq,beq_iff_eq]at h;obtain⟨zn,h1,-,h3⟩:=b8j h.1;rw[←h.2.1,h1,a1a];exact h3
theorem b9Y{s:Sub}(h:SmallS s){w:Nat}{wm r:List Int}{p:Prt}(h1:wm.length≤5000)(h2:r.length≤5000)(h3:p.2.1.length≤300):SmallS (a1O s w wm p r):=
 ⟨h.coefs,h.taps,h.stages,h1,h2,h3⟩
theorem d2S{k:Int}{l:List Int}{s:Sub}(h0:(a1m k l s).2=0):
  1≤l.length∧l.length≤4096∧a3x k s (l.length:Int)∧l.all a0b=true∧
   ((k=0∧l.all (fun x=>x==l.headD 0)=true∧(a1m k l s).1=a1O (a0B 0 s) 0 [l.headD 0] z0 [])∨
    (k=1∧(a1m k l s).1=a1O (a0B 1 s) (a2c l) (a0E l) z0 [])∨
     ((k=2∨k=3∨k=4∨k=5)∧∃wm r,a3f k s (a0E l)=some (wm,r)∧(a1m k l s).1=a1O (a0B k s) (a2c l) wm (b7E (l.length:Int) (wm.length:Int) r) r)):=by
 unfold a1m at h0⊢
 split at h0
 cases h0;rename_i hc;have hc:1≤l.length∧l.length≤4096∧a3x k s (l.length:Int):=Classical.byContradiction hc;refine⟨hc.1,hc.2.1,hc.2.2,?_⟩;rw[if_neg (fun h=>h hc)]
 split at h0
 cases h0;rename_i hw;have hw':l.all a0b=true:=by simpa using hw
 refine⟨hw',?_⟩;rw[if_neg hw]
 split at h0
 ·rename_i k0;rw[if_pos k0];cases hq:l.all (fun x=>x==l.headD 0)with
  |false=>rw[hq]at h0;cases h0
  |true=>exact .inl ⟨k0,rfl,rfl⟩
 rename_i k0;rw[if_neg k0]
 split at h0
 rename_i k1;rw[if_pos k1];exact .inr (.inl ⟨k1,rfl⟩);rename_i k1;rw[if_neg k1];refine .inr (.inr ⟨b8m hc.2.2 k0 k1,?_⟩);cases hr:a3f k s (a0E l)with
 |none=>rw[hr]at h0;cases h0
 |some q=>
  obtain⟨wm,r⟩:=q;exact⟨wm,r,rfl,rfl⟩
theorem b6M{s:Sub}{k:Int}{w:Nat}{wm r:List Int}{p:Prt}:b4E (a1O (a0B k s) w wm p r):=by
 unfold b4E a1O a0B;refine⟨fun h=>if_neg h,fun h=>if_neg (not_or.2 h),fun h=>if_neg h,fun h=>if_neg h,fun h=>if_neg (not_or.2 h),fun h=>if_neg h⟩
theorem c3Y{s:Sub}{k n:Int}{w:Nat}{wm r:List Int}{p:Prt}(h:a3x k s n):a3x (a1O (a0B k s) w wm p r).1 (a1O (a0B k s) w wm p r) n:=b5F.2 h
theorem d5l{l:List Int}(h:l.all (fun x=>x==l.headD 0)=true):a00 l.length (l.headD 0)=l:=by
 refine(List.eq_replicate_iff.2 ⟨rfl,fun x hx=>?_⟩).symm
 have:=lA.1 h x hx
 simpa using this
theorem c2r{k:Int}{l:List Int}{s:Sub}(hS:SmallS s)(h0:(a1m k l s).2=0):
  SmallS (a1m k l s).1∧(a1m k l s).1.1=k∧a1F (a1m k l s).1 (l.length:Int)∧a3y (a1m k l s).1 (l.length:Int)=some l:=by
 obtain⟨h1,h2,hf,hw,hc⟩:=d2S h0;have hs:short l:=by unfold short;omega
 obtain⟨-,w3,-⟩:=a9d hs hw;obtain⟨d1,d2,d3,d4⟩:=a5P h2 hw;have key:∀m:Sub,a1F m (l.length:Int)→c1K m (l.length:Int)=some l→a3y m (l.length:Int)=some l:=fun m g1 g2=>by unfold a3y;rw[if_pos g1,g2]
 have hcs:=c1X hS k;rcases hc with⟨rfl,hall,e⟩|⟨rfl,e⟩|⟨hk,wm,r,hr,e⟩
 ·rw[e];have hst:a1F (a1O (a0B 0 s) 0 [l.headD 0] z0 []) (l.length:Int):=by
   have hh:a0b (l.headD 0)=true:=by
    cases l with
    |nil=>rfl
    |cons a l=>exact lA.1 hw _ a62
   exact⟨by omega,by omega,c3Y hf,b6M,Int.le_refl _,(by decide:(0:Int)≤30),fun _=>rfl,rfl,by simp only[a1O,a22,hh,List.all_nil];rfl,rfl,fun _=>⟨rfl,rfl,rfl⟩,fun h=>absurd rfl h.1⟩
  refine⟨b9Y hcs (by simp) (by simp) (by simp[z0]),rfl,hst,key _ hst ?_⟩;show some (a00 (l.length:Int).toNat (l.headD 0))=some l;rw[tN,d5l hall]
 rw[e];have hst:a1F (a1O (a0B 1 s) (a2c l) (a0E l) z0 []) (l.length:Int):=
  ⟨by omega,by omega,c3Y hf,b6M,a63 _,(by show((a2c l:Nat):Int)≤30;omega),fun h=>absurd h (by decide:¬ (1:Int)=0),by show(((a0E l).length:Nat):Int)=(l.length:Int);rw[d3],d2,rfl,fun _=>⟨rfl,rfl,rfl⟩,fun h=>absurd rfl h.2⟩
 refine⟨b9Y hcs (by omega) (by simp) (by simp[z0]),rfl,hst,key _ hst ?_⟩;show upO ((a2c l:Nat):Int) (a0E l)=some l;exact d4
 ·rw[e];obtain⟨r1,r2,r3,r4⟩:=c3X hk (by rw[d3];exact hf) d2 hr;have hrow:a3w (l.length:Int) (wm.length:Int)=true:=by simp only[a3w,bA,dT];omega
  have hp:=d5j hrow (l:=r) (by omega) r3 (by omega);generalize b7E (l.length:Int) (wm.length:Int) r=p at hp;have hks:=d4i hp

  have hwb:a0O (a1O (a0B k s) (a2c l) wm p r) (l.length:Int)=(wm.length:Int)∧backP (a1O (a0B k s) (a2c l) wm p r)=some (a0E l):=by
   simp only[a3x]at hf;rcases hk with rfl|rfl|rfl|rfl
   ·obtain⟨q0,q4,qn⟩:0≤s.2.2.1∧s.2.2.1≤4∧s.2.2.1≤(l.length:Int):=by simp at hf;omega
    simp only[a3f,if_true]at hr;cases hq:(a1G s.2.2.1.toNat (a0E l)).all a0b with
    |false=>simp[hq]at hr
    |true=>
     simp only[hq,cT,sj,pJ]at hr;obtain⟨rfl,rfl⟩:=hr;refine⟨?_,?_⟩;show s.2.2.1=_;rw[a04];omega;show c1J ((a0E l).take s.2.2.1.toNat) (a1G s.2.2.1.toNat (a0E l)) s.2.2.1=some (a0E l);have hb:=c9q d2 (o:=s.2.2.1.toNat) (by omega) ((a0E l).length-s.2.2.1.toNat) 0 (by omega);rw[a08,a52]at hb;unfold c1J;rw[a8z d2,hq];exact hb
   have qn:(s.2.2.2.2.2.1.length:Int)≤(l.length:Int):=by simp at hf;omega
   simp only[a3f,show ¬ (3:Int)=2 by decide,if_false,if_true,a30,pJ]at hr;obtain⟨r',g1,rfl,rfl⟩:=hr;obtain⟨g2,-,-⟩:=b9T g1;refine⟨?_,?_⟩;show((s.2.2.2.2.2.1.length:Nat):Int)=_;rw[a04];omega;exact g2;have qn:(s.2.2.2.2.2.1.length:Int)≤(l.length:Int):=by simp at hf;omega
   simp only[a3f,show ¬ (4:Int)=2 by decide,show ¬ (4:Int)=3 by decide,if_false,if_true,a53,a30,pJ]at hr;obtain⟨x,g0,r',g1,rfl,rfl⟩:=hr;obtain⟨f1,-,f3⟩:=b7z g0;obtain⟨g2,-,-⟩:=b9T g1;refine⟨?_,?_⟩;show((s.2.2.2.2.2.1.length:Nat):Int)=_;rw[a04];omega;show(b2X (x.take s.2.2.2.2.2.1.length) r' s.2.2.2.2.2.1 s.2.2.2.1).bind (fun l=>b2Y l s.2.2.2.2.1 s.2.2.2.2.2.2.1)=_;rw[g2];exact f1;simp only[a3f,show ¬ (5:Int)=2 by decide,show ¬ (5:Int)=3 by decide,show ¬ (5:Int)=4 by decide,if_false,a30,pJ]at hr;obtain⟨r',g1,rfl,rfl⟩:=hr;obtain⟨g2,-,-⟩:=c5u g1;exact⟨rfl,g2⟩
  have hne:¬ (k=0∨k=1):=by rcases hk with rfl|rfl|rfl|rfl<;>decide
  have hst:a1F (a1O (a0B k s) (a2c l) wm p r) (l.length:Int):=by
   unfold a1F;rw[hwb.1];exact⟨by omega,by omega,c3Y hf,b6M,a63 _,(by show((a2c l:Nat):Int)≤30;omega),fun h=>absurd (.inl h) hne,rfl,r4,r3,fun h=>absurd h hne,fun _=>⟨(by show((r.length:Nat):Int)=_;omega),hp⟩⟩
  refine⟨b9Y hcs (by omega) (by omega) (by omega),rfl,hst,key _ hst ?_⟩;have e0:¬ (a1O (a0B k s) (a2c l) wm p r).1=0:=fun h=>hne (.inl h);unfold c1K;rw[if_neg e0,hwb.2];exact d4
theorem c5A:SmallS (a0W 0):=d0t 0
end Go.Ab
namespace Go.Ab
def cS(k o sh:Int)(c:List Int)(st:List Stg):Sub:=
 (k,(0:Int),o,sh,(0:Int),c,a00 3 (0:Int),st,([]:List Int),((0:Int),([]:List Int),()),([]:List Int),())
theorem b3L{k o sh:Int}{c:List Int}{st:List Stg}(h:c.length≤40)(h2:st.length≤6):SmallS (cS k o sh c st):=
 ⟨h,rfl,h2,by simp[cS],by simp[cS],by simp[cS]⟩
def a7J(d:List Int)(o w:Int):List Int×(Int×Int):=(a3m (d,o,w)).getD ([],0,1)
def b0L(d:List Int)(o w:Int):List Sub:=bif (a7J d o w).2.2==0 then[cS 3 0 (a7J d o w).2.1 (a7J d o w).1 []]else[]
def c5B(d:List Int):Int:=(a4Y d).getD 0
def a9U(d:List Int):Sub×Bool:=(a4Z d).getD (a0W 0,false)
def b5a(d:List Int):List Sub:=bif (a9U d).2 then[(a9U d).1]else[]
def a5Q(i:Nat):List Sub:=(List.range i).map fun(j:Nat)=>cS 2 (j:Int) 0 [] []
def a1g(d:List Int):List Sub:=[cS 0 0 0 [] [],cS 1 0 0 [] [],cS 2 (c5B d) 0 [] []]
def a1S(d:List Int)(k:Int):List Sub:=if 1≤k then b0L d 4 12++b0L d 8 12 else[]
def a6y(d:List Int)(k:Int):List Sub:=if 2≤k then[cS 5 0 0 [] [((16:Int),(4:Int),())],cS 5 0 0 [] [((32:Int),(3:Int),()),((16:Int),(5:Int),())]]++b5a d else[]
def c2s(d:List Int)(k:Int):List Sub:=if 3≤k then a5Q 5++(b0L d 1 12++(b0L d 2 12++(b0L d 12 14++b0L d 16 14)))else[]
def a3r(d:List Int)(k:Int):List Sub:=a1g d++(a1S d k++(a6y d k++c2s d k))
def c2t(d:List Int):Prop:=a4Z d=some (a9U d)∧((a9U d).2=true→SmallS (a9U d).1)
theorem c9D{d:List Int}(hw:d.all a0b=true)(hl:d.length≤4096){o w:Nat}(h1:1≤o)(h2:o≤32)(h3:2≤w∧w≤16):
  a3m (d,(o:Int),(w:Int))=some (a7J d o w)∧((a7J d o w).2.2=0→(a7J d o w).1.length=o):=by
 obtain⟨c,sh,e,g1,g2⟩:=c7k hw hl h1 h2 h3;unfold a7J;rw[g1];exact⟨rfl,g2⟩
theorem a5v(d:List Int)(o w:Int):(b0L d o w).length≤1:=by
 unfold b0L;cases (a7J d o w).2.2==0<;>simp
theorem b3M{d:List Int}(hw:d.all a0b=true)(hl:d.length≤4096){o w:Nat}(h1:1≤o)(h2:o≤32)(h3:2≤w∧w≤16){L:List Sub}(hL:L.length<1000):
  a0z ((o:Int),(w:Int),d,L)=some (d,L++b0L d o w):=by
 obtain⟨g1,-⟩:=c9D hw hl h1 h2 h3;have hlim:lim (L.length+1)=true:=a0q (by omega);unfold a0z b0L;simp only[g1,oB];cases (a7J d o w).2.2==0 with
 |true=>simp only[cT,hlim];rfl
 |false=>simp only[cF,a21]
theorem d2T{d:List Int}{L:List Sub}(hL:L.length<1000):a0e a2E ((0:Int),L,d,())=some (L++a5Q 5,d,()):=by
 have:=a0I (f:=a2E) (fun i:Nat=>((i:Int),L++a5Q i,d,())) 5 (b:=(L++a5Q 5,d,()))
  (fun i hi=>by
   have d0:decide ((i:Int)<5)=true:=decide_eq_true (by omega);have hlim:lim ((L++a5Q i).length+1)=true:=a0q (by simp[a5Q];omega);have e:(L++a5Q i)++[cS 2 (i:Int) 0 [] []]=L++a5Q (i+1):=by simp[a5Q,List.range_succ]
   rw[←e];simp only[a2E,d0,cT,hlim,a0c (show i<1000000 by omega)];rfl)
  (by
   have d0:decide (((5:Nat):Int)<5)=false:=by decide
   simp only[a2E,d0,cF])
 simp only[nZ]at this;rw[show a5Q 0=[]from rfl,a21]at this;exact this
theorem d7d{d:List Int}(hw:d.all a0b=true)(hl:d.length≤4096)(hlag:c2t d)(k:Int):a8m (d,k)=some (a3r d k):=by
 obtain⟨o,ho,ho4⟩:=c5r (show d.length<100000 by omega) hw;have hb:c5B d=(o:Int):=by unfold c5B;rw[ho];rfl
 have hlc:(b5a d).length≤1:=by unfold b5a;cases (a9U d).2<;>simp
 have l4:=a5v d 4 12;have l8:=a5v d 8 12;have l1:=a5v d 1 12;have l2:=a5v d 2 12;have l12:=a5v d 12 14;have c4:=fun L (hL:L.length<1000)=>b3M (L:=L) hw hl (o:=4) (w:=12) (by omega) (by omega) (by omega) hL;have c8:=fun L (hL:L.length<1000)=>b3M (L:=L) hw hl (o:=8) (w:=12) (by omega) (by omega) (by omega) hL;have c1:=fun L (hL:L.length<1000)=>b3M (L:=L) hw hl (o:=1) (w:=12) (by omega) (by omega) (by omega) hL;have c2:=fun L (hL:L.length<1000)=>b3M (L:=L) hw hl (o:=2) (w:=12) (by omega) (by omega) (by omega) hL;have c12:=fun L (hL:L.length<1000)=>b3M (L:=L) hw hl (o:=12) (w:=14) (by omega) (by omega) (by omega) hL;have c16:=fun L (hL:L.length<1000)=>b3M (L:=L) hw hl (o:=16) (w:=14) (by omega) (by omega) (by omega) hL;simp only[a32]at c4 c8 c1 c2 c12 c16;have n0:(a1g d).length=3:=rfl;have n1:(a1S d k).length≤2:=by unfold a1S;split<;>simp<;>omega
 have n2:(a6y d k).length≤3:=by unfold a6y;split<;>simp<;>omega
 have n5:(a5Q 5).length=5:=rfl;have s1:(bif decide (k≥1)then((a0z ((4:Int),(12:Int),d,a1g d)).bind fun y2=>(a0z ((8:Int),(12:Int),y2.1,y2.2)).bind fun y3=>some (k,y3.1,y3.2,()))else some (k,d,a1g d,()))=some (k,d,a1g d++a1S d k,()):=by
  unfold a1S
  by_cases h:1≤k
  have e:decide (k≥1)=true:=decide_eq_true h;simp only[e,cT,c4 (a1g d) (by omega),oB,c8 (a1g d++b0L d 4 12) (by simp;omega),if_pos h,aA];have e:decide (k≥1)=false:=decide_eq_false h;simp only[e,cF,if_neg h,a21]
 have hF:a8m (d,k)=(a4Y d).bind fun y1=>
   (show Option (Int×((List Int)×((List Sub)×Unit)))from bif decide (k≥1)then((a0z ((4:Int),(12:Int),d,[cS 0 0 0 [] [],cS 1 0 0 [] [],cS 2 y1 0 [] []])).bind fun y2=>(a0z ((8:Int),(12:Int),y2.1,y2.2)).bind fun y3=>some (k,y3.1,y3.2,()))else some (k,d,[cS 0 0 0 [] [],cS 1 0 0 [] [],cS 2 y1 0 [] []],())).bind fun z4=>
   (show Option (Int×((List Sub)×((List Int)×Unit)))from bif decide (z4.1≥2)then(bif lim (z4.2.2.1.length+1)then(bif lim ((z4.2.2.1++[cS 5 0 0 [] [((16:Int),(4:Int),())]]).length+1)then((a4Z z4.2.1).bind fun y5=>
    bif y5.2 then(bif lim ((z4.2.2.1++[cS 5 0 0 [] [((16:Int),(4:Int),())]]++[cS 5 0 0 [] [((32:Int),(3:Int),()),((16:Int),(5:Int),())]]).length+1)then some (z4.1,z4.2.2.1++[cS 5 0 0 [] [((16:Int),(4:Int),())]]++[cS 5 0 0 [] [((32:Int),(3:Int),()),((16:Int),(5:Int),())]]++[y5.1],z4.2.1,())else none)
    else some (z4.1,z4.2.2.1++[cS 5 0 0 [] [((16:Int),(4:Int),())]]++[cS 5 0 0 [] [((32:Int),(3:Int),()),((16:Int),(5:Int),())]],z4.2.1,()))else none)else none)else some (z4.1,z4.2.2.1,z4.2.1,())).bind fun z6=>
   (show Option ((List Sub)×Unit)from bif decide (z6.1≥3)then((a0e a2E ((0:Int),z6.2.1,z6.2.2.1,())).bind fun w7=>(a0z ((1:Int),(12:Int),w7.2.1,w7.1)).bind fun y8=>(a0z ((2:Int),(12:Int),y8.1,y8.2)).bind fun y9=>
    (a0z ((12:Int),(14:Int),y9.1,y9.2)).bind fun y10=>(a0z ((16:Int),(14:Int),y10.1,y10.2)).bind fun y11=>some (y11.2,()))else some (z6.2.1,())).bind fun z12=>some z12.1:=rfl
 have e0:[cS 0 0 0 [] [],cS 1 0 0 [] [],cS 2 (o:Int) 0 [] []]=a1g d:=by unfold a1g;rw[hb]
 have s2:(bif decide (k≥2)then(bif lim ((a1g d++a1S d k).length+1)then(bif lim ((a1g d++a1S d k++[cS 5 0 0 [] [((16:Int),(4:Int),())]]).length+1)then((a4Z d).bind fun y5=>
    bif y5.2 then(bif lim ((a1g d++a1S d k++[cS 5 0 0 [] [((16:Int),(4:Int),())]]++[cS 5 0 0 [] [((32:Int),(3:Int),()),((16:Int),(5:Int),())]]).length+1)then some (k,a1g d++a1S d k++[cS 5 0 0 [] [((16:Int),(4:Int),())]]++[cS 5 0 0 [] [((32:Int),(3:Int),()),((16:Int),(5:Int),())]]++[y5.1],d,())else none)
    else some (k,a1g d++a1S d k++[cS 5 0 0 [] [((16:Int),(4:Int),())]]++[cS 5 0 0 [] [((32:Int),(3:Int),()),((16:Int),(5:Int),())]],d,()))else none)else none)else some (k,a1g d++a1S d k,d,()):Option (Int×((List Sub)×((List Int)×Unit))))=some (k,a1g d++(a1S d k++a6y d k),d,()):=by
  unfold a6y
  by_cases h:2≤k
  have e:decide (k≥2)=true:=decide_eq_true h;have q1:lim ((a1g d++a1S d k).length+1)=true:=a0q (by simp;omega);have q2:lim ((a1g d++a1S d k++[cS 5 0 0 [] [((16:Int),(4:Int),())]]).length+1)=true:=a0q (by simp;omega);have q3:lim ((a1g d++a1S d k++[cS 5 0 0 [] [((16:Int),(4:Int),())]]++[cS 5 0 0 [] [((32:Int),(3:Int),()),((16:Int),(5:Int),())]]).length+1)=true:=a0q (by simp;omega);simp only[e,q1,q2,q3,cT,hlag.1,oB,if_pos h,b5a];cases (a9U d).2<;>simp;have e:decide (k≥2)=false:=decide_eq_false h;simp only[e,cF,if_neg h,a21]
 have s3:(bif decide (k≥3)then((a0e a2E ((0:Int),a1g d++(a1S d k++a6y d k),d,())).bind fun w7=>(a0z ((1:Int),(12:Int),w7.2.1,w7.1)).bind fun y8=>(a0z ((2:Int),(12:Int),y8.1,y8.2)).bind fun y9=>
    (a0z ((12:Int),(14:Int),y9.1,y9.2)).bind fun y10=>(a0z ((16:Int),(14:Int),y10.1,y10.2)).bind fun y11=>some (y11.2,()))else some (a1g d++(a1S d k++a6y d k),()):Option ((List Sub)×Unit))=some (a3r d k,()):=by
  unfold a3r c2s
  by_cases h:3≤k
  have e:decide (k≥3)=true:=decide_eq_true h;simp only[e,cT,d2T (L:=a1g d++(a1S d k++a6y d k)) (by simp;omega),oB,if_pos h];rw[c1 _ (by simp;omega)];simp only[oB];rw[c2 _ (by simp;omega)];simp only[oB];rw[c12 _ (by simp;omega)];simp only[oB];rw[c16 _ (by simp;omega)];simp only[oB,aA];have e:decide (k≥3)=false:=decide_eq_false h;simp only[e,cF,if_neg h,a21]
 rw[hF,ho,oB,e0];simp only[];rw[s1];simp only[oB];rw[s2];simp only[oB];rw[s3];rfl
theorem b9Z{d:List Int}(hw:d.all a0b=true)(hl:d.length≤4096)(hlag:c2t d)(k:Int):∀c∈a3r d k,SmallS c:=by
 have hlin:∀(o w:Nat),1≤o→o≤32→2≤w∧w≤16→∀c∈b0L d o w,SmallS c:=fun o w h1 h2 h3 c hc=>by
  obtain⟨-,g2⟩:=c9D hw hl h1 h2 h3;unfold b0L at hc;cases he:(a7J d o w).2.2==0 with
  |false=>rw[he]at hc;simp at hc
  |true=>
   rw[he]at hc;simp only[cT,a45]at hc;subst hc
   have:=g2 (by simpa using he)
   exact b3L (by omega) (by simp)
 intro c hc;simp only[a3r,mA]at hc;rcases hc with hc|hc|hc|hc;simp only[a1g,mC,b03,or_false]at hc;rcases hc with rfl|rfl|rfl<;>exact b3L (by simp) (by simp);unfold a1S at hc
 split at hc
 simp only[mA]at hc;rcases hc with hc|hc;exact hlin 4 12 (by omega) (by omega) (by omega) c hc;exact hlin 8 12 (by omega) (by omega) (by omega) c hc;simp at hc
 ·unfold a6y at hc
  split at hc
  ·simp only[mA,mC,b03,or_false]at hc;rcases hc with(rfl|rfl)|hc;exact b3L (by simp) (by simp);exact b3L (by simp) (by simp)
   ·unfold b5a at hc;cases hg:(a9U d).2 with
    |false=>rw[hg]at hc;simp at hc
    |true=>
     rw[hg]at hc;simp only[cT,a45]at hc;subst hc;exact hlag.2 hg
  simp at hc
 unfold c2s at hc
 split at hc
 simp only[mA,a5Q,List.mem_map]at hc;rcases hc with⟨j,-,rfl⟩|hc|hc|hc|hc;exact b3L (by simp) (by simp);exact hlin 1 12 (by omega) (by omega) (by omega) c hc;exact hlin 2 12 (by omega) (by omega) (by omega) c hc;exact hlin 12 14 (by omega) (by omega) (by omega) c hc;exact hlin 16 14 (by omega) (by omega) (by omega) c hc;simp at hc
theorem c9E{d:List Int}(hl:d.length≤256):a4Z d=some (a0W 0,false):=by
 have hF:b4d (d,(16:Int),(256:Int))=some (0,7):=by
  unfold b4d;have e1:decide (((d.length:Nat):Int) > 4096)=false:=decide_eq_false (by omega);have e2:decide (((d.length:Nat):Int)≤256)=true:=decide_eq_true (by omega);simp only[show decide ((16:Int)<2)=false from rfl,show decide ((16:Int) > 256)=false from rfl,show decide ((256:Int) > 1024)=false from rfl,cF,e1,oB,e2,cT]
 unfold a4Z;simp only[hF,oB,show((7:Int) != 0)=true from rfl,cT];rfl
theorem d7M{d:List Int}(hl:d.length≤256):c2t d:=by
 have h:=c9E hl
 have:a9U d=(a0W 0,false):=by unfold a9U;rw[h];rfl
 exact⟨by rw[this];exact h,fun hc=>by rw[this]at hc;cases hc⟩
def b0B(l:List Int)(a:Int×(Bool×Sub))(c:Sub):Int×(Bool×Sub):=
 bif (a1m c.1 l c).2 != 0 then a else bif !a.2.1 || decide (a4v (a1m c.1 l c).1 (l.length:Int)<a.1)then(a4v (a1m c.1 l c).1 (l.length:Int),true,(a1m c.1 l c).1)else a
def b5G(l:List Int)(cs:List Sub):Int×(Bool×Sub):=cs.foldl (b0B l) (0,false,a0W 0)
theorem c3Z{α A β:Type}(g:A→α→A)(fin:A→β):∀(l:List α)(a:A),b2U fin (a3p (fun a x=>.inl (g a x)) l a)=fin (l.foldl g a)
 | [],_=>rfl
 |x::l,a=>c3Z g fin l (g a x)
theorem c3p{k:Int}{l:List Int}{s:Sub}(h:SmallS s):SmallS (a1m k l s).1:=by
 by_cases h0:(a1m k l s).2=0
 exact(c2r h h0).1
 ·have:(a1m k l s).1=a0W 0:=by
   unfold a1m at h0⊢;split;rfl;rename_i hc;rw[if_neg hc]at h0;split;rfl;rename_i hw;rw[if_neg hw]at h0;split
   ·rename_i k0;rw[if_pos k0]at h0;cases hq:l.all (fun x=>x==l.headD 0)with
    |true=>rw[hq]at h0;exact absurd rfl h0
    |false=>rfl
   rename_i k0;rw[if_neg k0]at h0;split;rename_i k1;rw[if_pos k1]at h0;exact absurd rfl h0;rename_i k1;rw[if_neg k1]at h0;cases hr:a3f k s (a0E l)with
   |none=>rfl
   |some q=>rw[hr]at h0;exact absurd rfl h0
  rw[this];exact c5A
theorem d4j{l:List Int}{cs:List Sub}(hs:∀c∈cs,SmallS c)(hl:l.length≤4096)(hc:cs.length<1000):
  a0e a8N (l,(0:Int),false,cs,((cs.length:Nat):Int),(0:Int),a0W 0,a0W 0,())=some (a0W 0,(b5G l cs).2.2,()):=by
 have:=a2M (f:=a8N) cs (fun i a=>(l,a.1,a.2.1,cs,((cs.length:Nat):Int),(i:Int),a0W 0,a.2.2,())) (fun a x=>.inl (b0B l a x)) (fun _ _=>True) (fun a=>(a0W 0,a.2.2,()))
  (fun i hi a _=>by
   refine⟨fun a' ha'=>?_,fun b hb=>by cases hb⟩;simp only[Sum.inl.injEq]at ha';subst ha';refine⟨?_,trivial⟩;have hS:=hs _ (a06 hi);have c1:=d6X (c3p (k:=cs[i].1) (l:=l) hS) (l.length:Int);unfold b0B;simp only[a8N,dlt hi,cT,a0d hi,oB,d7c hS cs[i].1 (show l.length≤100000 by omega),c1,a0c (show i<1000000 by omega)];cases (a1m cs[i].1 l cs[i]).2 != 0 with
   |true=>rfl
   |false=>
    have hwr:=a0c (show i<1000000 by omega);cases ha:a.2.1 with
    |false=>simp only[cF,a05,Bool.true_or,cT,oB,hwr]
    |true=>
     simp only[cF,bT,Bool.false_or,oB];cases decide (a4v (a1m cs[i].1 l cs[i]).1 (l.length:Int)<a.1)<;>simp only[cF,cT,hwr,ha])
  (fun a _=>by simp only[a8N,dge,cF]) (a:=((0:Int),false,a0W 0)) trivial
 simp only[nZ]at this;rw[this,c3Z];rfl
theorem d7e{l:List Int}(h1:1≤l.length)(h2:l.length≤4096)(hw:l.all a0b=true)(hlag:c2t (a0E l)){k:Int}(h0:0≤k)(h3:k≤3):
  a3Z (l,k)=some ((b5G l (a3r (a0E l) k)).2.2,0):=by
 have hs:short l:=by unfold short;omega
 obtain⟨w1,w3,-⟩:=a9d hs hw;obtain⟨d1,d2,d3,-⟩:=a5P h2 hw;have e1:decide (((l.length:Nat):Int)<1)=false:=decide_eq_false (by omega);have e2:decide (((l.length:Nat):Int) > 4096)=false:=decide_eq_false (by omega);have e3:decide (k<0)=false:=decide_eq_false (by omega);have e4:decide (k > 3)=false:=decide_eq_false (by omega);have hlen:(a3r (a0E l) k).length<1000:=by
  have g:=fun o w=>a5v (a0E l) o w;have q1:=g 4 12;have q2:=g 8 12;have q3:=g 1 12;have q4:=g 2 12;have q5:=g 12 14;have q6:=g 16 14;have hlc:(b5a (a0E l)).length≤1:=by unfold b5a;cases (a9U (a0E l)).2<;>simp
  simp only[a3r,a1g,a1S,a6y,c2s,lN]
  split<;>split<;>split<;>simp[a5Q]<;>omega
 have hb:=d4j (l:=l) (b9Z d2 (by omega) hlag k) h2 hlen;have hz:a0W 0=((0:Int),(0:Int),(0:Int),(0:Int),(0:Int),([]:(List Int)),a00 3 (0:Int),([]:(List (Int×Int×Unit))),([]:(List Int)),((0:Int),([]:(List Int)),()),([]:(List Int)),()):=rfl;unfold a3Z;simp only[←hz,e1,e2,e3,e4,cF,oB,a4M hs,hw,bT,w1,b8X w3 (show l.length<100000 by omega),d1,a1J,show((0:Int) != 0)=false from rfl,d7d d2 (show(a0E l).length≤4096 by omega) hlag,hb]
end Go.Ab
namespace Go.Ab
theorem a5w(v:Int)(n:Nat)(L:List Int):(a0n v n L).length=L.length+(a0n v n []).length:=by
 unfold a0n;cases (a0l .u64 v (n:Int) != 0)<;>simp
theorem b2c(n:Nat):∀(l L:List Int),(a1N n l L).length=L.length+(a1N n l []).length
 | [],L=>by simp[a1N]
 |x::l,L=>by
  show(a1N n l (a0n (a3q x n) n L)).length=L.length+(a1N n l (a0n (a3q x n) n [])).length;rw[b2c n l,b2c n l (a0n (a3q x n) n []),a5w];omega
theorem b4n:∀(st:List Stg)(L:List Int),(a4q st L).length=L.length+(a4q st []).length
 | [],L=>by simp[a4q]
 |s::st,L=>by
  show(a4q st (a8b s L)).length=L.length+(a4q st (a8b s [])).length;rw[b4n st,b4n st (a8b s [])];unfold a8b;rw[a5w,a5w _ 5 L,a5w _ 4 (a0n _ 5 [])];omega
theorem c0a(s:Sub)(L:List Int):(a6t s L).length=L.length+(a6t s []).length:=by
 unfold a6t;rw[b2c,a5w,a5w _ 4,a5w _ 5 L]
 conv=>rhs;rw[b2c,a5w,a5w _ 4]
 omega
theorem c7n(s:Sub)(L:List Int):(a1H s L).length=L.length+(a1H s []).length:=by
 unfold a1H;split;rw[a5w];split;rw[c0a];split;rw[c0a,b2c,a5w]
 conv=>rhs;rw[c0a,b2c]
 omega;split;rw[b4n,a5w]
 conv=>rhs;rw[b4n]
 omega
 simp
theorem d5m{s:Sub}(hk:0≤s.1∧s.1≤5)(hw:0≤s.2.1∧s.2.1≤30)(ha:s.2.2.2.2.2.2.2.2.1.all a0b=true)(L:List Int):(b1x s L).length=L.length+13:=by
 obtain⟨K,hK⟩:=a03 hk.1;obtain⟨w,hw'⟩:=a03 hw.1
 have:=b4m ha
 unfold b1x;rw[hK,hw',b7v (q:=K) (by omega),b7v (q:=w) (by omega),a8y (n:=5) (by omega) (by omega),a8y (n:=5) (by omega) (by omega),a8y (n:=3) (by omega) (by omega)]
def c9F(s:Sub)(zn:List Nat):Nat:=
 13+(a1H s []).length+a0s s.2.2.2.2.2.2.2.2.1*s.2.2.2.2.2.2.2.2.1.length+if s.1=0∨s.1=1 then 0 else 4+a2y zn s.2.2.2.2.2.2.2.2.2.1.2.1 s.2.2.2.2.2.2.2.2.2.2.1
theorem d2U{k n:Int}{s:Sub}(h:a3x k s n):0≤k∧k≤5:=by
 rcases h with h|h|⟨h,-⟩|⟨h,-⟩|⟨h,-⟩|⟨h,-⟩<;>omega
theorem d0B{s:Sub}{n:Int}(h:(a3y s n).isSome=true):a1F s n:=by
 unfold a3y at h
 split at h
 assumption
 cases h
theorem d7f{s:Sub}{n:Int}(h:(a3y s n).isSome=true){zn:List Nat}(hz:s.1≠0∧s.1≠1→PartsOk s.2.2.2.2.2.2.2.2.2.1 n ((s.2.2.2.2.2.2.2.2.1.length:Nat):Int) s.2.2.2.2.2.2.2.2.2.2.1 zn)(L:List Int):
  (a5p s zn L).length=L.length+c9F s zn:=by
 obtain⟨h1,h2,hf,-,h5,h6,-,-,hw,-⟩:=d0B h;have hwd:=b4m hw;have hh:=d5m (d2U hf) ⟨h5,h6⟩ hw L;unfold a5p c9F
 by_cases hk:s.1=0∨s.1=1
 rw[if_pos hk,if_pos hk,b7t (by omega),c7n,hh];omega;rw[if_neg hk,if_neg hk,c7K (hz (not_or.1 hk)),b7t (by omega),c7n,hh];omega
theorem c9G{s:Sub}(h:SmallS s){n:Int}(hs:(a3y s n).isSome=true):∃zn,a4v s n=((c9F s zn:Nat):Int)∧(s.1≠0∧s.1≠1→PartsOk s.2.2.2.2.2.2.2.2.2.1 n ((s.2.2.2.2.2.2.2.2.1.length:Nat):Int) s.2.2.2.2.2.2.2.2.2.2.1 zn):=by
 obtain⟨e,L',-,-,-,h4,-⟩:=c5j h (n:=n) (L:=[]) (by simp);obtain⟨-,zn,-,hz⟩:=h4 hs;refine⟨zn,?_,hz⟩;unfold a4v;rw[if_pos hs,←c6q hz,d7f hs hz]
 simp
theorem d4k{s:Sub}(h:SmallS s){n:Int}(hs:(a3y s n).isSome=true):13≤a4v s n:=by
 obtain⟨zn,h1,-⟩:=c9G h hs;rw[h1];unfold c9F;omega
end Go.Ab
namespace Go.Ab
structure Shifted (l m:List Int) (n:Nat):Prop where
 len:m.length=l.length
 wl:l.all a0b=true
 wm:m.all a0b=true
 down:a0E m=a0E l
 waste:a2c m=a2c l+n
 fl:l.all (fun x=>x==l.headD 0)=false
 fm:m.all (fun x=>x==m.headD 0)=false
structure BestIs (l:List Int) (cs:List Sub) (a:Int×(Bool×Sub)):Prop where
 one:a.2.1=true→∃c∈cs,(a1m c.1 l c).2=0∧a.2.2=(a1m c.1 l c).1∧a.1=a4v a.2.2 (l.length:Int)
 least:∀c∈cs,(a1m c.1 l c).2=0→a.2.1=true∧a.1≤a4v (a1m c.1 l c).1 (l.length:Int)
theorem c1Z{l:List Int}:∀(cs ds:List Sub)(a:Int×(Bool×Sub)),BestIs l ds a→BestIs l (ds++cs) (cs.foldl (b0B l) a)
 | [],ds,a,h=>by rw[a21];exact h
 |c::cs,ds,a,h=>by
  rw[b07,show ds++c::cs=(ds++[c])++cs by simp];refine c1Z cs (ds++[c]) _ ?_
  unfold b0B
  by_cases h0:(a1m c.1 l c).2=0
  ·have n1:((a1m c.1 l c).2 != 0)=false:=by rw[h0];rfl
   rw[n1,cF];cases hq:(!a.2.1 || decide (a4v (a1m c.1 l c).1 (l.length:Int)<a.1))with
   |true=>
    refine⟨fun _=>⟨c,by simp,h0,rfl,rfl⟩,fun d hd hd0=>⟨rfl,?_⟩⟩;rcases mA.1 hd with hd|hd;obtain⟨g1,g2⟩:=h.least d hd hd0;rw[g1]at hq;simp only[bT,Bool.false_or,dT]at hq;exact Int.le_trans (Int.le_of_lt hq) g2;simp only[a45]at hd;subst hd;exact Int.le_refl _
   |false=>
    simp only[a82,Bool.not_eq_false',decide_eq_false_iff_not]at hq;refine⟨fun ht=>?_,fun d hd hd0=>?_⟩;obtain⟨d,hd,g⟩:=h.one ht;exact⟨d,a85 _ hd,g⟩;rcases mA.1 hd with hd|hd;exact h.least d hd hd0;simp only[a45]at hd;subst hd;exact⟨hq.1,b08.1 hq.2⟩
  have n1:((a1m c.1 l c).2 != 0)=true:=by simpa using h0
  rw[n1,cT];refine⟨fun ht=>?_,fun d hd hd0=>?_⟩;obtain⟨d,hd,g⟩:=h.one ht;exact⟨d,a85 _ hd,g⟩;rcases mA.1 hd with hd|hd;exact h.least d hd hd0;simp only[a45]at hd;subst hd;exact absurd hd0 h0
theorem c6s(l:List Int)(cs:List Sub):BestIs l cs (b5G l cs):=
 c1Z cs [] _ ⟨fun h=>(by cases h),fun _ h=>(by cases h)⟩
theorem c0b{l:List Int}(h1:1≤l.length)(h2:l.length≤4096)(hw:l.all a0b=true):a1m 1 l (cS 1 0 0 [] [])=(a1O (a0B 1 (cS 1 0 0 [] [])) (a2c l) (a0E l) z0 [],0):=by
 unfold a1m;rw[if_neg (fun q=>q ⟨h1,h2,.inr (.inl rfl)⟩),if_neg (by rw[hw];decide),if_neg (by decide),if_pos rfl]
theorem d2V{l:List Int}(h1:1≤l.length)(h2:l.length≤4096)(hw:l.all a0b=true)(d:List Int)(k:Int):(b5G l (a3r d k)).2.1=true:=
 ((c6s l (a3r d k)).least (cS 1 0 0 [] []) (by simp[a3r,a1g]) (by rw[show(cS 1 0 0 [] []).1=1 from rfl,c0b h1 h2 hw])).1
end Go.Ab
namespace Go.Ab
open IntKind(wrap)
def inW(x:Int)(v:Nat):Bool:=decide (x=0) || a2G x (v:Int)
theorem d5n{x:Int}{v:Nat}:a2G x (v:Int)=true↔1≤v∧v≤31∧-((2^(v-1):Nat):Int)≤x∧x≤((2^(v-1):Nat):Int)-1:=by
 by_cases hv:1≤v∧v≤31
 have e:((v:Int)-1)=((v-1:Nat):Int):=by omega
 have hp:2^(v-1)≤2^30:=a26 (by omega) (by omega);have hp1:=a29 (v-1);have e1:a0F .i64 1 ((v-1:Nat):Int)=((2^(v-1):Nat):Int):=d2J (by omega);have e2:a0F .i64 (-1) ((v-1:Nat):Int)=-((2^(v-1):Nat):Int):=by
  have em:min (a43 ((v-1:Nat):Int)) (IntKind.bits .i64)=v-1:=by simp only[tN,IntKind.bits];omega
  unfold a0F;rw[em,show(-1:Int)*2^(v-1)=-((2^(v-1):Nat):Int)by simp];exact a0k (by omega)
 have e3:wrap .i64 (((2^(v-1):Nat):Int)-1)=((2^(v-1):Nat):Int)-1:=a0k (by omega);simp only[a2G,e,e1,e2,e3,bA,dT];constructor;intro h;exact⟨hv.1,hv.2,h.2.2.1,h.2.2.2⟩;intro h;exact⟨by omega,by omega,h.2.2.1,h.2.2.2⟩;constructor;intro h;simp only[a2G,bA,dT]at h;omega;intro h;omega
theorem c6t{x:Int}{v:Nat}:inW x v=true↔x=0∨(1≤v∧v≤31∧-((2^(v-1):Nat):Int)≤x∧x≤((2^(v-1):Nat):Int)-1):=by
 simp only[inW,a17,dT,d5n]
theorem d5o{x:Int}{v w:Nat}(h:v≤w)(hw:w≤31)(hx:inW x v=true):inW x w=true:=by
 rw[c6t]at hx⊢;rcases hx with hx|⟨h1,h2,h3,h4⟩;exact .inl hx
 have:2^(v-1)≤2^(w-1):=a26 (by omega) (by omega)
 exact .inr ⟨by omega,hw,by omega,by omega⟩
theorem d5p{x:Int}(h:a0b x=true):inW x 31=true:=by
 have:=a3F.1 h
 rw[c6t];exact .inr ⟨by omega,by omega,by rw[show((2^(31-1):Nat):Int)=1073741824 from rfl];omega,by rw[show((2^(31-1):Nat):Int)=1073741824 from rfl];omega⟩
theorem c7o{x:Int}(hx:a0b x=true):∀(k w:Nat),w+k=32→w≤31→w≤a2b x k w∧a2b x k w≤31∧inW x (a2b x k w)=true∧∀v,w≤v→inW x v=true→v≤31→a2b x k w≤v
 |0,w,h,h31=>absurd h31 (by omega)
 |k+1,w,h,h31=>by
  by_cases hin:inW x w=true
  ·have:a2b x (k+1) w=w:=by
    unfold a2b;cases hc:(x != 0)&&!a2G x (w:Int)with
    |false=>rfl
    |true=>
     simp only[bA,bne_iff_ne,ne_eq,a37]at hc;simp only[inW,a17,dT,hc.2,Bool.false_eq_true,or_false]at hin;exact absurd hin hc.1
   rw[this];exact⟨a42 _,h31,hin,fun v hv _ _=>hv⟩
  have hc:((x != 0)&&!a2G x (w:Int))=true:=by
   simp only[inW,a17,dT,not_or,Bool.not_eq_true]at hin;simp only[bA,bne_iff_ne,ne_eq,a37];exact hin
  have hne:w≠31:=fun e=>hin (by rw[e];exact d5p hx);have e:a2b x (k+1) w=a2b x k (w+1):=by
   show(bif (x != 0)&&!a2G x (w:Int)then a2b x k (w+1)else w)=_;rw[hc,cT]
  obtain⟨g1,g2,g3,g4⟩:=c7o hx k (w+1) (by omega) (by omega);rw[e];refine⟨by omega,g2,g3,fun v hv hvi h31=>g4 v ?_ hvi h31⟩;rcases Nat.lt_or_ge w v with q|q;exact q
  have:v=w:=by omega
  exact absurd (this▸hvi) hin
theorem b3k:∀(l:List Int)(w:Nat),l.all a0b=true→w≤31→
  w≤l.foldl (fun w x=>a2b x (32-w) w) w∧l.foldl (fun w x=>a2b x (32-w) w) w≤31∧(∀x∈l,inW x (l.foldl (fun w x=>a2b x (32-w) w) w)=true)∧∀v,w≤v→v≤31→(∀x∈l,inW x v=true)→l.foldl (fun w x=>a2b x (32-w) w) w≤v
 | [],w,_,h31=>⟨a42 _,h31,by simp,fun v hv _ _=>hv⟩
 |x::l,w,h,h31=>by
  rw[a22,bA]at h;obtain⟨g1,g2,g3,g4⟩:=c7o h.1 (32-w) w (by omega) h31;obtain⟨f1,f2,f3,f4⟩:=b3k l (a2b x (32-w) w) h.2 g2;simp only[b07];refine⟨by omega,f2,fun y hy=>?_,fun v hv hv31 hall=>?_⟩;rcases mC.1 hy with rfl|hy;exact d5o f1 f2 g3;exact f3 y hy;exact f4 v (g4 v hv (hall x a62) hv31) hv31 fun y hy=>hall y (a84 _ hy)
theorem d5q{l:List Int}(h:l.all a0b=true):∀x∈l,inW x (a0s l)=true:=(b3k l 0 h (by omega)).2.2.1
theorem d0C{l:List Int}(h:l.all a0b=true){v:Nat}(hv:v≤31)(hall:∀x∈l,inW x v=true):a0s l≤v:=(b3k l 0 h (by omega)).2.2.2 v (by omega) hv hall
theorem d5r{x:Int}{w v:Nat}(hw:w≤30)(hd:((2^w:Nat):Int) ∣ x)(h:inW x v=true):inW (a0l .i64 x (w:Int)) v=true:=by
 obtain⟨c,rfl⟩:=hd;rw[c9z (by omega)];rw[c6t]at h⊢;have hp:(1:Int)≤((2^w:Nat):Int):=by have:=a29 w;omega
 generalize ((2^w:Nat):Int)=p at h hp;rcases h with h|⟨h1,h2,h3,h4⟩;rcases Int.mul_eq_zero.1 h with h|h;omega;exact .inl h;refine .inr ⟨h1,h2,?_,?_⟩
 by_cases hc:0≤c
 have:(0:Int)≤((2^(v-1):Nat):Int):=a63 _
 omega;have hm:=a59 (show 0≤p-1 by omega) (show 0≤-c by omega);rw[Int.mul_neg,b00]at hm;omega
 by_cases hc:0≤c
 have hm:=a59 (show 0≤p-1 by omega) hc;rw[b00]at hm;omega
 have:(1:Int)≤((2^(v-1):Nat):Int):=by have:=a29 (v-1);omega
 omega
theorem d2W{l:List Int}(h2:l.length≤4096)(hw:l.all a0b=true):a0s (a0E l)≤a0s l:=by
 obtain⟨-,w3,w4⟩:=a9d (show short l by unfold short;omega) hw;obtain⟨-,d2,-,-⟩:=a5P h2 hw;have hdv:∀x∈l,((2^a2c l:Nat):Int) ∣ x:=by
  rcases w4 with⟨g,-⟩|⟨-,-,g,-⟩;exact fun x hx=>by rw[g x hx];exact a72 _
  exact g
 refine d0C d2 (b4m hw) fun y hy=>?_
 obtain⟨x,hx,rfl⟩:=List.mem_map.1 hy;exact d5r w3 (hdv x hx) (d5q hw x hx)
theorem d2X{l:List Int}(h1:1≤l.length)(h2:l.length≤4096)(hw:l.all a0b=true):a4v (a1m 1 l (cS 1 0 0 [] [])).1 (l.length:Int)=((13+a0s (a0E l)*l.length:Nat):Int):=by
 have hS:SmallS (cS 1 0 0 [] []):=b3L (by simp) (by simp);have hm:=c0b h1 h2 hw;obtain⟨a1,-,-,a4⟩:=c2r hS (k:=1) (l:=l) (by rw[hm]);obtain⟨zn,hc,-⟩:=c9G a1 (by rw[a4];rfl);obtain⟨-,-,d3,-⟩:=a5P h2 hw;rw[hc,hm];have e:c9F (a1O (a0B 1 (cS 1 0 0 [] [])) (a2c l) (a0E l) z0 []) zn=13+0+a0s (a0E l)*(a0E l).length+0:=rfl;rw[e,d3];rfl
theorem d2Y{l:List Int}(h1:1≤l.length)(h2:l.length≤4096)(hw:l.all a0b=true)(hlag:c2t (a0E l)){k:Int}(h0:0≤k)(h3:k≤3):
  ∃s,a3Z (l,k)=some (s,0)∧SmallS s∧a3y s (l.length:Int)=some l∧s=(b5G l (a3r (a0E l) k)).2.2∧a4v s (l.length:Int)=(b5G l (a3r (a0E l) k)).1∧a4v s (l.length:Int)≤((13+a0s l*l.length:Nat):Int)∧
   (∀c∈a3r (a0E l) k,(a1m c.1 l c).2=0→a4v s (l.length:Int)≤a4v (a1m c.1 l c).1 (l.length:Int)):=by
 obtain⟨-,d2,d3,-⟩:=a5P h2 hw;have hb:=d7e h1 h2 hw hlag h0 h3;have hfd:=d2V h1 h2 hw (a0E l) k;obtain⟨c,hc,g0,g1,g2⟩:=(c6s l (a3r (a0E l) k)).one hfd;have hSc:=b9Z d2 (by omega) hlag k c hc;obtain⟨f1,-,-,f4⟩:=c2r hSc g0;rw[←g1]at f1 f4;have hleast:∀c∈a3r (a0E l) k,(a1m c.1 l c).2=0→a4v (b5G l (a3r (a0E l) k)).2.2 (l.length:Int)≤a4v (a1m c.1 l c).1 (l.length:Int):=fun c hc h0=>by
  rw[←g2];exact((c6s l (a3r (a0E l) k)).least c hc h0).2
 refine⟨_,hb,f1,f4,rfl,g2.symm,?_,hleast⟩;have hp:=hleast (cS 1 0 0 [] []) (by simp[a3r,a1g]) (by rw[show(cS 1 0 0 [] []).1=1 from rfl,c0b h1 h2 hw]);rw[show(cS 1 0 0 [] []).1=1 from rfl,d2X h1 h2 hw]at hp
 have:=a40 l.length (d2W h2 hw)
 omega
end Go.Ab
namespace Go.Ab
open IntKind(wrap)
def c9H(x:Int):Int:=a1D x (wrap .i64 (0-x))
def a9h(l:List Int):Int:=l.foldl (fun a x=>wrap .i64 (a+c9H x)) 0
theorem c2a(l:List Int)(x:Int):a9h (l++[x])=wrap .i64 (a9h l+c9H x):=by simp[a9h]
theorem d4l{x:Int}(h:a0b x=true):0≤c9H x∧c9H x≤1073741824:=by
 have:=a3F.1 h
 unfold c9H;rw[a0k (by omega)];simp only[a1D]
 by_cases h2:0-x > x
 simp only[h2,decide_true,cT];omega;simp only[h2,decide_false,cF];omega
theorem c0z:∀(n:Nat)(l:List Int),l.length=n→n≤1000000→l.all a0b=true→0≤a9h l∧a9h l≤1073741824*(n:Int)
 |0,l,h,_,_=>by
  rw[a54.1 h];simp[a9h]
 |n+1,l,h,hn,hw=>by
  obtain⟨L,b,rfl⟩:∃L b,l=L++[b]:=by
   rcases a77 l with rfl|⟨L,b,e⟩;simp at h;exact⟨L,b,by rw[e,a78]⟩
  rw[List.all_append,bA]at hw;obtain⟨h1,h2⟩:=c0z n L (by simpa using h) (by omega) hw.1;have hb:=d4l (x:=b) (by simpa using hw.2);rw[c2a,a0k (by omega)];omega
theorem d0D{l:List Int}(hn:l.length≤1000000)(hw:l.all a0b=true):0≤a9h l:=(c0z _ l rfl hn hw).1
theorem b9a{r:List Int}{i m:Nat}(hi:i<r.length)(hm:m≤i):(r.take (i+1)).drop m=(r.take i).drop m++[r[i]]:=by
 rw[a41 hi,List.drop_append_of_le_length (by rw[a04];omega)]
theorem d5s{r:List Int}{o:Nat}(ho:o≤4)(hr:r.length<100000):a6I (r,(o:Int))=some (a9h (r.drop (4-o))):=by
 have:=a0I (f:=a2s) (fun i:Nat=>((o:Int),a9h ((r.take i).drop (4-o)),r,(r.length:Int),(i:Int),())) r.length (b:=(a9h (r.drop (4-o)),()))
  (fun i hi=>by
   have w1:wrap .i64 ((i:Int)+(o:Int))=(i:Int)+(o:Int):=a0k (by omega)
   by_cases hm:4-o≤i
   have d:decide ((i:Int)+(o:Int)≥4)=true:=by simp;omega
   simp only[a2s,dlt hi,cT,a0d hi,oB,w1,d,a0c (show i<1000000 by omega)];rw[b9a hi hm,c2a];rfl;have d:decide ((i:Int)+(o:Int)≥4)=false:=by simp;omega
   simp only[a2s,dlt hi,cT,a0d hi,oB,w1,d,cF,a0c (show i<1000000 by omega)];rw[a35 (by rw[a04];omega),a35 (by rw[a04];omega)])
  (by
   have d:decide ((r.length:Int)<(r.length:Int))=false:=by simp
   simp only[a2s,d,cF,a20])
 simp only[nZ,a47,List.drop_nil,a32]at this;unfold a6I;rw[show a9h []=0 from rfl]at this;simp only[this,oB]
theorem d5t{r:List Int}{m:Nat}(hm:m≤4)(hr:r.length<100000):b0V (r,(m:Int))=some (a9h (r.drop m)):=by
 have hmx:a1D (m:Int) 0=(m:Int):=by
  have d:decide ((0:Int) > (m:Int))=false:=by simp
  simp only[a1D,d,cF]
 unfold b0V
 by_cases hl:m≤r.length
 have:=a0I (f:=a7V) (fun j:Nat=>(r,a9h ((r.take (m+j)).drop m),((m+j:Nat):Int),())) (r.length-m) (b:=(a9h (r.drop m),()))
  (fun j hj=>by
   have hi:m+j<r.length:=by omega
   simp only[a7V,dlt hi,cT,a0d hi,oB,b7e,a0c (show m+j<1000000 by omega)];rw[show m+(j+1)=(m+j)+1 from rfl,b9a hi (by omega),c2a];rfl)
  (by
   have e:m+(r.length-m)=r.length:=by omega
   rw[e];have d:decide ((r.length:Int)<(r.length:Int))=false:=by simp
   simp only[a7V,d,cF,a20])
 have e0:(r.take m).drop m=[]:=a35 (by rw[a04];omega);simp only[a52,e0]at this;rw[show a9h []=0 from rfl]at this;simp only[hmx,this,oB];have d:decide ((m:Int)<(r.length:Int))=false:=by simp;omega
 rw[hmx,a0j (b:=((0:Int),())) (by simp only[a7V,d,cF])];rw[a35 (by omega)];rfl
def a4U(l:List Int)(o:Nat):List Int×Int:=if o≤l.length then(bif (a1G o l).all a0b then(a1G o l,0)else([],6))else([],1)
theorem d4m{l:List Int}{o:Nat}(ho:o≤4)(hs:l.length<100000)(hw:l.all a0b=true):a3W (l,(o:Int))=some (a4U l o):=by
 unfold a4U
 by_cases hn:o≤l.length
 rw[if_pos hn,b4Z ho hn (by unfold short;omega) hw];rw[if_neg hn];have c1:decide ((o:Int)<0)=false:=decide_eq_false (by omega);have c2:decide ((o:Int) > 4)=false:=decide_eq_false (by omega);have c3:decide (((l.length:Nat):Int)<(o:Int))=true:=decide_eq_true (by omega);unfold a3W;simp only[c1,c2,c3,cF,cT,oB]
theorem c9I{l:List Int}{o:Nat}(ho:o≤4)(hs:l.length<100000)(hw:l.all a0b=true):a3d (l,(o:Int))=some (a4U l o):=by
 unfold a4U
 by_cases hn:o≤l.length
 rw[if_pos hn,b6L ho hn (by unfold short;omega) hw];rw[if_neg hn];have c1:decide ((o:Int)<0)=false:=decide_eq_false (by omega);have c2:decide ((o:Int) > 4)=false:=decide_eq_false (by omega);have c3:decide (((l.length:Nat):Int)<(o:Int))=true:=decide_eq_true (by omega);unfold a3d;simp only[c1,c2,c3,cF,cT,oB]
theorem c9J{l:List Int}{o:Nat}(h:(a4U l o).2=0):(a4U l o).1.all a0b=true∧(a4U l o).1.length≤l.length:=by
 unfold a4U at h⊢
 by_cases hn:o≤l.length
 ·rw[if_pos hn]at h⊢;cases hb:(a1G o l).all a0b with
  |false=>rw[hb]at h;cases h
  |true=>exact⟨hb,by rw[cT,a5U];omega⟩
 rw[if_neg hn]at h;cases h
theorem d2Z{l:List Int}{o:Nat}(ho:o≤4)(hs:l.length<100000)(hw:l.all a0b=true):
  a7C (l,(o:Int))=some (bif (a4U l o).2 != 0 then 0 else a9h ((a4U l o).1.drop (4-o))):=by
 unfold a7C;simp only[c9I ho hs hw,oB];cases hb:((a4U l o).2 != 0)with
 |true=>simp only[cT]
 |false=>
  have h0:(a4U l o).2=0:=by simpa using hb
  have e:wrap .i64 ((4:Int)-(o:Int))=((4-o:Nat):Int):=by rw[a0k (by omega)];omega
  have:=(c9J h0).2
  simp only[cF,e,d5t (show 4-o≤4 by omega) (show(a4U l o).1.length<100000 by omega),oB]
def d9z(a b:Int×Int):Prop:=(a=(0,-1)∧b=(-1,0))∨(a=b∧0≤a.1∧0≤a.2)
theorem b4H{l:List Int}(hs:l.length<100000)(hw:l.all a0b=true):∀(j i:Nat)(a b:Int×Int),i+j=5→d9z a b→
  ∃x y:Int,a0e a1v (l,a.1,a.2,(i:Int),())=some (x,())∧a0e a2L (l,b.1,b.2,(i:Int),())=some (y,())∧a1D y 0=x
 |0,i,a,b,hi,hR=>by
  obtain rfl:i=5:=by omega
  refine⟨a.1,b.1,a0j (by simp[a1v]),a0j (by simp[a2L]),?_⟩;rcases hR with⟨rfl,rfl⟩|⟨rfl,h1,-⟩;rfl;have d:decide ((0:Int) > a.1)=false:=by simp;omega
  simp only[a1D,d,cF]
 |j+1,i,a,b,hi,hR=>by
  have ho:i≤4:=by omega
  have d1:decide ((i:Int)≤4)=true:=by simp;omega
  have d2:decide ((i:Int)<5)=true:=by simp;omega
  have hpr:=d4m ho hs hw;have hrr:=c9I ho hs hw;have hrw:=d2Z ho hs hw;have hwi:wrap .i64 ((i:Int)+1)=((i+1:Nat):Int):=a0c (by omega)
  by_cases h0:(a4U l i).2=0
  ·obtain⟨r1,r2⟩:=c9J h0;have hne:((a4U l i).2 != 0)=false:=by rw[h0];rfl
   have heq:((a4U l i).2==0)=true:=by rw[h0];rfl
   have hwg:=d5s (r:=(a4U l i).1) ho (by omega);have hpos:0≤a9h ((a4U l i).1.drop (4-i)):=d0D (by rw[a07];omega) (lA.2 fun x hx=>lA.1 r1 x (a24 hx));rw[hne,cF]at hrw;generalize hv:a9h ((a4U l i).1.drop (4-i))=v at hrw hwg hpos;rcases hR with⟨rfl,rfl⟩|⟨rfl,h1,h2⟩;obtain⟨x,y,g1,g2,g3⟩:=b4H hs hw j (i+1) ((i:Int),v) ((i:Int),v) (by omega) (.inr ⟨rfl,by simp,hpos⟩);have e1:decide ((-1:Int)<0)=true:=rfl;refine⟨x,y,?_,?_,g3⟩;rw[a0p (s':=(l,(i:Int),v,((i+1:Nat):Int),())) (by simp only[a1v,d1,cT,hpr,oB,hne,cF,hwg,e1,hwi])];exact g1;rw[a0p (s':=(l,(i:Int),v,((i+1:Nat):Int),())) (by simp only[a2L,d2,cT,hrr,oB,heq,hrw,e1,hwi])];exact g2
   ·have e1:decide (a.2<0)=false:=by simp;omega
    have e2:decide (a.1<0)=false:=by simp;omega
    cases hlt:decide (v<a.2)with
    |true=>
     obtain⟨x,y,g1,g2,g3⟩:=b4H hs hw j (i+1) ((i:Int),v) ((i:Int),v) (by omega) (.inr ⟨rfl,by simp,hpos⟩);refine⟨x,y,?_,?_,g3⟩;rw[a0p (s':=(l,(i:Int),v,((i+1:Nat):Int),())) (by simp only[a1v,d1,cT,hpr,oB,hne,cF,hwg,e1,hlt,hwi])];exact g1;rw[a0p (s':=(l,(i:Int),v,((i+1:Nat):Int),())) (by simp only[a2L,d2,cT,hrr,oB,heq,hrw,e2,cF,hlt,hwi])];exact g2
    |false=>
     obtain⟨x,y,g1,g2,g3⟩:=b4H hs hw j (i+1) a a (by omega) (.inr ⟨rfl,h1,h2⟩);refine⟨x,y,?_,?_,g3⟩;rw[a0p (s':=(l,a.1,a.2,((i+1:Nat):Int),())) (by simp only[a1v,d1,cT,hpr,oB,hne,cF,hwg,e1,hlt,hwi])];exact g1;rw[a0p (s':=(l,a.1,a.2,((i+1:Nat):Int),())) (by simp only[a2L,d2,cT,hrr,oB,heq,hrw,e2,cF,hlt,hwi])];exact g2
  have hne:((a4U l i).2 != 0)=true:=by simpa using h0
  have heq:((a4U l i).2==0)=false:=by simpa using h0
  obtain⟨x,y,g1,g2,g3⟩:=b4H hs hw j (i+1) a b (by omega) hR;refine⟨x,y,?_,?_,g3⟩;rw[a0p (s':=(l,a.1,a.2,((i+1:Nat):Int),())) (by simp only[a1v,d1,cT,hpr,oB,hne,hwi])];exact g1;rw[a0p (s':=(l,b.1,b.2,((i+1:Nat):Int),())) (by simp only[a2L,d2,cT,hrr,oB,heq,hrw,cF,hwi])];exact g2
theorem c5C{l:List Int}(hs:l.length<100000)(hw:l.all a0b=true):∃o,a4Y l=some o∧a7c l=some o:=by
 obtain⟨x,y,h1,h2,h3⟩:=b4H hs hw 5 0 (0,-1) (-1,0) rfl (.inl ⟨rfl,rfl⟩);simp only[nZ,a32]at h1 h2;refine⟨x,?_,?_⟩;unfold a4Y;simp only[h1,oB];unfold a7c;simp only[h2,oB,h3]
end Go.Ab
