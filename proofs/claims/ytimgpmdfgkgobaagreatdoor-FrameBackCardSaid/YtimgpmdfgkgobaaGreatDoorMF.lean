/- Part of the proof: QK, QN, QO, QP, QQ, QR, QRA, QRB, QRC, QRD, QRE, QRF, QRG, QRH, QRI, QRJ, QS, QT, QU, QUA, QUB, QUC, QUD, QUE, QUF, QUG, QUH, QV, QW, QX, QY, QZA, QZB, QZC, QZD, QZE, QZF, QZG, QZH, QZI, QZJ, QZK, QZL, QZM, QZN. Conditions: as each statement tells. -/
import Derived.KernelRfl
import Derived.Test.YtimgpmdfgkgobaaGreatDoorME
noncomputable section
set_option linter.unusedSimpArgs false
set_option linter.unusedVariables false
open BitVec renaming ofInt→a04,ofInt_natCast→a27,toNat_ofNat→a30,toNat_ofInt→a31,toNat_and→a59,toNat_or→a63
open Bool renaming and_self→a02,or_eq_true→a24,true_and→a32,not_eq_true'→a34,not_false→a38,false_and→a55,or_eq_false_iff→a97,eq_false_iff→b19
open Int renaming eq_ofNat_of_zero_le→a00,cast_ofNat_Int→a17,toNat_of_nonneg→a26,natCast_dvd_natCast→a33,toNat→a35,fdiv_eq_ediv_of_nonneg→a37,tmod→a43,tmod_eq_emod_of_nonneg→a44,tdiv_eq_ediv_of_nonneg→a60,dvd_mul_of_dvd_left→a64,mul_nonneg→a66,tdiv→a68,natCast_mul→a77,natCast_nonneg→a82,mul_fdiv_cancel_left→a83,dvd_add_left→a86,mul_comm→a88,dvd_zero→a89,bmod_add_bmod→b07,emod_eq_of_lt→b09,sub_mul→b21,fdiv→b28,natCast_add→b29
open List renaming replicate→a01,drop_eq_getElem_cons→a03,length_take→a05,nil_append→a06,length_drop→a07,all_cons→a08,getElem_mem→a09,append_eq→a16,drop_zero→a18,length_nil→a19,drop_length→a22,getElem?_append_right→a23,append_nil→a25,take_length→a29,mem_of_mem_take→a40,mem_of_mem_drop→a41,length→a46,length_eq_zero_iff→a48,mem_singleton→a50,sum_cons→a52,singleton_append→a53,length_singleton→a54,map_cons→a61,getElem?_append_left→a62,flatMap_cons→a67,getElem?_set_self→a69,take_succ_eq_append_getElem→a70,not_mem_nil→a71,getElem?_eq_none→a72,getElem?_set_ne→a75,mem_cons_self→a81,cons_append→a85,foldl_cons→a91,take_of_length_le→a92,eq_nil_or_concat→a93,concat_eq_append→a94,mem_cons_of_mem→a96,mem_append_left→a98,mem_replicate→b04,map_nil→b06,take→b18,ext_getElem?→b20,mem_flatMap→b26,take_zero→b30,getD→b31,drop→b32
open Nat renaming pow_le_pow_right→a20,two_pow_pos→a21,mod_eq_of_lt→a28,mul_le_mul_right→a39,le_refl→a42,mod_lt→a45,lt_of_le_of_lt→a49,div_le_self→a51,two_pow_add_eq_or_of_lt→a56,lt_trans→a57,pow_succ→a58,dvd_iff_mod_eq_zero→a65,div_lt_iff_lt_mul→a73,and_two_pow_sub_one_eq_mod→a74,min_eq_left→a76,pow_dvd_pow→a78,mul_comm→a79,testBit_two_pow_mul_add→a80,div_eq_of_lt→a84,add_zero→a87,add_sub_cancel_left→a90,mul_le_mul→a95,mul_assoc→a99,testBit_two_pow→b00,one_le_two_pow→b01,lt_of_lt_of_le→b02,and_one_is_mod→b03,le_of_lt→b05,or_lt_two_pow→b08,add_mod_right→b17,mul_add→b22,mul_one→b23,le_of_not_lt→b24,lt_of_not_le→b25,div_add_mod→b27
open Option renaming map_eq_some_iff→a36,bind_eq_some_iff→a47
namespace Go.Ab
open IntKind(wrap)
def a1X(x w:Int):Bool:=decide (1≤w)&&(decide (w≤31)&&(decide (a0z .i64 (-1) (w-1)≤x)&&decide (x≤wrap .i64 (a0z .i64 1 (w-1)-1))))
theorem a7q{x:Int}{w:Nat}(hw:w≤32):a4F (x,(w:Int))=some (a1X x w):=by
 unfold a4F a1X b5E b4s
 by_cases h1:1≤(w:Int)
 by_cases h2:(w:Int)≤31
 have g1:decide ((w:Int)<1)=false:=by simp;omega
 have g2:decide ((w:Int) > 31)=false:=by simp;omega
 have e:wrap .i64 ((w:Int)-1)=(w:Int)-1:=a0f (by omega);have g3:decide ((w:Int)-1<0)=false:=by simp;omega
 have h1':decide ((w:Int)≥1)=true:=by simp;omega
 simp only[h1',h1,h2,g1,g2,g3,e,decide_true,cT,cF,oB,a32]
 by_cases h3:a0z .i64 (-1) ((w:Int)-1)≤x<;>simp[h3]
 have h1':decide ((w:Int)≥1)=true:=by simp;omega
 simp only[h1',h1,h2,decide_true,decide_false,cT,cF,a32,a55];have h1':decide ((w:Int)≥1)=false:=by simp;omega
 simp only[h1',h1,decide_false,cF,a55]
theorem c9H{x:Int}{w:Nat}(hw:w≤32):b4d (x,(w:Int))=some (a1X x w):=by
 unfold b4d a1X c2D c0M
 by_cases h1:1≤(w:Int)
 by_cases h2:(w:Int)≤31
 have g1:decide ((w:Int)<1)=false:=by simp;omega
 have g2:decide ((w:Int) > 31)=false:=by simp;omega
 have e:wrap .i64 ((w:Int)-1)=(w:Int)-1:=a0f (by omega);have eu:wrap .u64 ((w:Int)-1)=(w:Int)-1:=a0G (by omega);have g3:decide ((w:Int)-1<0)=false:=by simp;omega
 have h1':decide ((w:Int)≥1)=true:=by simp;omega
 simp only[h1',h1,h2,g1,g2,g3,e,eu,decide_true,cT,cF,oB,a32]
 by_cases h3:a0z .i64 (-1) ((w:Int)-1)≤x<;>simp[h3]
 have h1':decide ((w:Int)≥1)=true:=by simp;omega
 simp only[h1',h1,h2,decide_true,decide_false,cT,cF,a32,a55];have h1':decide ((w:Int)≥1)=false:=by simp;omega
 simp only[h1',h1,decide_false,cF,a55]
def a2o(x:Int):Nat→Nat→Nat
 |0,w=>w
 |k+1,w=>bif (x != 0)&&!a1X x w then a2o x k (w+1)else w
theorem c2H(x:Int):∀(k w:Nat),a2o x k w≤w+k
 |0,w=>a42 _
 |k+1,w=>by
  simp only[a2o];cases (x != 0)&&!a1X x w with
  |true=>have:=c2H x k (w+1);simp only[cT];omega
  |false=>simp only[cF];omega
def a0l(l:List Int):Nat:=l.foldl (fun w x=>a2o x (32-w) w) 0
theorem b9C:∀(l:List Int)(w:Nat),w≤32→l.foldl (fun w x=>a2o x (32-w) w) w≤32
 | [],w,h=>h
 |x::l,w,h=>b9C l _ (show a2o x (32-w) w≤32 by have:=c2H x (32-w) w;omega)
theorem a7x(l:List Int):a0l l≤32:=b9C l 0 (by omega)
theorem c6a{x:Int}{l:List Int}{n i:Int}:∀(k w:Nat),w+k=32→a0h a3K ((w:Int),x,l,n,i,())=some (((a2o x k w:Nat):Int),l,n,i,())
 |0,w,h=>by
  obtain rfl:w=32:=by omega
  exact a0o (by cases hx:(x != 0)<;>simp[a3K,hx,a2o])
 |k+1,w,h=>by
  have h1:decide ((w:Int)<32)=true:=by simp;omega
  simp only[a2o];cases hx:(x != 0)with
  |false=>exact a0o (by simp only[a3K,hx,cF,a55])
  |true=>
   cases hf:a1X x w with
   |true=>exact a0o (by simp only[a3K,hx,h1,a7q (show w≤32 by omega),hf,oB,cT,cF,bT,Bool.and_false])
   |false=>
    rw[a0q (s':=(((w+1:Nat):Int),x,l,n,i,())) (by simp only[a3K,hx,h1,a7q (show w≤32 by omega),hf,oB,cT,a38,a0d (show w<1000000 by omega)])];exact c6a k (w+1) (by omega)
theorem a2U{l:List Int}(hs:short l):a1F l=some ((a0l l:Nat):Int):=by
 have hs:l.length<1000000:=hs
 have:=a2x (f:=a6M) l (fun i (w:Nat)=>((w:Int),l,(l.length:Int),(i:Int),())) (fun w x=>(.inl (a2o x (32-w) w):Nat ⊕ (Int×Unit))) (fun _ w=>w≤32) (fun w=>((w:Int),()))
  (fun i h w hw=>⟨fun a' ha=>by
   simp only[Sum.inl.injEq]at ha;subst ha;refine⟨?_,by have:=c2H l[i] (32-w) w;omega⟩;simp only[a6M,dlt h,cT,a0c h,oB,c6a (32-w) w (by omega),a0d (show i<1000000 by omega)],fun b hb=>(by cases hb)⟩)
  (fun w _=>by simp[a6M]) (a:=0) (by omega)
 simp only[nZ]at this;unfold a1F;rw[this];have key:∀(l:List Int)(w:Nat),a3G (fun w x=>(.inl (a2o x (32-w) w):Nat ⊕ (Int×Unit))) l w=.inl (l.foldl (fun w x=>a2o x (32-w) w) w):=by
  intro l
  induction l with
  |nil=>intro w;rfl
  |cons x l ih=>intro w;simp only[a3G,a91,ih]
 rw[key];rfl
theorem b2l(x:Int):a8B x=some (a0b x):=by
 unfold a8B a0b
 by_cases h:-1073741824≤x<;>simp[h]
def a0u(x:Int):Nat:=if 0≤x then(2*x).toNat else(-2*x-1).toNat
theorem b1i{x:Int}(h:a0b x=true):a0u x<2147483648:=by
 have:=a2j.1 h
 unfold a0u
 split<;>omega
theorem b2m{x:Int}(h:a0b x=true):b0w x=some ((a0u x:Nat):Int):=by
 have hx:=a2j.1 h;unfold b0w a0u;simp only[b2l,h,oB,bT,cF]
 by_cases h0:0≤x
 have h0':decide (x≥0)=true:=by simp;omega
 simp only[h0',cT,if_pos h0];rw[a0f (n:=2*x) (by omega),a0G (by omega)];congr 1;omega;have h0':decide (x≥0)=false:=by simp;omega
 simp only[h0',cF,if_neg h0];rw[a0f (n:=-2*x) (by omega),a0f (n:=-2*x-1) (by omega),a0G (by omega)];congr 1;omega
theorem a7y{N o:Nat}(h:o≤64):a0C .u64 (N:Int) (o:Int)=((N / 2^o:Nat):Int):=c8m h
theorem b4g{N o:Nat}(h:o≤64)(hs:N*2^o<9223372036854775808):a0z .u64 (N:Int) (o:Int)=((N*2^o:Nat):Int):=by
 unfold a0z;show wrap .u64 ((N:Int)*2^(min (o:Int).toNat 64))=_;rw[tN,a76 h];have e:(N:Int)*2^o=((N*2^o:Nat):Int):=by rw[a77,Int.natCast_pow];rfl
 rw[e];exact a0G (by omega)
theorem c8r{y k:Nat}(hy:y<18446744073709551616)(hk:k≤62):bits .u64 .and (y:Int) (wrap .u64 (a0z .u64 1 (k:Int)-1))=((y%2^k:Nat):Int):=by
 have hp:2^k≤2^62:=a20 (by decide) hk;have hp1:1≤2^k:=b01;have hp2:(2:Nat)^62=4611686018427387904:=by decide
 have e0:a0z .u64 1 (k:Int)=((2^k:Nat):Int):=by have:=b4g (N:=1) (o:=k) (by omega) (by omega);simpa using this
 have e1:wrap .u64 (((2^k:Nat):Int)-1)=((2^k-1:Nat):Int):=by rw[a0G (by omega)];omega
 rw[e0,e1];show wrap .u64 (((a04 64 (y:Int)) &&& (a04 64 ((2^k-1:Nat):Int))).toNat:Int)=_;rw[a27,a27,a59,a30,a30,a28 hy,a28 (by omega),a74]
 have:y%2^k<2^k:=a45 _ (by omega)
 exact a0G (by omega)
theorem b6a{q:Nat}(h:q<2147483648):wrap .i64 (q:Int)=(q:Int):=a0f (by omega)
def a7Q(k:Nat)(x:Int)(L:List Int):List Int:=
 if a0u x / 2^k<32 then a0w ((a0u x%2^k:Nat):Int) k (unL (a0u x / 2^k) L)else a0w ((a0u x:Nat):Int) 32 (unL 32 L)
def a4R(k:Nat)(l:List Int)(L:List Int):List Int:=l.foldl (fun L x=>a7Q k x L) L
theorem c0Q{k:Nat}(hk:k≤25)(x:Int)(L:List Int):L.length≤(a7Q k x L).length∧(a7Q k x L).length≤L.length+100:=by
 unfold a7Q;split;rename_i hq;have h1:=a0F ((a0u x%2^k:Nat):Int) k (unL (a0u x / 2^k) L);have h2:=b0b (a0u x / 2^k) L;generalize unL (a0u x / 2^k) L=M at h1 h2⊢;generalize a0u x / 2^k=q at hq h2;omega;have h1:=a0F ((a0u x:Nat):Int) 32 (unL 32 L);have h2:=b0b 32 L;omega
theorem b9D{k:Nat}(hk:k≤25):∀(l L:List Int),L.length≤(a4R k l L).length∧(a4R k l L).length≤L.length+100*l.length
 | [],L=>by simp[a4R]
 |x::l,L=>by
  have h1:=c0Q hk x L;have h2:=b9D hk l (a7Q k x L);have e:a4R k (x::l) L=a4R k l (a7Q k x L):=rfl;rw[e,lC];omega
theorem b0l{k:Nat}(hk:k≤25):a2w (k:Int)=some true:=by
 unfold a2w;have h1:decide ((0:Int)≤(k:Int))=true:=by simp
 have h2:decide ((k:Int)≤25)=true:=by simp;omega
 simp only[h1,h2,cT]
theorem c9I{k:Nat}{l L:List Int}(hk:k≤25)(hl:l.length<10000)(hw:l.all a0b=true)(hL:L.length<900000000):b4L (wL L,(k:Int),l)=some (0,wL (a4R k l L)):=by
 have h0:=a1N (f:=b0O) l (fun i=>((k:Int),l,l,(l.length:Int),(i:Int),wL L,())) (fun _=>true) (bt:=Sum.inl ((k:Int),l,wL L,())) (bf:=Sum.inl ((k:Int),l,wL L,()))
  (fun i h _=>by
   have:=lA.1 hw _ (a09 h)
   simp only[b0O,dlt h,cT,a0c h,oB,b2l,this,bT,cF,a0d (show i<1000000 by omega)])
  (fun i h hp=>by simp at hp) (by simp[b0O])
 have key:∀(j i:Nat)(L':List Int),i+j=l.length→L'.length+100*j<999990000→a0h a8i ((k:Int),l,(l.length:Int),(i:Int),wL L',())=some (wL (a4R k (l.drop i) L'),()):=by
  intro j
  induction j with
  |zero=>
   intro i L' hi _;obtain rfl:i=l.length:=by omega
   rw[a22];exact a0o (by simp[a8i,a4R])
  |succ j ih=>
   intro i L' hi hb;have hlt:i<l.length:=by omega
   have hwi:=lA.1 hw _ (a09 hlt);have hy:=b1i hwi;have hrl:=c0Q hk l[i] L';have hk0:decide ((k:Int)<0)=false:=by simp
   have eq:a0C .u64 ((a0u l[i]:Nat):Int) (k:Int)=((a0u l[i] / 2^k:Nat):Int):=a7y (by omega);have hql:=a51 (a0u l[i]) (2^k);have hmod:=b27 (a0u l[i]) (2^k);have emul:a0z .u64 ((a0u l[i] / 2^k:Nat):Int) (k:Int)=((a0u l[i] / 2^k*2^k:Nat):Int):=b4g (by omega) (by rw[a79];omega);have em:wrap .u64 (((a0u l[i]:Nat):Int)-((a0u l[i] / 2^k*2^k:Nat):Int))=((a0u l[i]%2^k:Nat):Int):=by
    rw[a79 (a0u l[i] / 2^k)];rw[a0G (by omega)];omega
   have ew:wrap .i64 ((a0u l[i] / 2^k:Nat):Int)=((a0u l[i] / 2^k:Nat):Int):=b6a (a49 hql hy);rw[a03 hlt,a0q (s':=((k:Int),l,(l.length:Int),((i+1:Nat):Int),wL (a7Q k l[i] L'),())) (by
    by_cases hq:a0u l[i] / 2^k<32
    have hd:decide (((a0u l[i] / 2^k:Nat):Int)<32)=true:=decide_eq_true (by omega);have hu:(unL (a0u l[i] / 2^k) L').length<999999000:=by
     rw[b0b];exact b02 (Nat.add_lt_add_right (Nat.add_lt_add_left hq _) 1) (by omega)
    have hun:=c8q (L:=L') (n:=a0u l[i] / 2^k) (b05 (a57 hq (by decide))) (by omega);have hp:=a4c (L:=unL (a0u l[i] / 2^k) L') (v:=((a0u l[i]%2^k:Nat):Int)) (n:=k) (by omega) hu;simp only[a8i,dlt hlt,cT,a0c hlt,oB,b2m hwi,hk0,cF,eq,hd,ew,hun,emul,em,hp,a7Q,if_pos hq,a0d (show i<1000000 by omega)];have hd:decide (((a0u l[i] / 2^k:Nat):Int)<32)=false:=decide_eq_false (by omega);have hu:=b0b 32 L';have hun:a2Y (wL L',(32:Int))=some (0,wL (unL 32 L')):=c8q (L:=L') (n:=32) (by omega) (by omega);have hp:a0m (wL (unL 32 L'),((a0u l[i]:Nat):Int),(32:Int))=some (a9x ((a0u l[i]:Nat):Int) 32,wL (a0w ((a0u l[i]:Nat):Int) 32 (unL 32 L'))):=a4c (L:=unL 32 L') (v:=((a0u l[i]:Nat):Int)) (n:=32) (by omega) (by omega);simp only[a8i,dlt hlt,cT,a0c hlt,oB,b2m hwi,hk0,cF,eq,hd,hun,hp,a7Q,if_neg hq,a0d (show i<1000000 by omega)])]
   exact ih (i+1) _ (by omega) (by omega)
 have h1:=key l.length 0 L (by omega) (by omega);simp only[nZ,a18]at h0 h1;unfold b4L;simp only[b0l hk,oB,bT,cF,h0];cases l.all (fun _=>true)<;>simp only[cT,cF,h1,oB]
end Go.Ab
namespace Go.Ab
open IntKind(wrap)
def a1s(zn:List Nat):List Int:=zn.map fun(a:Nat)=>(a:Int)
theorem c6M(n M:Nat):(a01 n M).sum=n*M:=by
 induction n with
 |zero=>simp
 |succ n ih=>rw[List.replicate_succ,a52,ih,Nat.succ_mul,Nat.add_comm]
theorem b7r{o n warm:Int}(h:(a1B o n warm).length≠0):∃zn:List Nat,a1B o n warm=a1s zn∧(zn.sum:Int)=n-warm∧zn.length≤256:=by
 unfold a1B at h⊢;cases hr:(a6G n warm&&(decide (0≤o)&&decide (o≤8)))with
 |false=>rw[hr]at h;simp at h
 |true=>
  rw[hr]at h;simp only[cT]at h⊢;simp only[a6G,bA,dT]at hr;unfold b7Y at h⊢
  split at h
  rename_i hc;rw[if_pos hc];obtain⟨O,rfl⟩:=a00 hr.2.1;obtain⟨N,rfl⟩:=a00 (show 0≤n by omega);obtain⟨w,rfl⟩:=a00 (show 0≤warm by omega);simp only[tN]at hc⊢;have hp:=d7Q (o:=O) (by omega);have hm:=b27 N (2^O);rw[hc.1,a87]at hm;have hw:w≤N / 2^O:=by have:=hc.2;omega
  generalize N / 2^O=M at hc hw hm⊢;generalize 2^O=P at hp hm⊢;refine⟨(M-w)::a01 (P-1) M,?_,?_,?_⟩;simp only[a1s,a61,List.map_replicate];congr 1;omega;rw[a52,c6M];obtain⟨q,rfl⟩:∃q,P=q+1:=⟨P-1,by omega⟩;rw[Nat.add_sub_cancel];rw[Nat.succ_mul]at hm;omega
  simp;omega
  exact absurd rfl h
def b0W(k:Int)(part L:List Int):List Int:=
 if k=31 then a1P (a0l part) part (a0w ((a0l part:Nat):Int) 5 (a0w (wrap .u64 k) 5 L))else a4R k.toNat part (a0w (wrap .u64 k) 5 L)
def a4w:List Nat→List Int→List Int→List Int→List Int
 |z::zs,k::ks,l,L=>a4w zs ks (l.drop z) (b0W k (l.take z) L)
 |_,_,_,L=>L
theorem c0R{k:Int}(hk:kB k=true)(part L:List Int):L.length≤(b0W k part L).length∧(b0W k part L).length≤L.length+10+100*part.length:=by
 unfold b0W;have h1:=a0F (wrap .u64 k) 5 L;split;have h2:=a0F ((a0l part:Nat):Int) 5 (a0w (wrap .u64 k) 5 L);have h3:=a7p (a0l part) part (a0w ((a0l part:Nat):Int) 5 (a0w (wrap .u64 k) 5 L));have hw:=a7x part
 have:a0l part*part.length≤32*part.length:=a39 _ hw
 omega;rename_i hne;simp only[kB,a24,bA,dT,beq_iff_eq]at hk;have h3:=b9D (k:=k.toNat) (by omega) part (a0w (wrap .u64 k) 5 L);omega
theorem a9y{zn:List Nat}{i:Nat}(h:i<zn.length):b31 (a1s zn) i 0=((zn[i]:Nat):Int):=by
 rw[b8L (by simpa[a1s]using h)];simp[a1s]
theorem a1J(zn:List Nat):(a1s zn).length=zn.length:=by simp[a1s]
theorem b8O{zn:List Nat}{i:Nat}(h:i<zn.length):(zn.drop i).sum=zn[i]+(zn.drop (i+1)).sum:=by
 rw[a03 h,a52]
theorem c8s{part rest:List Int}{wd:Nat}{a b:Int}{z:List Int}{p:Prt}(hw:wd≤32)(hp:part.length<10000):∀(j i:Nat)(L:List Int),i+j=part.length→L.length+64*j<999990000→
  a0h a9O (rest,(wd:Int),a,b,part,(part.length:Int),(i:Int),z,wL L,p,())=some (rest,a,b,z,wL (a1P wd (part.drop i) L),p,())
 |0,i,L,hi,_=>by
  obtain rfl:i=part.length:=by omega
  rw[a22];exact a0o (by simp[a9O,a1P])
 |j+1,i,L,hi,hb=>by
  have hlt:i<part.length:=by omega
  have h2:decide ((wd:Int)<0)=false:=by simp
  have hpl:=a0F (a0H part[i] wd) wd L;rw[a03 hlt,a0q (s':=(rest,(wd:Int),a,b,part,(part.length:Int),((i+1:Nat):Int),z,wL (a0w (a0H part[i] wd) wd L),p,())) (by
   simp only[a9O,dlt hlt,cT,a0c hlt,oB,h2,cF,show bits .u64 .and (wrap .u64 part[i]) (wrap .u64 ((a0z .u64 1 (wd:Int))-1))=a0H part[i] wd from rfl,a4c (show wd≤63 by omega) (show L.length<999999000 by omega),a0d (show i<1000000 by omega)])]
  exact c8s hw hp j (i+1) _ (by omega) (by omega)
theorem b8c{zn:List Nat}{p:Prt}(hk:p.2.1.length=zn.length)(hall:p.2.1.all kB=true)(hz:zn.length≤256):∀(j i:Nat)(l L:List Int),i+j=zn.length→(zn.drop i).sum=l.length→l.all a0b=true→l.length≤5000→L.length+10*j+100*l.length<800000000→
  a0h a5s (l,(zn.length:Int),(i:Int),a1s zn,wL L,p,())=some (wL (a4w (zn.drop i) (p.2.1.drop i) l L),())
 |0,i,l,L,hi,_,_,_,_=>by
  obtain rfl:i=zn.length:=by omega
  rw[a22];exact a0o (by simp[a5s,a4w])
 |j+1,i,l,L,hi,hsum,hw,hl5,hb=>by
  have hlt:i<zn.length:=by omega
  have hki:i<p.2.1.length:=by omega
  have hkb:=lA.1 hall _ (a09 hki);rw[b8O hlt]at hsum;have h0:decide ((0:Int)≤(i:Int))=true:=by simp
  have h1:decide ((i:Int)<(((a1s zn).length:Nat):Int))=true:=by rw[a1J];simp;omega
  have h2:decide ((0:Int)≤((zn[i]:Nat):Int))=true:=by simp
  have h3:decide (((zn[i]:Nat):Int)≤((l.length:Nat):Int))=true:=by simp;omega
  have hpart:(l.take zn[i]).length=zn[i]:=by rw[a05];omega
  have hrest:(l.drop zn[i]).length=(zn.drop (i+1)).sum:=by rw[a07];omega
  have hwp:(l.take zn[i]).all a0b=true:=lA.2 fun x hx=>lA.1 hw x (a40 hx);have hwr:(l.drop zn[i]).all a0b=true:=lA.2 fun x hx=>lA.1 hw x (a41 hx);have hpl:=c0R hkb (l.take zn[i]) L;have hp1:=a0F (wrap .u64 p.2.1[i]) 5 L;have hput:a0m (wL L,wrap .u64 p.2.1[i],(5:Int))=some (a9x (wrap .u64 p.2.1[i]) 5,wL (a0w (wrap .u64 p.2.1[i]) 5 L)):=a4c (n:=5) (by omega) (by omega);have ed:zn.drop i=zn[i]::zn.drop (i+1):=a03 hlt;have ek:p.2.1.drop i=p.2.1[i]::p.2.1.drop (i+1):=a03 hki;rw[ed,ek,a4w];have goal:a5s (l,(zn.length:Int),(i:Int),a1s zn,wL L,p,())=some (.inl (l.drop zn[i],(zn.length:Int),((i+1:Nat):Int),a1s zn,wL (b0W p.2.1[i] (l.take zn[i]) L),p,())):=by
   by_cases h31:p.2.1[i]=31
   have hne:(p.2.1[i] != 31)=false:=by rw[h31];rfl
   have hwd:=a7x (l.take zn[i]);have hsw:=a2U (l:=l.take zn[i]) (by unfold short;omega);have hp2:=a0F ((a0l (l.take zn[i]):Nat):Int) 5 (a0w (wrap .u64 p.2.1[i]) 5 L);have ew:wrap .u64 ((a0l (l.take zn[i]):Nat):Int)=((a0l (l.take zn[i]):Nat):Int):=a0G (by omega);have hput2:a0m (wL (a0w (wrap .u64 p.2.1[i]) 5 L),((a0l (l.take zn[i]):Nat):Int),(5:Int))=some (a9x ((a0l (l.take zn[i]):Nat):Int) 5,wL (a0w ((a0l (l.take zn[i]):Nat):Int) 5 (a0w (wrap .u64 p.2.1[i]) 5 L))):=a4c (n:=5) (by omega) (by omega);have hraw:=c8s (part:=l.take zn[i]) (rest:=l.drop zn[i]) (a:=(zn.length:Int)) (b:=(i:Int)) (z:=a1s zn) (p:=p) hwd (by omega) (l.take zn[i]).length 0 (a0w ((a0l (l.take zn[i]):Nat):Int) 5 (a0w (wrap .u64 p.2.1[i]) 5 L)) (by omega) (by omega);simp only[nZ,a18]at hraw;simp only[a5s,dlt hlt,h0,h1,a9y hlt,h2,h3,cT,a02,tN,a0c hki,oB,hput,hne,cF,hsw,ew,hput2,a29,hraw,a0d (show i<1000000 by omega),b0W,if_pos h31];have hne:(p.2.1[i] != 31)=true:=by simp[h31]
   simp only[kB,a24,bA,dT,beq_iff_eq]at hkb;obtain⟨K,hK⟩:=a00 (show 0≤p.2.1[i]by omega);have hrice:=c9I (k:=K) (l:=l.take zn[i]) (L:=a0w (wrap .u64 p.2.1[i]) 5 L) (by omega) (by omega) hwp (by omega);rw[←hK]at hrice;have eK:K=p.2.1[i].toNat:=by rw[hK,tN]
   simp only[a5s,dlt hlt,h0,h1,a9y hlt,h2,h3,cT,a02,tN,a0c hki,oB,hput,hne,hrice,a29,a0d (show i<1000000 by omega),b0W,if_neg h31,eK]
  rw[a0q goal];exact b8c hk hall hz j (i+1) (l.drop zn[i]) _ (by omega) hrest.symm hwr (by rw[a07];omega) (by rw[a07];omega)
end Go.Ab
namespace Go.Ab
open IntKind(wrap)
theorem c5j{k:Nat}(hk:k≤25){x:Int}(hw:a0b x=true):∃c,a8C ((k:Int),x)=some c∧0≤c∧c≤65:=by
 have hy:=b1i hw;have eq:a0C .u64 ((a0u x:Nat):Int) (k:Int)=((a0u x / 2^k:Nat):Int):=a7y (by omega);have ew:wrap .i64 ((a0u x / 2^k:Nat):Int)=((a0u x / 2^k:Nat):Int):=b6a (a49 (a51 _ _) hy);have hk0:decide ((k:Int)<0)=false:=by simp
 unfold a8C;simp only[b0l hk,b2l,hw,oB,bT,cF,b2m hw,hk0,eq,ew];generalize a0u x / 2^k=q
 by_cases hq:q<32
 have hd:decide ((q:Int)<32)=true:=decide_eq_true (by omega);refine⟨(q:Int)+1+k,?_,by omega,by omega⟩;simp only[hd,cT];rw[a0f (n:=(q:Int)+1) (by omega),a0f (by omega)];have hd:decide ((q:Int)<32)=false:=decide_eq_false (by omega);exact⟨65,by simp only[hd,cF],by omega,by omega⟩
theorem c6N{k:Nat}(hk:k≤25){l:List Int}(hw:l.all a0b=true)(hl:l.length<10000):∃c,a4k ((k:Int),l)=some c∧0≤c∧c≤65*l.length:=by
 have key:∀(j i:Nat)(c:Int),i+j=l.length→0≤c→c≤65*i→∃c',a0h a4G ((k:Int),c,l,(l.length:Int),(i:Int),())=some (c',())∧0≤c'∧c'≤65*l.length:=by
  intro j
  induction j with
  |zero=>
   intro i c hi h0 h1;obtain rfl:i=l.length:=by omega
   exact⟨c,a0o (by simp[a4G]),h0,h1⟩
  |succ j ih=>
   intro i c hi h0 h1;have hlt:i<l.length:=by omega
   obtain⟨d,hd,hd0,hd1⟩:=c5j hk (lA.1 hw _ (a09 hlt));have e:wrap .i64 (c+d)=c+d:=a0f (by omega);rw[a0q (s':=((k:Int),c+d,l,(l.length:Int),((i+1:Nat):Int),())) (by simp only[a4G,dlt hlt,cT,a0c hlt,oB,hd,e,a0d (show i<1000000 by omega)])];exact ih (i+1) _ (by omega) (by omega) (by omega)
 obtain⟨c,h1,h2,h3⟩:=key l.length 0 0 (by omega) (by omega) (by omega);simp only[nZ]at h1;exact⟨c,by unfold a4k;simp only[h1,oB],h2,h3⟩
theorem d3w{w n:Nat}(hw:w≤32)(hn:n<10000):0≤(w:Int)*(n:Int)∧(w:Int)*(n:Int)≤32*n:=by
 have h:w*n≤32*n:=a39 _ hw;have e:(w:Int)*(n:Int)=((w*n:Nat):Int):=by rw[a77]
 omega
theorem c5k{l:List Int}(hl:l.length<10000):∃c,a6F l=some c∧0≤c∧c≤5+32*l.length:=by
 have hm:=d3w (a7x l) hl;refine⟨5+((a0l l:Nat):Int)*((l.length:Nat):Int),?_,by omega,by omega⟩;unfold a6F;simp only[a2U (show short l by unfold short;omega),oB];rw[a0f (n:=((a0l l:Nat):Int)*((l.length:Nat):Int)) (by omega),a0f (by omega)]
theorem b6H{zn:List Nat}{p:Prt}(hk:p.2.1.length=zn.length)(hall:p.2.1.all kB=true)(hz:zn.length≤256):∀(j i:Nat)(l:List Int)(c:Int),i+j=zn.length→(zn.drop i).sum=l.length→l.all a0b=true→l.length≤5000→4≤c→c+10*j+65*l.length<1000000→
  ∃c',a0h a1I (l,c,(zn.length:Int),(i:Int),a1s zn,p,())=some (c',())∧4≤c'
 |0,i,l,c,hi,_,_,_,hc,_=>by
  obtain rfl:i=zn.length:=by omega
  exact⟨c,a0o (by simp[a1I]),hc⟩
 |j+1,i,l,c,hi,hsum,hw,hl5,hc,hb=>by
  have hlt:i<zn.length:=by omega
  have hki:i<p.2.1.length:=by omega
  have hkb:=lA.1 hall _ (a09 hki);rw[b8O hlt]at hsum;have h0:decide ((0:Int)≤(i:Int))=true:=by simp
  have h1:decide ((i:Int)<(((a1s zn).length:Nat):Int))=true:=by rw[a1J];simp;omega
  have h2:decide ((0:Int)≤((zn[i]:Nat):Int))=true:=by simp
  have h3:decide (((zn[i]:Nat):Int)≤((l.length:Nat):Int))=true:=by simp;omega
  have hpart:(l.take zn[i]).length=zn[i]:=by rw[a05];omega
  have hrest:(l.drop zn[i]).length=(zn.drop (i+1)).sum:=by rw[a07];omega
  have hwp:(l.take zn[i]).all a0b=true:=lA.2 fun x hx=>lA.1 hw x (a40 hx);have hwr:(l.drop zn[i]).all a0b=true:=lA.2 fun x hx=>lA.1 hw x (a41 hx);have goal:∃d,a1I (l,c,(zn.length:Int),(i:Int),a1s zn,p,())=some (.inl (l.drop zn[i],c+d,(zn.length:Int),((i+1:Nat):Int),a1s zn,p,()))∧0≤d∧d≤10+65*zn[i]:=by
   by_cases h31:p.2.1[i]=31
   have hne:(p.2.1[i]==31)=true:=by rw[h31];rfl
   obtain⟨r,hr,hr0,hr1⟩:=c5k (l:=l.take zn[i]) (by omega);have e1:wrap .i64 (5+r)=5+r:=a0f (by omega);have e2:wrap .i64 (c+(5+r))=c+(5+r):=a0f (by omega);refine⟨5+r,?_,by omega,by omega⟩;simp only[a1I,dlt hlt,h0,h1,a9y hlt,h2,h3,cT,a02,tN,a0c hki,oB,hne,hr,e1,e2,a29,a0d (show i<1000000 by omega)];have hne:(p.2.1[i]==31)=false:=by simp[h31]
   simp only[kB,a24,bA,dT,beq_iff_eq]at hkb;obtain⟨K,hK⟩:=a00 (show 0≤p.2.1[i]by omega);obtain⟨r,hr,hr0,hr1⟩:=c6N (k:=K) (by omega) hwp (by omega);rw[←hK]at hr;have e1:wrap .i64 (5+r)=5+r:=a0f (by omega);have e2:wrap .i64 (c+(5+r))=c+(5+r):=a0f (by omega);refine⟨5+r,?_,by omega,by omega⟩;simp only[a1I,dlt hlt,h0,h1,a9y hlt,h2,h3,cT,cF,a02,tN,a0c hki,oB,hne,hr,e1,e2,a29,a0d (show i<1000000 by omega)]
  obtain⟨d,hd,hd0,hd1⟩:=goal;rw[a0q hd];exact b6H hk hall hz j (i+1) (l.drop zn[i]) _ (by omega) hrest.symm hwr (by rw[a07];omega) (by omega) (by rw[a07];omega)
structure PartsOk (p:Prt) (n warm:Int) (l:List Int) (zn:List Nat):Prop where
 may:a6z p n warm=true
 sizes:a1B p.1 n warm=a1s zn
 sum:zn.sum=l.length
 len:zn.length≤256
 ks:p.2.1.length=zn.length
 all:p.2.1.all kB=true
 wide:l.all a0b=true
 short:l.length≤5000
 row:a6G n warm=true
 rest:(l.length:Int)=n-warm
 order:0≤p.1∧p.1≤8
theorem PartsOk.of{p:Prt}{n warm:Int}{l:List Int}(h:a6z p n warm=true)(hl:(l.length:Int)=n-warm)(hw:l.all a0b=true)(h5:l.length≤5000):∃zn,PartsOk p n warm l zn:=by
 have h':=h;simp only[a6z,bA,a34,beq_eq_false_iff_ne,ne_eq,beq_iff_eq]at h';obtain⟨h1,h2,h3⟩:=h';obtain⟨zn,g1,g2,g3⟩:=b7r h1;have hr:a6G n warm=true∧0≤p.1∧p.1≤8:=by
  unfold a1B at h1;cases hr:(a6G n warm&&(decide (0≤p.1)&&decide (p.1≤8)))with
  |false=>rw[hr]at h1;simp at h1
  |true=>simpa using hr
 exact⟨zn,h,g1,by omega,g3,by rw[←h2,g1,a1J],h3,hw,h5,hr.1,hl,hr.2⟩
theorem b2P{n warm:Int}{l:List Int}(hr:a6G n warm=true)(hl:(l.length:Int)=n-warm)(hw:l.all a0b=true)(h5:l.length≤5000):a8h (n,warm,l)=some true:=by
 have e:wrap .i64 (n-warm)=n-warm:=by
  simp only[a6G,bA,dT]at hr;exact a0f (by omega)
 have h1:(((l.length:Nat):Int) != n-warm)=false:=by rw[hl];simp
 have e2:b5F=a3j:=rfl;have hs:short l:=by unfold short;omega
 have ha:=a5t hs;unfold a2A at ha;unfold a8h;simp only[b5V,hr,oB,bT,cF,e,h1,e2];rw[hw]at ha;exact ha
theorem c3T{p:Prt}{n warm:Int}{l:List Int}{zn:List Nat}(h:PartsOk p n warm l zn):∃c,a5z (p,n,warm,l)=some c∧4≤c:=by
 have hk:Go.Ab.short p.2.1:=by have:=h.ks;have:=h.len;unfold Go.Ab.short;omega
 have h5:=h.short;have hz:=h.len;obtain⟨c,h1,h2⟩:=b6H h.ks h.all h.len zn.length 0 l 4 (by omega) (by rw[a18];exact h.sum) h.wide h.short (by omega) (by omega);simp only[nZ]at h1;refine⟨c,?_,h2⟩;unfold a5z;simp only[b5W hk,h.may,b2P h.row h.rest h.wide h.short,oB,bT,cF,a2E,h.sizes,a1J,h1]
def a5g(p:Prt)(zn:List Nat)(l L:List Int):List Int:=a4w zn p.2.1 l (a0w (wrap .u64 p.1) 4 L)
theorem c8t{p:Prt}{n warm:Int}{l L:List Int}{zn:List Nat}(h:PartsOk p n warm l zn)(hL:L.length<700000000):b3o (wL L,p,n,warm,l)=some (0,wL (a5g p zn l L)):=by
 have h5:=h.short;have hz:=h.len;obtain⟨c,hc,hc4⟩:=c3T h;have hne:(c==0)=false:=by simp only[beq_eq_false_iff_ne,ne_eq];omega
 have hpl:=a0F (wrap .u64 p.1) 4 L;have hput:a0m (wL L,wrap .u64 p.1,(4:Int))=some (a9x (wrap .u64 p.1) 4,wL (a0w (wrap .u64 p.1) 4 L)):=a4c (n:=4) (by omega) (by omega);have hloop:=b8c h.ks h.all h.len zn.length 0 l (a0w (wrap .u64 p.1) 4 L) (by omega) (by rw[a18];exact h.sum) h.wide h.short (by omega);simp only[nZ,a18]at hloop;unfold b3o;simp only[hc,oB,hne,cF,hput,a2E,h.sizes,a1J,hloop,a5g]
end Go.Ab
namespace Go.Ab
open IntKind(wrap)
theorem c3U{c:List Int}{wd:Nat}(hw:wd≤32)(hc:c.length<10000):∀(j i:Nat)(L:List Int),i+j=c.length→L.length+64*j<999990000→
  a0h a6O ((wd:Int),c,(c.length:Int),(i:Int),wL L,())=some (wL (a1P wd (c.drop i) L),())
 |0,i,L,hi,_=>by
  obtain rfl:i=c.length:=by omega
  rw[a22];exact a0o (by simp[a6O,a1P])
 |j+1,i,L,hi,hb=>by
  have hlt:i<c.length:=by omega
  have hpl:=a0F (a0H c[i] wd) wd L;rw[a03 hlt,a0q (s':=((wd:Int),c,(c.length:Int),((i+1:Nat):Int),wL (a0w (a0H c[i] wd) wd L),())) (by
   simp only[a6O,dlt hlt,cT,a0c hlt,oB,b5Z (show wd≤63 by omega) (show L.length<999999000 by omega),a0d (show i<1000000 by omega)])]
  exact c3U hw hc j (i+1) _ (by omega) (by omega)
theorem c6b{t:List Int}{n wd:Int}{s:Sub}(ht:t.length=3):∀(j i:Nat)(L:List Int),i+j=3→L.length+64*j<999990000→
  a0h b1V (n,wd,t,(i:Int),wL L,s,())=some (n,wd,wL (a1P 8 (t.drop i) L),s,())
 |0,i,L,hi,_=>by
  obtain rfl:i=t.length:=by omega
  rw[a22];exact a0o (by rw[ht];simp[b1V,a1P])
 |j+1,i,L,hi,hb=>by
  have hlt:i<t.length:=by omega
  have h3:decide ((i:Int)<3)=true:=by simp;omega
  have hpl:=a0F (a0H t[i] 8) 8 L;have hps:a3B (wL L,t[i],(8:Int))=some (wL (a0w (a0H t[i] 8) 8 L)):=b5Z (n:=8) (by omega) (by omega);rw[a03 hlt,a0q (s':=(n,wd,t,((i+1:Nat):Int),wL (a0w (a0H t[i] 8) 8 L),s,())) (by
   simp only[b1V,h3,cT,a0c hlt,oB,hps,a0d (show i<1000000 by omega)])]
  exact c6b ht j (i+1) _ (by omega) (by omega)
theorem c6c{l:List Int}{n:Int}{wd:Nat}{s:Sub}(hw:wd≤32)(hl:l.length<10000):∀(j i:Nat)(L:List Int),i+j=l.length→L.length+64*j<999990000→
  a0h b1X (n,(wd:Int),l,(l.length:Int),(i:Int),wL L,s,())=some (n,wL (a1P wd (l.drop i) L),s,())
 |0,i,L,hi,_=>by
  obtain rfl:i=l.length:=by omega
  rw[a22];exact a0o (by simp[b1X,a1P])
 |j+1,i,L,hi,hb=>by
  have hlt:i<l.length:=by omega
  have hpl:=a0F (a0H l[i] wd) wd L;rw[a03 hlt,a0q (s':=(n,(wd:Int),l,(l.length:Int),((i+1:Nat):Int),wL (a0w (a0H l[i] wd) wd L),s,())) (by
   simp only[b1X,dlt hlt,cT,a0c hlt,oB,b5Z (show wd≤63 by omega) (show L.length<999999000 by omega),a0d (show i<1000000 by omega)])]
  exact c6c hw hl j (i+1) _ (by omega) (by omega)
def a7r(s:Stg)(L:List Int):List Int:=a0w (wrap .u64 s.2.1) 4 (a0w (wrap .u64 (wrap .i64 (s.1-1))) 5 L)
def a3N(st:List Stg)(L:List Int):List Int:=st.foldl (fun L s=>a7r s L) L
theorem b9E(s:Stg)(L:List Int):(a7r s L).length≤L.length+9:=by
 have h1:=a0F (wrap .u64 (wrap .i64 (s.1-1))) 5 L;have h2:=a0F (wrap .u64 s.2.1) 4 (a0w (wrap .u64 (wrap .i64 (s.1-1))) 5 L);unfold a7r;omega
theorem b8d:∀(st:List Stg)(L:List Int),(a3N st L).length≤L.length+9*st.length
 | [],L=>by simp[a3N]
 |s::st,L=>by
  have h1:=b9E s L;have h2:=b8d st (a7r s L);have e:a3N (s::st) L=a3N st (a7r s L):=rfl;rw[e,lC];omega
theorem c2b{st:List Stg}{n wd:Int}{s:Sub}(hs:st.length<10000):∀(j i:Nat)(L:List Int),i+j=st.length→L.length+64*j<999990000→
  a0h b1W (n,wd,st,(st.length:Int),(i:Int),wL L,s,())=some (n,wd,wL (a3N (st.drop i) L),s,())
 |0,i,L,hi,_=>by
  obtain rfl:i=st.length:=by omega
  rw[a22];exact a0o (by simp[b1W,a3N])
 |j+1,i,L,hi,hb=>by
  have hlt:i<st.length:=by omega
  have hp1:=a0F (wrap .u64 (wrap .i64 (st[i].1-1))) 5 L;have hsl:=b9E st[i] L;have h1:a0m (wL L,wrap .u64 (wrap .i64 (st[i].1-1)),(5:Int))=some (a9x (wrap .u64 (wrap .i64 (st[i].1-1))) 5,wL (a0w (wrap .u64 (wrap .i64 (st[i].1-1))) 5 L)):=a4c (n:=5) (by omega) (by omega);have h2:a0m (wL (a0w (wrap .u64 (wrap .i64 (st[i].1-1))) 5 L),wrap .u64 st[i].2.1,(4:Int))=some (a9x (wrap .u64 st[i].2.1) 4,wL (a7r st[i] L)):=a4c (n:=4) (by omega) (by omega);rw[a03 hlt,a0q (s':=(n,wd,st,(st.length:Int),((i+1:Nat):Int),wL (a7r st[i] L),s,())) (by
   simp only[b1W,dlt hlt,cT,a0c hlt,oB,h1,h2,a0d (show i<1000000 by omega)])]
  exact c2b hs j (i+1) _ (by omega) (by omega)
def a7s(s:Sub)(L:List Int):List Int:=
 a1P (a0l s.2.2.2.2.2.1) s.2.2.2.2.2.1 (a0w ((a0l s.2.2.2.2.2.1:Nat):Int) 5 (a0w (wrap .u64 s.2.2.2.1) 4 (a0w (wrap .u64 (wrap .i64 (((s.2.2.2.2.2.1.length:Nat):Int)-1))) 5 L)))
theorem b9F{s:Sub}(h:s.2.2.2.2.2.1.length≤40)(L:List Int):(a7s s L).length≤L.length+2000:=by
 unfold a7s;have h1:=a0F (wrap .u64 (wrap .i64 (((s.2.2.2.2.2.1.length:Nat):Int)-1))) 5 L;have h2:=a0F (wrap .u64 s.2.2.2.1) 4 (a0w (wrap .u64 (wrap .i64 (((s.2.2.2.2.2.1.length:Nat):Int)-1))) 5 L);have h3:=a0F ((a0l s.2.2.2.2.2.1:Nat):Int) 5 (a0w (wrap .u64 s.2.2.2.1) 4 (a0w (wrap .u64 (wrap .i64 (((s.2.2.2.2.2.1.length:Nat):Int)-1))) 5 L));have h4:=a7p (a0l s.2.2.2.2.2.1) s.2.2.2.2.2.1 (a0w ((a0l s.2.2.2.2.2.1:Nat):Int) 5 (a0w (wrap .u64 s.2.2.2.1) 4 (a0w (wrap .u64 (wrap .i64 (((s.2.2.2.2.2.1.length:Nat):Int)-1))) 5 L)));have hw:=a7x s.2.2.2.2.2.1
 have:a0l s.2.2.2.2.2.1*s.2.2.2.2.2.1.length≤32*40:=a95 hw h
 omega
theorem c2c{s:Sub}(h:s.2.2.2.2.2.1.length≤40){L:List Int}(hL:L.length<900000000):a9N (wL L,s)=some (wL (a7s s L)):=by
 have h1:=a0F (wrap .u64 (wrap .i64 (((s.2.2.2.2.2.1.length:Nat):Int)-1))) 5 L;have h2:=a0F (wrap .u64 s.2.2.2.1) 4 (a0w (wrap .u64 (wrap .i64 (((s.2.2.2.2.2.1.length:Nat):Int)-1))) 5 L);have h3:=a0F ((a0l s.2.2.2.2.2.1:Nat):Int) 5 (a0w (wrap .u64 s.2.2.2.1) 4 (a0w (wrap .u64 (wrap .i64 (((s.2.2.2.2.2.1.length:Nat):Int)-1))) 5 L));have hw:=a7x s.2.2.2.2.2.1;have ew:wrap .u64 ((a0l s.2.2.2.2.2.1:Nat):Int)=((a0l s.2.2.2.2.2.1:Nat):Int):=a0G (by omega);have p1:a0m (wL L,wrap .u64 (wrap .i64 (((s.2.2.2.2.2.1.length:Nat):Int)-1)),(5:Int))=some (a9x (wrap .u64 (wrap .i64 (((s.2.2.2.2.2.1.length:Nat):Int)-1))) 5,wL (a0w (wrap .u64 (wrap .i64 (((s.2.2.2.2.2.1.length:Nat):Int)-1))) 5 L)):=a4c (n:=5) (by omega) (by omega);have p2:a0m (wL (a0w (wrap .u64 (wrap .i64 (((s.2.2.2.2.2.1.length:Nat):Int)-1))) 5 L),wrap .u64 s.2.2.2.1,(4:Int))=some (a9x (wrap .u64 s.2.2.2.1) 4,wL (a0w (wrap .u64 s.2.2.2.1) 4 (a0w (wrap .u64 (wrap .i64 (((s.2.2.2.2.2.1.length:Nat):Int)-1))) 5 L))):=a4c (n:=4) (by omega) (by omega);have p3:a0m (wL (a0w (wrap .u64 s.2.2.2.1) 4 (a0w (wrap .u64 (wrap .i64 (((s.2.2.2.2.2.1.length:Nat):Int)-1))) 5 L)),((a0l s.2.2.2.2.2.1:Nat):Int),(5:Int))=some (a9x ((a0l s.2.2.2.2.2.1:Nat):Int) 5,wL (a0w ((a0l s.2.2.2.2.2.1:Nat):Int) 5 (a0w (wrap .u64 s.2.2.2.1) 4 (a0w (wrap .u64 (wrap .i64 (((s.2.2.2.2.2.1.length:Nat):Int)-1))) 5 L)))):=a4c (n:=5) (by omega) (by omega);have hlp:=c3U (c:=s.2.2.2.2.2.1) hw (by omega) s.2.2.2.2.2.1.length 0 (a0w ((a0l s.2.2.2.2.2.1:Nat):Int) 5 (a0w (wrap .u64 s.2.2.2.1) 4 (a0w (wrap .u64 (wrap .i64 (((s.2.2.2.2.2.1.length:Nat):Int)-1))) 5 L))) (by omega) (by omega);simp only[nZ,a18]at hlp;unfold a9N;simp only[p1,p2,a2U (show short s.2.2.2.2.2.1 by unfold short;omega),ew,p3,hlp,oB,a7s]
def b3F(s:Sub)(L:List Int):List Int:=
 a0w ((a0l s.2.2.2.2.2.2.2.2.1:Nat):Int) 5 (a0w (wrap .u64 s.2.1) 5 (a0w (wrap .u64 s.1) 3 L))
def a3g(s:Sub)(L:List Int):List Int:=
 if s.1=2 then a0w (wrap .u64 s.2.2.1) 3 L
 else if s.1=3 then a7s s L
 else if s.1=4 then a7s s (a1P 8 s.2.2.2.2.2.2.1 (a0w (wrap .u64 (wrap .i64 (s.2.2.2.2.1-1))) 10 L))
 else if s.1=5 then a3N s.2.2.2.2.2.2.2.1 (a0w (wrap .u64 ((s.2.2.2.2.2.2.2.1.length:Nat):Int)) 2 L)
 else L
theorem c8u{s:Sub}(h:SmallS s)(L:List Int):(a3g s L).length≤L.length+3000:=by
 have hc:=h.coefs;have ht:=h.taps;have hst:=h.stages;unfold a3g;split
 have:=a0F (wrap .u64 s.2.2.1) 3 L;omega
 split
 have:=b9F hc L;omega
 split;have h1:=a0F (wrap .u64 (wrap .i64 (s.2.2.2.2.1-1))) 10 L;have h2:=a7p 8 s.2.2.2.2.2.2.1 (a0w (wrap .u64 (wrap .i64 (s.2.2.2.2.1-1))) 10 L);have h3:=b9F hc (a1P 8 s.2.2.2.2.2.2.1 (a0w (wrap .u64 (wrap .i64 (s.2.2.2.2.1-1))) 10 L));omega;split;have h1:=a0F (wrap .u64 ((s.2.2.2.2.2.2.2.1.length:Nat):Int)) 2 L;have h2:=b8d s.2.2.2.2.2.2.2.1 (a0w (wrap .u64 ((s.2.2.2.2.2.2.2.1.length:Nat):Int)) 2 L);omega;omega
theorem b9G:∀(zs:List Nat)(ks l L:List Int),ks.all kB=true→(a4w zs ks l L).length≤L.length+10*zs.length+100*l.length
 |z::zs,k::ks,l,L,h=>by
  simp only[a08,bA]at h;have h1:=c0R h.1 (l.take z) L;have h2:=b9G zs ks (l.drop z) (b0W k (l.take z) L) h.2;rw[a05]at h1;rw[a07]at h2;simp only[a4w,lC];omega
 | [],_,_,_,_=>by simp only[a4w];omega
 |_::_,[],_,_,_=>by simp only[a4w];omega
def a6c(s:Sub)(zn:List Nat)(L:List Int):List Int:=
 if s.1=0∨s.1=1 then a1P (a0l s.2.2.2.2.2.2.2.2.1) s.2.2.2.2.2.2.2.2.1 (a3g s (b3F s L))
 else a5g s.2.2.2.2.2.2.2.2.2.1 zn s.2.2.2.2.2.2.2.2.2.2.1 (a1P (a0l s.2.2.2.2.2.2.2.2.1) s.2.2.2.2.2.2.2.2.1 (a3g s (b3F s L)))
theorem b8P{s:Sub}(h:SmallS s){n:Int}{L:List Int}(hL:L.length<100000000):
  ∃(e:Int)(L':List Int),b1r (wL L,s,n)=some (e,wL L')∧(e=0∨L'=L)∧L'.length≤L.length+700000∧
   ((a2Q s n).isSome=true→e=0∧∃zn,L'=a6c s zn L∧(s.1≠0∧s.1≠1→PartsOk s.2.2.2.2.2.2.2.2.2.1 n ((s.2.2.2.2.2.2.2.2.1.length:Nat):Int) s.2.2.2.2.2.2.2.2.2.2.1 zn))∧((a2Q s n).isSome=false→e=1∧L'=L):=by
 unfold b1r;simp only[c3Q h,oB];cases hs:(a2Q s n).isSome with
 |false=>exact⟨1,L,rfl,.inr rfl,by omega,fun h=>(by cases h),fun _=>⟨rfl,rfl⟩⟩
 |true=>
  have hp:a1G s n:=by
   unfold a2Q at hs
   split at hs
   assumption
   cases hs
  obtain⟨h1,h2,hf,-,-,-,-,hlen,hww,hrw,-,hparts⟩:=hp;have hkind:=d3u hf;have hwd:=a7x s.2.2.2.2.2.2.2.2.1;have hsw:short s.2.2.2.2.2.2.2.2.1:=by have:=h.warm;unfold short;omega
  have hwarm:=h.warm;have hrest:=h.rest;have hst:=h.stages;have ht:=h.taps;have q1:=a0F (wrap .u64 s.1) 3 L;have q2:=a0F (wrap .u64 s.2.1) 5 (a0w (wrap .u64 s.1) 3 L);have q3:=a0F ((a0l s.2.2.2.2.2.2.2.2.1:Nat):Int) 5 (a0w (wrap .u64 s.2.1) 5 (a0w (wrap .u64 s.1) 3 L));have ew:wrap .u64 ((a0l s.2.2.2.2.2.2.2.2.1:Nat):Int)=((a0l s.2.2.2.2.2.2.2.2.1:Nat):Int):=a0G (by omega);have p1:a0m (wL L,wrap .u64 s.1,(3:Int))=some (a9x (wrap .u64 s.1) 3,wL (a0w (wrap .u64 s.1) 3 L)):=a4c (n:=3) (by omega) (by omega);have p2:a0m (wL (a0w (wrap .u64 s.1) 3 L),wrap .u64 s.2.1,(5:Int))=some (a9x (wrap .u64 s.2.1) 5,wL (a0w (wrap .u64 s.2.1) 5 (a0w (wrap .u64 s.1) 3 L))):=a4c (n:=5) (by omega) (by omega);have p3:a0m (wL (a0w (wrap .u64 s.2.1) 5 (a0w (wrap .u64 s.1) 3 L)),((a0l s.2.2.2.2.2.2.2.2.1:Nat):Int),(5:Int))=some (a9x ((a0l s.2.2.2.2.2.2.2.2.1:Nat):Int) 5,wL (b3F s L)):=a4c (n:=5) (by omega) (by omega);have q4:(b3F s L).length≤L.length+13:=by unfold b3F;omega
  generalize hM:b3F s L=M at p3 q4;have q5:=c8u h M;have q6:=a7p (a0l s.2.2.2.2.2.2.2.2.1) s.2.2.2.2.2.2.2.2.1 (a3g s M);have q7:a0l s.2.2.2.2.2.2.2.2.1*s.2.2.2.2.2.2.2.2.1.length≤32*5000:=a95 hwd hwarm;have hwl:=c6c (l:=s.2.2.2.2.2.2.2.2.1) (n:=n) (s:=s) hwd (by omega) s.2.2.2.2.2.2.2.2.1.length 0 (a3g s M) (by omega) (by omega);simp only[nZ,a18]at hwl

  have hsl:=c2b (st:=s.2.2.2.2.2.2.2.1) (n:=n) (wd:=((a0l s.2.2.2.2.2.2.2.2.1:Nat):Int)) (s:=s) (by omega) s.2.2.2.2.2.2.2.1.length 0 (a0w (wrap .u64 ((s.2.2.2.2.2.2.2.1.length:Nat):Int)) 2 M) (by omega) (by have:=a0F (wrap .u64 ((s.2.2.2.2.2.2.2.1.length:Nat):Int)) 2 M;omega);have q8:=a0F (wrap .u64 (wrap .i64 (s.2.2.2.2.1-1))) 10 M;have q9:=a7p 8 s.2.2.2.2.2.2.1 (a0w (wrap .u64 (wrap .i64 (s.2.2.2.2.1-1))) 10 M);have htl:=c6b (t:=s.2.2.2.2.2.2.1) (n:=n) (wd:=((a0l s.2.2.2.2.2.2.2.2.1:Nat):Int)) (s:=s) ht 3 0 (a0w (wrap .u64 (wrap .i64 (s.2.2.2.2.1-1))) 10 M) (by omega) (by omega);simp only[nZ,a18]at hsl htl;have k2:a0m (wL M,wrap .u64 s.2.2.1,(3:Int))=some (a9x (wrap .u64 s.2.2.1) 3,wL (a0w (wrap .u64 s.2.2.1) 3 M)):=a4c (n:=3) (by omega) (by omega);have k4:a0m (wL M,wrap .u64 (wrap .i64 (s.2.2.2.2.1-1)),(10:Int))=some (a9x (wrap .u64 (wrap .i64 (s.2.2.2.2.1-1))) 10,wL (a0w (wrap .u64 (wrap .i64 (s.2.2.2.2.1-1))) 10 M)):=a4c (n:=10) (by omega) (by omega);have k5:a0m (wL M,wrap .u64 ((s.2.2.2.2.2.2.2.1.length:Nat):Int),(2:Int))=some (a9x (wrap .u64 ((s.2.2.2.2.2.2.2.1.length:Nat):Int)) 2,wL (a0w (wrap .u64 ((s.2.2.2.2.2.2.2.1.length:Nat):Int)) 2 M)):=a4c (n:=2) (by omega) (by omega);have c3:=c2c (s:=s) h.coefs (L:=M) (by omega);have c4:=c2c (s:=s) h.coefs (L:=a1P 8 s.2.2.2.2.2.2.1 (a0w (wrap .u64 (wrap .i64 (s.2.2.2.2.1-1))) 10 M)) (by omega);simp only[bT,cF,a2U hsw,oB,p1,p2,ew,p3];generalize hPM:a1P (a0l s.2.2.2.2.2.2.2.2.1) s.2.2.2.2.2.2.2.2.1 (a3g s M)=PM at hwl q6

  have tail:∀(hk01:s.1≠0∧s.1≠1),∃zn,PartsOk s.2.2.2.2.2.2.2.2.2.1 n ((s.2.2.2.2.2.2.2.2.1.length:Nat):Int) s.2.2.2.2.2.2.2.2.2.2.1 zn:=fun hk01=>by
   obtain⟨g1,g2⟩:=hparts hk01;rw[←hlen]at g1 g2;exact PartsOk.of g2 g1 hrw (by omega)
  rcases hkind with k|k|k|k|k|k;have kl:a3g s M=M:=by unfold a3g;simp[k]
  rw[kl]at hwl;refine⟨0,PM,?_,.inl rfl,by omega,fun _=>⟨rfl,[],by unfold a6c;rw[if_pos (by omega),hM,hPM],fun h=>absurd k (by omega)⟩,fun h=>by cases h⟩;simp only[k,show((0:Int)==2)=false from rfl,show((0:Int)==4)=false from rfl,show((0:Int)==3)=false from rfl,show((0:Int)==5)=false from rfl,cF,oB,hwl,a7w]
  simp
  have kl:a3g s M=M:=by unfold a3g;simp[k]
  rw[kl]at hwl;refine⟨0,PM,?_,.inl rfl,by omega,fun _=>⟨rfl,[],by unfold a6c;rw[if_pos (by omega),hM,hPM],fun h=>absurd k (by omega)⟩,fun h=>by cases h⟩;simp only[k,show((1:Int)==2)=false from rfl,show((1:Int)==4)=false from rfl,show((1:Int)==3)=false from rfl,show((1:Int)==5)=false from rfl,cF,oB,hwl,a7w]
  simp
  all_goals
   obtain⟨zn,hz⟩:=tail (by omega);have t1:=c8t (L:=PM) hz (by omega);have t3:(a5g s.2.2.2.2.2.2.2.2.2.1 zn s.2.2.2.2.2.2.2.2.2.2.1 PM).length≤L.length+700000:=by
    have z1:=a0F (wrap .u64 s.2.2.2.2.2.2.2.2.2.1.1) 4 PM;have z2:=b9G zn s.2.2.2.2.2.2.2.2.2.1.2.1 s.2.2.2.2.2.2.2.2.2.2.1 (a0w (wrap .u64 s.2.2.2.2.2.2.2.2.2.1.1) 4 PM) hz.all;have z3:=hz.len;unfold a5g;omega
   refine⟨0,a5g s.2.2.2.2.2.2.2.2.2.1 zn s.2.2.2.2.2.2.2.2.2.2.1 PM,?_,.inl rfl,t3,fun _=>⟨rfl,zn,by unfold a6c;rw[if_neg (by omega),hM,hPM],fun _=>hz⟩,fun h=>by cases h⟩
  have kl:a3g s M=a0w (wrap .u64 s.2.2.1) 3 M:=by unfold a3g;simp[k]
  rw[kl]at hwl;simp only[k,show((2:Int)==2)=true from rfl,cT,k2,oB,hwl,a7w];simp[t1];have kl:a3g s M=a7s s M:=by unfold a3g;simp[k]
  rw[kl]at hwl;simp only[k,show((3:Int)==2)=false from rfl,show((3:Int)==4)=false from rfl,show((3:Int)==3)=true from rfl,cT,cF,c3,oB,hwl,a7w];simp[t1];have kl:a3g s M=a7s s (a1P 8 s.2.2.2.2.2.2.1 (a0w (wrap .u64 (wrap .i64 (s.2.2.2.2.1-1))) 10 M)):=by unfold a3g;simp[k]
  rw[kl]at hwl;simp only[k,show((4:Int)==2)=false from rfl,show((4:Int)==4)=true from rfl,cT,cF,k4,htl,c4,oB,hwl,a7w];simp[t1];have kl:a3g s M=a3N s.2.2.2.2.2.2.2.1 (a0w (wrap .u64 ((s.2.2.2.2.2.2.2.1.length:Nat):Int)) 2 M):=by unfold a3g;simp[k]
  rw[kl]at hwl;simp only[k,show((5:Int)==2)=false from rfl,show((5:Int)==4)=false from rfl,show((5:Int)==3)=false from rfl,show((5:Int)==5)=true from rfl,cT,cF,k5,hsl,oB,hwl,a7w];simp[t1]
theorem b3G(zn:List Nat):(a1s zn).map a35=zn:=by
 unfold a1s;rw[List.map_map]
 have:a35∘(fun(a:Nat)=>(a:Int))=id:=by funext a;simp
 rw[this,List.map_id]
end Go.Ab
namespace Go.Ab
end Go.Ab
namespace Go.Ab
def a4Z(s:Sub)(n:Int):Int:=
 if(a2Q s n).isSome=true then(((a6c s ((a1B s.2.2.2.2.2.2.2.2.2.1.1 n ((s.2.2.2.2.2.2.2.2.1.length:Nat):Int)).map a35) []).length:Nat):Int)else 0
theorem c5l{s:Sub}{n:Int}{zn:List Nat}(hz:s.1≠0∧s.1≠1→PartsOk s.2.2.2.2.2.2.2.2.2.1 n ((s.2.2.2.2.2.2.2.2.1.length:Nat):Int) s.2.2.2.2.2.2.2.2.2.2.1 zn)(L:List Int):
  a6c s zn L=a6c s ((a1B s.2.2.2.2.2.2.2.2.2.1.1 n ((s.2.2.2.2.2.2.2.2.1.length:Nat):Int)).map a35) L:=by
 by_cases hk:s.1=0∨s.1=1
 unfold a6c;rw[if_pos hk,if_pos hk];rw[(hz (not_or.1 hk)).sizes,b3G]
theorem d0q{s:Sub}(h:SmallS s)(n:Int):a4X (s,n)=some (a4Z s n):=by
 obtain⟨e,L',h1,-,-,h4,h5⟩:=b8P h (n:=n) (L:=[]) (by simp);have hw:wL []=(([]:List Int),(0:Int),()):=rfl;rw[hw]at h1;obtain⟨w1,-⟩:=a6H L';unfold a4X a4Z;simp only[h1,oB,b0h];cases hs:(a2Q s n).isSome with
 |false=>
  obtain⟨rfl,rfl⟩:=h5 hs;rfl
 |true=>
  obtain⟨rfl,zn,rfl,hz⟩:=h4 hs;rw[if_pos rfl,←c5l hz];simp only[w1,show((0:Int) != 0)=false from rfl,cF]
end Go.Ab
namespace Go.Ab
end Go.Ab
namespace Go.Ab
open IntKind(wrap)
def dif:List Int→List Int
 |a::b::r=>W (b-a)::dif (b::r)
 |_=>[]
theorem a6A:∀l:List Int,(dif l).length=l.length-1
 | []=>rfl
 | [_]=>rfl
 |a::b::r=>by simp[dif,a6A (b::r)]
theorem c5m:∀(l:List Int)(i:Nat)(x y:Int),l[i]?=some x→l[i+1]?=some y→(dif l)[i]?=some (W (y-x))
 |a::b::r,0,x,y,h1,h2=>by simp at h1 h2;subst h1;subst h2;rfl
 |a::b::r,i+1,x,y,h1,h2=>by
  simp only[dif,List.getElem?_cons_succ]at h1 h2⊢;exact c5m (b::r) i x y h1 h2
 | [_],0,x,y,h1,h2=>by simp at h2
 | [_],i+1,x,y,h1,h2=>by simp at h1
 | [],i,x,y,h1,h2=>by simp at h1
def a2m:Nat→List Int→List Int
 |0,l=>l
 |o+1,l=>dif (a2m o l)
theorem a6I(l:List Int):∀o,(a2m o l).length=l.length-o
 |0=>rfl
 |o+1=>by simp only[a2m,a6A,a6I l o];omega
theorem b8Q{l:List Int}(h:short l)(o:Nat):short (a2m o l):=by
 have h:l.length<1000000:=h;show(a2m o l).length<1000000;rw[a6I];omega
def b2n(l:List Int)(i:Nat):List Int:=(dif l).take i++l.drop i
theorem b7s{l:List Int}{i:Nat}(h:i≤l.length-1):(b2n l i).length=l.length:=by
 simp only[b2n,lN,a05,a07,a6A];omega
theorem c6d{l:List Int}{i j:Nat}(h:i≤l.length-1)(hj:i≤j):(b2n l i).getD j 0=l.getD j 0:=by
 have e:((dif l).take i).length=i:=by rw[a05,a6A];omega
 rw[lD,lD,b2n,a23 (by omega),e,List.getElem?_drop];congr 2;omega
theorem d4V{l:List Int}{i:Nat}(h:i<l.length-1):(b2n l i).set i (W (l.getD (i+1) 0-l.getD i 0))=b2n l (i+1):=by
 have e:((dif l).take i).length=i:=by rw[a05,a6A];omega
 have h1:l[i]?=some l[i]:=lG (by omega);have h2:l[i+1]?=some l[i+1]:=lG (by omega);have hd:=c5m l i _ _ h1 h2;have hlt:i<(dif l).length:=by rw[a6A];omega
 simp only[b2n];rw[List.set_append,if_neg (by omega),e,Nat.sub_self,a03 (show i<l.length by omega),List.set_cons_zero,a70 hlt,aA];have e2:(dif l)[i]=W (l.getD (i+1) 0-l.getD i 0):=by
  rw[lG hlt]at hd;rw[Option.some.inj hd,lD,lD,h1,h2];rfl
 rw[e2];rfl
theorem d1U{l:List Int}{o k:Int}(hs:short l)(h:1≤l.length):a0h a6s ((0:Int),o,k,l,())=some (o,k,b2n l (l.length-1),()):=by
 have hs:l.length<1000000:=hs;have h0:b2n l 0=l:=by simp[b2n]
 have:=a3F (f:=a6s) (fun i:Nat=>((i:Int),o,k,b2n l i,())) (l.length-1) (b:=(o,k,b2n l (l.length-1),()))
  (fun i hi=>by
   have w1:wrap .i64 ((i:Int)+1)=((i+1:Nat):Int):=a0d (by omega);have hl:=b7s (l:=l) (i:=i) (by omega);have d0:decide (((i+1:Nat):Int)<((l.length:Nat):Int))=true:=by simp;omega
   have d1:decide ((0:Int)≤((i+1:Nat):Int))=true:=by simp;omega
   have d2:decide ((0:Int)≤(i:Int))=true:=by simp
   have d3:decide ((i:Int)<((l.length:Nat):Int))=true:=by simp;omega
   have n1:a35 ((i+1:Nat):Int)=i+1:=by omega
   have n2:a35 (i:Int)=i:=by omega
   have st:=d4V (l:=l) (i:=i) (by omega);have g1:=c6d (l:=l) (i:=i) (j:=i+1) (by omega) (by omega);have g2:=c6d (l:=l) (i:=i) (j:=i) (by omega) (by omega);simp only[W]at st;simp only[a6s,w1,hl,d0,d1,d2,d3,n1,n2,g1,g2,st,a02,cT])
  (by
   have hl:=b7s (l:=l) (i:=l.length-1) (by omega);have w1:wrap .i64 (((l.length-1:Nat):Int)+1)=((l.length:Nat):Int):=by rw[a0f (by omega)];omega
   have d0:decide (((l.length:Nat):Int)<((l.length:Nat):Int))=false:=by simp
   simp only[a6s,w1,hl,d0,cF])
 simp only[nZ,a17,h0]at this;exact this
theorem d3x{l:List Int}:(b2n l (l.length-1)).take (l.length-1)=dif l:=by
 have e:(dif l).take (l.length-1)=dif l:=a92 (by rw[a6A];omega);rw[b2n,e,List.take_append_of_le_length (by rw[a6A];omega),e]
theorem b9H{l:List Int}{o:Nat}(ho:o≤4)(hn:o≤l.length)(hs:short l)(hw:l.all a0b=true):
  a5D (l,(o:Int))=some (bif (a2m o l).all a0b then(a2m o l,0)else([],6)):=by
 have hs':l.length<1000000:=hs;have loop:=a3F (f:=a8X) (fun k:Nat=>((o:Int),(k:Int),a2m k l,())) o (b:=(a2m o l,()))
  (fun k hk=>by
   have hk1:1≤(a2m k l).length:=by rw[a6I];omega
   have hks:(a2m k l).length<1000000:=b8Q hs k;have d0:decide ((k:Int)<(o:Int))=true:=by simp;omega
   have hm:=b7s (l:=a2m k l) (i:=(a2m k l).length-1) (by omega);have w1:wrap .i64 ((((a2m k l).length:Nat):Int)-1)=(((a2m k l).length-1:Nat):Int):=by rw[a0f (by omega)];omega
   have w2:wrap .i64 ((k:Int)+1)=((k+1:Nat):Int):=a0d (by omega);have d1:decide ((0:Int)≤(((a2m k l).length-1:Nat):Int))=true:=by simp
   have d2:decide ((((a2m k l).length-1:Nat):Int)≤(((a2m k l).length:Nat):Int))=true:=by simp
   have d3:decide ((a2m k l).length-1≤(a2m k l).length)=true:=by simp
   have n1:a35 (((a2m k l).length-1:Nat):Int)=(a2m k l).length-1:=by omega
   simp only[a8X,d0,cT,d1U (b8Q hs k) hk1,oB,hm,w1,w2,d1,d2,d3,n1,a02,d3x,a2m])
  (by
   have d0:decide ((o:Int)<(o:Int))=false:=by simp
   simp only[a8X,d0,cF])
 have c1:decide ((o:Int)<0)=false:=by simp
 have c2:decide ((o:Int) > 4)=false:=by simp;omega
 have c3:decide (((l.length:Nat):Int)<(o:Int))=false:=by simp;omega
 have c4:lim l.length=true:=a1q (by omega);simp only[nZ,a17]at loop;have e0:a2m 0 l=l:=rfl;rw[e0]at loop;unfold a5D;simp only[c1,c2,c3,c4,cF,cT,oB,a8p hs,hw,bT,loop,a8p (b8Q hs o)];cases (a2m o l).all a0b<;>rfl
def ex:Nat→(Nat→Int)→Nat→Int
 |0,f,i=>f i
 |o+1,f,i=>ex o f (i+1)-ex o f i
theorem c2I{l:List Int}(hw:l.all a0b=true):∀(o i:Nat),i+o<l.length→(a2m o l)[i]?=some (W (ex o (fun j=>l.getD j 0) i))
 |0,i,h=>by
  have h:i<l.length:=by omega
  have e:l.getD i 0=l[i]:=by simp[lD,h]
  simp only[a2m,ex,e];rw[lG h,c0N (lA.1 hw _ (a09 h))]
 |o+1,i,h=>by
  have h1:=c2I hw o i (by omega);have h2:=c2I hw o (i+1) (by omega);simp only[a2m,ex];rw[c5m _ i _ _ h1 h2];simp only[W,a9w,Int.sub_bmod_bmod,Int.bmod_sub_bmod]
theorem d3y{l:List Int}(hw:l.all a0b=true){o j:Nat}(ho:o≤4)(h:o+j<l.length):W (W (ex o (fun j=>l.getD j 0) j)+a5G o (l.take (o+j)))=l.getD (o+j) 0:=by
 have hwide:a0b (l.getD (o+j) 0)=true:=by
  have e:l.getD (o+j) 0=l[o+j]:=by simp[lD,h]
  rw[e];exact lA.1 hw _ (a09 h)
 have at_eq:∀i:Nat,1≤i→i≤o→atB (l.take (o+j)) i=l.getD (o+j-i) 0:=fun i h1 h2=>by
  simp only[atB,a05,a76 (b05 h),lD,List.getElem?_take];rw[if_pos (by omega)]
 have key:ex o (fun j=>l.getD j 0) j+a5G o (l.take (o+j))=l.getD (o+j) 0:=by
  have h5:o=0∨o=1∨o=2∨o=3∨o=4:=by omega
  rcases h5 with rfl|rfl|rfl|rfl|rfl;simp[ex,a5G];simp only[ex,a5G,at_eq 1 (by omega) (by omega)];have e1:1+j-1=j:=by omega
  have e2:j+1=1+j:=by omega
  rw[e1,e2];omega;simp only[ex,a5G,at_eq 1 (by omega) (by omega),at_eq 2 (by omega) (by omega)];have e1:2+j-1=j+1:=by omega
  have e2:2+j-2=j:=by omega
  have e3:j+1+1=2+j:=by omega
  rw[e1,e2,e3];omega;simp only[ex,a5G,at_eq 1 (by omega) (by omega),at_eq 2 (by omega) (by omega),at_eq 3 (by omega) (by omega)];have e1:3+j-1=j+1+1:=by omega
  have e2:3+j-2=j+1:=by omega
  have e3:3+j-3=j:=by omega
  have e4:j+1+1+1=3+j:=by omega
  rw[e1,e2,e3,e4];omega;simp only[ex,a5G,at_eq 1 (by omega) (by omega),at_eq 2 (by omega) (by omega),at_eq 3 (by omega) (by omega),at_eq 4 (by omega) (by omega)];have e1:4+j-1=j+1+1+1:=by omega
  have e2:4+j-2=j+1+1:=by omega
  have e3:4+j-3=j+1:=by omega
  have e4:4+j-4=j:=by omega
  have e5:j+1+1+1+1=4+j:=by omega
  rw[e1,e2,e3,e4,e5];omega
 have:W (W (ex o (fun j=>l.getD j 0) j)+a5G o (l.take (o+j)))=W (ex o (fun j=>l.getD j 0) j+a5G o (l.take (o+j))):=by
  simp only[W,a9w,b07]
 rw[this,key,c0N hwide]
theorem c8v{l:List Int}(hw:l.all a0b=true){o:Nat}(ho:o≤4):∀(k j:Nat),o+j+k=l.length→a4Y (a5G o) ((a2m o l).drop j) (l.take (o+j))=some l
 |0,j,h=>by
  rw[List.drop_of_length_le (by rw[a6I];omega),a92 (by omega)];rfl
 |k+1,j,h=>by
  have hlt:j<(a2m o l).length:=by rw[a6I];omega
  have hg:=c2I hw o j (by omega);rw[lG hlt]at hg;have e:=Option.some.inj hg;have e2:l.getD (o+j) 0=l[o+j]:=by simp[lD,show o+j<l.length by omega]
  have st:=d3y hw ho (show o+j<l.length by omega);rw[e2]at st;rw[a03 hlt,e];simp only[a4Y,st,lA.1 hw _ (a09 (show o+j<l.length by omega)),cT];have et:l.take (o+j)++[l[o+j]]=l.take (o+(j+1)):=by
   rw[show o+(j+1)=(o+j)+1 by omega]
   simp
  rw[et];exact c8v hw ho k (j+1) (by omega)
end Go.Ab
namespace Go.Ab
open IntKind(wrap)
theorem a8G{σ β:Type}{f:σ→Option (σ ⊕ β)}(I:Nat→σ→Prop)(Q:β→Prop)(n:Nat)(hstep:∀i s,i<n→I i s→∃s',f s=some (.inl s')∧I (i+1) s')
  (hexit:∀s,I n s→∃b,f s=some (.inr b)∧Q b):∀(k i:Nat)(s:σ),i+k=n→I i s→∃b,a0h f s=some b∧Q b
 |0,i,s,h,hi=>by
  obtain rfl:i=n:=by omega
  obtain⟨b,h1,h2⟩:=hexit s hi;exact⟨b,a0o h1,h2⟩
 |k+1,i,s,h,hi=>by
  obtain⟨s',h1,h2⟩:=hstep i s (by omega) hi;rw[a0q h1];exact a8G I Q n hstep hexit k (i+1) s' (by omega) h2
theorem c2d(y:Int):0≤wrap .u64 y∧wrap .u64 y<18446744073709551616:=by
 simp only[wrap,IntKind.bits,IntKind.signed]
 simp
 omega
def b3H(n:Int)(x:Int):Bool:=a0b x&&!(a43 x (a0z .i64 1 n) != 0)
def b8R{β:Type}(n:Int)(bad:β)(out:List Int)(x:Int):List Int ⊕ β:=bif b3H n x then .inl (out++[a0C .i64 x n])else .inr bad
def b2o(n:Int)(l:List Int):Option (List Int):=bif l.all (b3H n)then some (l.map fun x=>a0C .i64 x n)else none
theorem b9I{β:Type}(n:Int)(bad:β)(fin:List Int→β):∀(l out:List Int),b0i fin (a3G (b8R n bad) l out)=match b2o n l with|some r=>fin (out++r)|none=>bad
 | [],out=>by simp[a3G,b0i,b2o]
 |x::l,out=>by
  simp only[a3G,b8R,b2o,a08];cases hx:b3H n x with
  |true=>
   simp only[cT,a32];rw[b9I n bad fin l _];simp only[b2o];cases l.all (b3H n)with
   |true=>simp
   |false=>rfl
  |false=>rfl
theorem c8w{o:Nat}(h:o≤30):a0z .i64 1 (o:Int)=((2^o:Nat):Int):=by
 have h2:2^o≤2^30:=a20 (by omega) h
 have:=c2F (N:=1) (o:=o) (by omega) (by omega)
 simpa using this
theorem b8e{l:List Int}{o:Nat}(h1:o≤30)(hr:l.length<100000):a8k (l,(o:Int))=some (a3l (b2o (o:Int) l)):=by
 have hsr:short l:=by unfold short;omega
 have g1:¬ (o:Int)<0:=by omega
 have g2:¬ (o:Int) > 30:=by omega
 have g3:(a0z .i64 (1:Int) (o:Int)==0)=false:=by
  rw[c8w h1]
  have:0<2^o:=a21 o
  simp only[beq_eq_false_iff_ne,ne_eq];omega
 unfold a8k;simp only[g1,g2,decide_false,cF,oB]
 have:=a2x (f:=a7J) l (fun i out=>((o:Int),l,(l.length:Int),(i:Int),out,())) (b8R (o:Int) (Sum.inr ((6:Int),([]:List Int),())))
  (fun i out=>out.length=i) (fun out=>Sum.inl (out,()))
  (fun i h out hI=>by
   have hlt:i<1000000:=by omega
   simp only[a7J,dlt h,cT,a0c h,oB,b7W,b8R,b3H,g1,g3,decide_false,cF];cases hb:a0b l[i]with
   |true=>
    cases hb2:(a43 l[i] (a0z .i64 1 (o:Int)) != 0)with
    |false=>
     simp only[cT,bT,cF,oB,g1,decide_false,a0I (show out.length+1<1000000 by omega),a0d hlt,a02,a38,hb2];refine⟨fun a' ha=>?_,fun b hb=>(by cases hb)⟩;simp only[Sum.inl.injEq]at ha;subst ha;exact⟨rfl,by simp;omega⟩
    |true=>
     refine⟨fun a' ha=>(by simp at ha),fun b hb=>?_⟩;simp only[a32,bT,cF,Sum.inr.injEq]at hb;subst hb;simp[hb2]
   |false=>
    refine⟨fun a' ha=>(by simp at ha),fun b hb=>?_⟩;simp only[a55,cF,Sum.inr.injEq]at hb;subst hb;rfl)
  (fun out _=>by simp[a7J]) (a:=[]) rfl
 simp only[nZ,b9I,a06]at this;rw[this];cases b2o (o:Int) l<;>rfl
theorem c2J{o:Nat}(h:o≤30){x:Int}(hx:b3H (o:Int) x=true):a0b (a0C .i64 x (o:Int))=true∧a0z .i64 (a0C .i64 x (o:Int)) (o:Int)=x∧a0b x=true:=by
 simp only[b3H,c8w h,bA,a34,bne_eq_false_iff_eq]at hx;obtain⟨hw,hm⟩:=hx;obtain⟨c,rfl⟩:=Int.dvd_of_tmod_eq_zero hm;have hw':=a2j.1 hw;have e:min (a35 (o:Int)) (IntKind.bits .i64)=o:=by simp only[tN,IntKind.bits];omega
 have hp:(0:Int)<2^o:=Int.pow_pos (by omega);have ep:((2^o:Nat):Int)=2^o:=by simp
 rw[ep]at hw' hw⊢;have e1:a0C .i64 (2^o*c) (o:Int)=c:=by
  unfold a0C;rw[e];exact a83 _ (by omega)
 rw[e1];refine⟨a2j.2 ?_,?_,hw⟩;generalize (2:Int)^o=p at hp hw';have hs:p*c=(p-1)*c+c:=by rw[b21];omega
 by_cases hc:0≤c
 have:=a66 (show 0≤p-1 by omega) hc
 omega
 have:=a66 (show 0≤p-1 by omega) (show 0≤-c by omega)
 rw[Int.mul_neg]at this;omega;unfold a0z;rw[e,a88];exact a0f (by omega)
theorem d6R{o:Nat}(h:o≤30){l d:List Int}(hd:b2o (o:Int) l=some d):d.all a0b=true∧d.length=l.length∧upO (o:Int) d=some l:=by
 unfold b2o at hd;cases ha:l.all (b3H (o:Int))with
 |false=>rw[ha]at hd;cases hd
 |true=>
  rw[ha]at hd;simp only[cT,sj]at hd;subst hd;have hall:=lA.1 ha;refine⟨?_,by simp,?_⟩;simp only[List.all_map];exact lA.2 fun x hx=>(c2J h (hall x hx)).1;have e1:(l.map fun x=>a0C .i64 x (o:Int)).all (fun x=>a0b x&&a0b (a0z .i64 x (o:Int)))=true:=by
   simp only[List.all_map];refine lA.2 fun x hx=>?_
   obtain⟨h1,h2,h3⟩:=c2J h (hall x hx);simp only[Function.comp,h1,h2,h3,a02]
  unfold upO;rw[e1];simp only[cT,sj,List.map_map];have em:l.map ((fun x=>a0z .i64 x (o:Int))∘fun x=>a0C .i64 x (o:Int))=l.map id:=List.map_congr_left (fun x hx=>(c2J h (hall x hx)).2.1);rw[em,List.map_id]
end Go.Ab
namespace Go.Ab
theorem d1V{n warm:Int}(h:a6G n warm=true):(a1B 0 n warm).length≠0:=by
 have h':=h;simp only[a6G,bA,dT]at h';unfold a1B b7Y;have e:((n.toNat / 2^(0:Int).toNat:Nat):Int)=n:=by simp;omega
 have e2:n.toNat%2^(0:Int).toNat=0:=by simp;omega
 simp only[h,e,e2];simp[h'.2.2.2]
end Go.Ab
namespace Go.Ab
open IntKind(wrap)
theorem a7R{N n:Nat}(hn:n≤63)(h:N<2^n)(L:List Int):(a0w (N:Int) n L).length=L.length+n:=by
 unfold a0w;rw[a7y (N:=N) (o:=n) (by omega),a84 h];simp[b4f]
def a5O(k:Nat)(x:Int):Nat:=if a0u x / 2^k<32 then a0u x / 2^k+1+k else 65
theorem c8x{k:Nat}(hk:k≤25)(x:Int):a5O k x≤65:=by
 unfold a5O;split;rename_i h;generalize a0u x / 2^k=q at h;omega;omega
theorem d3z{k:Nat}(hk:k≤25){x:Int}(hw:a0b x=true)(L:List Int):(a7Q k x L).length=L.length+a5O k x:=by
 unfold a7Q a5O;have hp:0<2^k:=a21 k;have hm:a0u x%2^k<2^k:=a45 _ hp;have hf:=b1i hw;split;rw[a7R (by omega) hm,b0b];omega;rw[a7R (n:=32) (by omega) (by omega),b0b]
theorem c3V{k:Nat}(hk:k≤25):∀(l L:List Int),l.all a0b=true→(a4R k l L).length=L.length+(l.map (a5O k)).sum
 | [],L,_=>by simp[a4R]
 |x::l,L,h=>by
  simp only[a08,bA]at h;have e:a4R k (x::l) L=a4R k l (a7Q k x L):=rfl;rw[e,c3V hk l _ h.2,d3z hk h.1,a61,a52];omega
theorem c8y{k:Nat}(hk:k≤25){x:Int}(hw:a0b x=true):a8C ((k:Int),x)=some ((a5O k x:Nat):Int):=by
 have hy:=b1i hw;have eq:a0C .u64 ((a0u x:Nat):Int) (k:Int)=((a0u x / 2^k:Nat):Int):=a7y (by omega);have ew:wrap .i64 ((a0u x / 2^k:Nat):Int)=((a0u x / 2^k:Nat):Int):=b6a (a49 (a51 _ _) hy);have hk0:decide ((k:Int)<0)=false:=by simp
 unfold a8C a5O;simp only[b0l hk,b2l,hw,oB,bT,cF,b2m hw,hk0,eq,ew];generalize a0u x / 2^k=q
 by_cases hq:q<32
 have hd:decide ((q:Int)<32)=true:=decide_eq_true (by omega);simp only[hd,cT,if_pos hq];rw[a0f (n:=(q:Int)+1) (by omega),a0f (by omega)];rfl;have hd:decide ((q:Int)<32)=false:=decide_eq_false (by omega);simp only[hd,cF,if_neg hq];rfl
theorem c8z{f:Int→Nat}{M:Nat}(h:∀x,f x≤M):∀l:List Int,(l.map f).sum≤M*l.length
 | []=>by simp
 |x::l=>by
  have:=h x
  have:=c8z h l
  rw[a61,a52,lC,b22,b23];omega
theorem c8A{f:Int→Nat}{l:List Int}{i:Nat}(h:i<l.length):((l.take (i+1)).map f).sum=((l.take i).map f).sum+f l[i]:=by
 rw[a70 h,pA,List.sum_append];simp only[a61,b06,a52,List.sum_nil,a87]
theorem c2e{k:Nat}(hk:k≤25){l:List Int}(hw:l.all a0b=true)(hl:l.length<10000):a4k ((k:Int),l)=some (((l.map (a5O k)).sum:Nat):Int):=by
 have:=a3F (f:=a4G) (fun i:Nat=>((k:Int),((((l.take i).map (a5O k)).sum:Nat):Int),l,(l.length:Int),(i:Int),())) l.length (b:=((((l.map (a5O k)).sum:Nat):Int),()))
  (fun i hi=>by
   have hc:=c8y hk (lA.1 hw _ (a09 hi));have h1:=c8z (c8x hk) (l.take (i+1));rw[c8A hi]at h1;rw[a05]at h1;have e:wrap .i64 (((((l.take i).map (a5O k)).sum:Nat):Int)+((a5O k l[i]:Nat):Int))=((((l.take (i+1)).map (a5O k)).sum:Nat):Int):=by
    rw[c8A hi,a0f (by omega)];omega
   simp only[a4G,dlt hi,cT,a0c hi,oB,hc,e,a0d (show i<1000000 by omega)])
  (by simp only[a4G,dge,cF,a29])
 unfold a4k;have e0:(((l.take 0).map (a5O k)).sum:Nat)=0:=rfl;simp only[e0,nZ]at this;simp only[this,oB]
theorem d4W(x:Int){n:Nat}(hn:n≤62):∃N:Nat,a0H x n=(N:Int)∧N<2^n:=by
 obtain⟨h1,h2⟩:=c2d x;obtain⟨y,hy⟩:=a00 h1;have hp:0<2^n:=a21 n;refine⟨y%2^n,?_,a45 _ hp⟩;unfold a0H;rw[hy];exact c8r (by omega) hn
theorem b6I{n:Nat}(hn:n≤62):∀(l L:List Int),(a1P n l L).length=L.length+n*l.length
 | [],L=>by simp[a1P]
 |x::l,L=>by
  have e:a1P n (x::l) L=a1P n l (a0w (a0H x n) n L):=rfl;obtain⟨N,h1,h2⟩:=d4W x hn;rw[e,b6I hn l,h1,a7R (by omega) h2,lC,b22,b23];omega
theorem d7R{x:Int}(h:a0b x=true):a1X x ((31:Nat):Int)=true:=by
 have:=a2j.1 h
 have e1:a0z .i64 (-1) (((31:Nat):Int)-1)=-1073741824:=by decide
 have e2:wrap .i64 (a0z .i64 1 (((31:Nat):Int)-1)-1)=1073741823:=by decide
 unfold a1X;rw[e1,e2];simp only[bA,dT];omega
theorem c3W{x:Int}(h:a0b x=true):∀(k w:Nat),w+k=32→1≤k→a2o x k w≤31
 |k+1,w,hk,_=>by
  simp only[a2o]
  by_cases h31:w=31
  subst h31;rw[d7R h]
  simp
  ·cases (x != 0)&&!a1X x w with
   |true=>exact c3W h k (w+1) (by omega) (by omega)
   |false=>simp only[cF];omega
theorem b6J:∀(l:List Int)(w:Nat),l.all a0b=true→w≤31→l.foldl (fun w x=>a2o x (32-w) w) w≤31
 | [],w,_,h=>h
 |x::l,w,hl,h=>by
  simp only[a08,bA]at hl;exact b6J l _ hl.2 (c3W hl.1 (32-w) w (by omega) (by omega))
theorem a2B{l:List Int}(h:l.all a0b=true):a0l l≤31:=b6J l 0 h (by omega)
theorem b6b{l:List Int}(hl:l.length<10000):a6F l=some (((5+a0l l*l.length:Nat)):Int):=by
 have hw:=a7x l;have hm:a0l l*l.length≤32*l.length:=a39 _ hw;unfold a6F;simp only[a2U (show short l by unfold short;omega),oB];have e:((a0l l:Nat):Int)*((l.length:Nat):Int)=((a0l l*l.length:Nat):Int):=by simp
 rw[e,a0f (n:=((a0l l*l.length:Nat):Int)) (by omega),a0f (by omega)];congr 1
def b3I(k:Int)(part:List Int):Nat:=5+(if k=31 then 5+a0l part*part.length else(part.map (a5O k.toNat)).sum)
def a4S:List Nat→List Int→List Int→Nat
 |z::zs,k::ks,l=>b3I k (l.take z)+a4S zs ks (l.drop z)
 |_,_,_=>0
theorem a2V{q:Nat}(h:q<2147483648):wrap .u64 (q:Int)=(q:Int):=a0G (by omega)
theorem d3A{k:Int}(hk:kB k=true){part:List Int}(hw:part.all a0b=true)(L:List Int):(b0W k part L).length=L.length+b3I k part:=by
 simp only[kB,a24,bA,dT,beq_iff_eq]at hk;obtain⟨K,rfl⟩:=a00 (show 0≤k by omega);have hK:K≤31:=by omega
 have h1:=a7R (N:=K) (n:=5) (by omega) (by omega) L;have hwd:=a2B hw;unfold b0W b3I;rw[a2V (by omega)];split;rw[b6I (by omega),a7R (n:=5) (by omega) (by omega),h1];omega;rw[c3V (by omega) _ _ hw,h1];omega
theorem c3X:∀(zs:List Nat)(ks l L:List Int),ks.all kB=true→l.all a0b=true→(a4w zs ks l L).length=L.length+a4S zs ks l
 |z::zs,k::ks,l,L,h,hw=>by
  simp only[a08,bA]at h;have hwp:(l.take z).all a0b=true:=lA.2 fun x hx=>lA.1 hw x (a40 hx);have hwr:(l.drop z).all a0b=true:=lA.2 fun x hx=>lA.1 hw x (a41 hx);simp only[a4w,a4S];rw[c3X zs ks _ _ h.2 hwr,d3A h.1 hwp];omega
 | [],_,_,_,_,_=>by simp[a4w,a4S]
 |_::_,[],_,_,_,_=>by simp[a4w,a4S]
theorem d4X{k:Int}(hk:kB k=true)(part:List Int):b3I k part≤10+65*part.length:=by
 simp only[kB,a24,bA,dT,beq_iff_eq]at hk;unfold b3I;split;have hm:a0l part*part.length≤32*part.length:=a39 _ (a7x part);omega
 have:=c8z (c8x (k:=k.toNat) (by omega)) part
 omega
theorem b6c{zn:List Nat}{p:Prt}(hk:p.2.1.length=zn.length)(hall:p.2.1.all kB=true)(hz:zn.length≤256):∀(j i:Nat)(l:List Int)(c:Nat),i+j=zn.length→(zn.drop i).sum=l.length→l.all a0b=true→l.length≤5000→c+10*j+65*l.length<1000000→
  a0h a1I (l,(c:Int),(zn.length:Int),(i:Int),a1s zn,p,())=some (((c+a4S (zn.drop i) (p.2.1.drop i) l:Nat):Int),())
 |0,i,l,c,hi,_,_,_,_=>by
  obtain rfl:i=zn.length:=by omega
  rw[a22];exact a0o (by simp[a1I,a4S])
 |j+1,i,l,c,hi,hsum,hw,hl5,hb=>by
  have hlt:i<zn.length:=by omega
  have hki:i<p.2.1.length:=by omega
  have hkb:=lA.1 hall _ (a09 hki);rw[b8O hlt]at hsum;have h0:decide ((0:Int)≤(i:Int))=true:=by simp
  have h1:decide ((i:Int)<(((a1s zn).length:Nat):Int))=true:=by rw[a1J];simp;omega
  have h2:decide ((0:Int)≤((zn[i]:Nat):Int))=true:=by simp
  have h3:decide (((zn[i]:Nat):Int)≤((l.length:Nat):Int))=true:=by simp;omega
  have hpart:(l.take zn[i]).length=zn[i]:=by rw[a05];omega
  have hrest:(l.drop zn[i]).length=(zn.drop (i+1)).sum:=by rw[a07];omega
  have hwp:(l.take zn[i]).all a0b=true:=lA.2 fun x hx=>lA.1 hw x (a40 hx);have hwr:(l.drop zn[i]).all a0b=true:=lA.2 fun x hx=>lA.1 hw x (a41 hx);have hle:=d4X hkb (l.take zn[i]);rw[hpart]at hle;have goal:a1I (l,(c:Int),(zn.length:Int),(i:Int),a1s zn,p,())=some (.inl (l.drop zn[i],((c+b3I p.2.1[i] (l.take zn[i]):Nat):Int),(zn.length:Int),((i+1:Nat):Int),a1s zn,p,())):=by
   by_cases h31:p.2.1[i]=31
   have hne:(p.2.1[i]==31)=true:=by rw[h31];rfl
   have hr:=b6b (l:=l.take zn[i]) (by omega);have ec:b3I p.2.1[i] (l.take zn[i])=5+(5+a0l (l.take zn[i])*(l.take zn[i]).length):=by unfold b3I;rw[if_pos h31]
   rw[ec]at hle⊢;generalize 5+a0l (l.take zn[i])*(l.take zn[i]).length=r at hr hle⊢;have e1:wrap .i64 (5+(r:Int))=5+(r:Int):=a0f (by omega);have e2:wrap .i64 ((c:Int)+(5+(r:Int)))=((c+(5+r):Nat):Int):=by rw[a0f (by omega)];omega
   simp only[a1I,dlt hlt,h0,h1,a9y hlt,h2,h3,cT,a02,tN,a0c hki,oB,hne,hr,e1,e2,a29,a0d (show i<1000000 by omega)];have hne:(p.2.1[i]==31)=false:=by simp[h31]
   have hkb':=hkb;simp only[kB,a24,bA,dT,beq_iff_eq]at hkb';obtain⟨K,hK⟩:=a00 (show 0≤p.2.1[i]by omega);have hr:=c2e (k:=K) (by omega) hwp (by omega);have ec:b3I p.2.1[i] (l.take zn[i])=5+((l.take zn[i]).map (a5O K)).sum:=by unfold b3I;rw[if_neg h31,hK];rfl
   rw[←hK]at hr;rw[ec]at hle⊢;generalize ((l.take zn[i]).map (a5O K)).sum=r at hr hle⊢;have e1:wrap .i64 (5+(r:Int))=5+(r:Int):=a0f (by omega);have e2:wrap .i64 ((c:Int)+(5+(r:Int)))=((c+(5+r):Nat):Int):=by rw[a0f (by omega)];omega
   simp only[a1I,dlt hlt,h0,h1,a9y hlt,h2,h3,cT,cF,a02,tN,a0c hki,oB,hne,hr,e1,e2,a29,a0d (show i<1000000 by omega)]
  rw[a0q goal,b6c hk hall hz j (i+1) (l.drop zn[i]) _ (by omega) hrest.symm hwr (by rw[a07];omega) (by rw[a07];omega)];rw[a03 hlt,a03 hki];simp only[a4S];congr 3;omega
theorem c6O{p:Prt}{n warm:Int}{l:List Int}{zn:List Nat}(h:PartsOk p n warm l zn):a5z (p,n,warm,l)=some ((4+a4S zn p.2.1 l:Nat):Int):=by
 have hk:Go.Ab.short p.2.1:=by have:=h.ks;have:=h.len;unfold Go.Ab.short;omega
 have h5:=h.short;have hz:=h.len;have h1:=b6c h.ks h.all h.len zn.length 0 l 4 (by omega) (by rw[a18];exact h.sum) h.wide h.short (by omega);simp only[nZ,a17,a18]at h1;unfold a5z;simp only[b5W hk,h.may,b2P h.row h.rest h.wide h.short,oB,bT,cF,a2E,h.sizes,a1J,h1]
theorem c6P{p:Prt}{n warm:Int}{l:List Int}{zn:List Nat}(h:PartsOk p n warm l zn)(L:List Int):(a5g p zn l L).length=L.length+(4+a4S zn p.2.1 l):=by
 obtain⟨o,ho⟩:=a00 h.order.1;have h2:=h.order.2;unfold a5g;rw[c3X _ _ _ _ h.all h.wide,ho,a2V (by omega),a7R (by omega) (by omega)];omega
end Go.Ab
namespace Go.Ab
def a2s(o:Int):Sub:=((0:Int),(0:Int),o,(0:Int),(0:Int),([]:List Int),a01 3 (0:Int),([]:List Stg),([]:List Int),((0:Int),([]:List Int),()),([]:List Int),())
theorem c9J(o:Int):SmallS (a2s o):=⟨by simp[a2s],by simp[a2s],by simp[a2s],by simp[a2s],by simp[a2s],by simp[a2s]⟩
end Go.Ab
namespace Go.Ab
end Go.Ab
namespace Go.Ab
open IntKind(wrap)
theorem d1W{x:Int}(h:-1048576≤x∧x≤1048575):a3s (a2q x (-1048576)) 1048575=x:=by
 unfold a3s a2q;have h1:decide ((-1048576:Int) > x)=false:=decide_eq_false (by omega);have h2:decide ((1048575:Int)<x)=false:=decide_eq_false (by omega);simp only[h1,cF,h2]
theorem d9x{x:Int}(h:a0b x=true):-1048576≤a0C .i64 x ((10:Nat):Int)∧a0C .i64 x ((10:Nat):Int)≤1048575:=by
 have hx:=a2j.1 h;have e:a0C .i64 x ((10:Nat):Int)=x / 1024:=by
  show b28 x 1024=_;exact a37 _ (by decide)
 rw[e];omega
theorem c6e{x:Int}(hx:a0b x=true){a l:List Int}{n i:Int}:∀(k s:Nat),s+k=10→∃s':Nat,s'≤10∧a0h a4u (a,(s:Int),x,l,n,i,())=some (a,(s':Int),l,n,i,())
 |0,s,h=>by
  obtain rfl:s=10:=by omega
  have d0:decide (((10:Nat):Int)<0)=false:=by decide
  have hs:=d1W (d9x hx);refine⟨10,a42 _,a0o ?_⟩;simp only[a4u,d0,cF,a3p,oB,hs,bne_self_eq_false]
 |k+1,s,h=>by
  have d0:decide ((s:Int)<0)=false:=decide_eq_false (by omega);cases hc:(a3s (a2q (a0C .i64 x (s:Int)) (-1048576)) 1048575 != a0C .i64 x (s:Int))with
  |false=>exact⟨s,by omega,a0o (by simp only[a4u,d0,cF,a3p,oB,hc])⟩
  |true=>
   obtain⟨s',h1,h2⟩:=c6e hx (a:=a) (l:=l) (n:=n) (i:=i) k (s+1) (by omega);refine⟨s',h1,?_⟩;rw[a0q (s':=(a,((s+1:Nat):Int),x,l,n,i,())) (by simp only[a4u,d0,cF,a3p,oB,hc,cT,a0d (show s<1000000 by omega)])];exact h2
theorem c9K{l:List Int}(hw:l.all a0b=true)(hl:l.length<100000):∃r,a8Z l=some r∧r.length=l.length:=by
 obtain⟨b,h1,s,h2,h3⟩:=a8G (f:=a6v) (fun i st=>∃s:Nat,s≤10∧st=(l,(s:Int),l,(l.length:Int),(i:Int),())) (fun b=>∃s:Nat,s≤10∧b=(l,(s:Int),())) l.length
  (fun i st hi h=>by
   obtain⟨s,hs,rfl⟩:=h;obtain⟨s',hs',e⟩:=c6e (lA.1 hw _ (a09 hi)) (a:=l) (l:=l) (n:=(l.length:Int)) (i:=(i:Int)) (10-s) s (by omega);exact⟨_,by simp only[a6v,dlt hi,cT,a0c hi,oB,e,a0d (show i<1000000 by omega)]<;>rfl,s',hs',rfl⟩)
  (fun st h=>by
   obtain⟨s,hs,rfl⟩:=h;exact⟨_,by simp only[a6v,dge,cF]<;>rfl,s,hs,rfl⟩) l.length 0 _ (by omega) ⟨0,by omega,rfl⟩
 subst h3;obtain⟨c,g1,o,g2,g3⟩:=a8G (f:=a6w) (fun i st=>∃o:List Int,st=((s:Int),l,(l.length:Int),(i:Int),o,())∧o.length=l.length) (fun b=>∃o:List Int,b=(o,())∧o.length=l.length) l.length
  (fun i st hi h=>by
   obtain⟨o,rfl,ho⟩:=h;have d0:decide ((s:Int)<0)=false:=decide_eq_false (by omega);have d1:decide ((0:Int)≤(i:Int))=true:=by simp
   have d2:decide ((i:Int)<((o.length:Nat):Int))=true:=decide_eq_true (by omega);exact⟨_,by simp only[a6w,dlt hi,cT,a0c hi,oB,d0,cF,d1,d2,a02,a0d (show i<1000000 by omega)]<;>rfl,_,rfl,by simp[ho]⟩)
  (fun st h=>by
   obtain⟨o,rfl,ho⟩:=h;exact⟨_,by simp only[a6w,dge,cF]<;>rfl,o,rfl,ho⟩) l.length 0 _ (by omega) ⟨a01 l.length 0,rfl,by simp⟩
 subst g2;refine⟨o,?_,g3⟩;have d0:decide ((0:Int)≤((l.length:Nat):Int))=true:=by simp
 have d1:decide (((l.length:Nat):Int)≤((l.length:Nat):Int))=true:=by simp
 have d2:lim l.length=true:=a0I (by omega);simp only[nZ]at h1 g1;unfold a8Z;simp only[h1,oB,d0,d1,d2,tN,a02,cT,g1]
theorem c3Y:∀(N:Nat)(num den:Int),den.toNat≤N→∃a b,a0h a4q (num,den,())=some (a,b,())
 |N,num,den,h=>by
  by_cases hd:den≥1099511627776
  ·have d0:decide (den≥(1099511627776:Int))=true:=decide_eq_true hd;have e:a0C .i64 den 1=den / 2:=by
    show b28 den 2=_;exact a37 _ (by decide)
   rw[a0q (s':=(a0C .i64 num 1,den / 2,())) (by simp only[a4q,d0,cT,e])]
   match N with
   |0=>omega
   |N+1=>exact c3Y N _ _ (by omega)
  have d0:decide (den≥(1099511627776:Int))=false:=decide_eq_false hd;exact⟨num,den,a0o (by simp only[a4q,d0,cF])⟩
theorem c3Z{f g:List Int}{m:Nat}(hm:1≤m)(hg:g.length=f.length)(hl:f.length<100000)(hm2:m<1000):∃k,a5N (f,g,(m:Int))=some k:=by
 obtain⟨b,h1,num,den,h2⟩:=a8G (f:=a4p) (fun i st=>∃num den:Int,st=(f,g,num,den,((m+i:Nat):Int),())) (fun b=>∃num den:Int,b=(num,den,())) (f.length-m)
  (fun i st hi h=>by
   obtain⟨num,den,rfl⟩:=h;have hlt:m+i<f.length:=by omega
   have e:wrap .i64 (((m+i:Nat):Int)-1)=((m+i-1:Nat):Int):=by rw[a0f (by omega)];omega
   exact⟨_,by simp only[a4p,dlt hlt,cT,a0c hlt,e,a0c (show m+i-1<g.length by omega),oB,a0d (show m+i<1000000 by omega)]<;>rfl,_,_,rfl⟩)
  (fun st h=>by
   obtain⟨num,den,rfl⟩:=h;have d0:decide (((m+(f.length-m):Nat):Int)<((f.length:Nat):Int))=false:=decide_eq_false (by omega);exact⟨_,by simp only[a4p,d0,cF]<;>rfl,_,_,rfl⟩) (f.length-m) 0 (f,g,0,0,(m:Int),()) (by omega) ⟨0,0,rfl⟩
 subst h2;obtain⟨a,c,h3⟩:=c3Y den.toNat num den (a42 _);unfold a5N;simp only[h1,oB,h3];cases hc:(c==0)with
 |true=>exact⟨0,rfl⟩
 |false=>
  simp only[cF];cases decide ((a0z .i64 a 15).tmod c<0)<;>exact⟨_,rfl⟩
theorem c6Q{f g ks:List Int}{m:Nat}{order k:Int}(hm:1≤m)(hg:g.length=f.length)(hl:f.length<100000)(hm2:m<1000):
  ∃f' g':List Int,a0h a4a (order,(m:Int),k,((f.length:Nat):Int)-1,f,g,ks,())=some (order,(m:Int),f',g',ks,())∧f'.length=f.length∧g'.length=f.length:=by
 obtain⟨b,h1,f',g',h2,h3⟩:=a8G (f:=a4a) (fun i st=>∃f' g':List Int,st=(order,(m:Int),k,((f.length:Nat):Int)-1-(i:Int),f',g',ks,())∧f'.length=f.length∧g'.length=f.length)
  (fun b=>∃f' g':List Int,b=(order,(m:Int),f',g',ks,())∧f'.length=f.length∧g'.length=f.length) (f.length-m)
  (fun i st hi h=>by
   obtain⟨f',g',rfl,hf',hg'⟩:=h;have d0:decide (((f.length:Nat):Int)-1-(i:Int)≥(m:Int))=true:=decide_eq_true (by omega);have d1:decide ((0:Int)≤((f.length:Nat):Int)-1-(i:Int))=true:=decide_eq_true (by omega);have d2:decide (((f.length:Nat):Int)-1-(i:Int)<((f'.length:Nat):Int))=true:=decide_eq_true (by omega);have d3:decide (((f.length:Nat):Int)-1-(i:Int)<((g'.length:Nat):Int))=true:=decide_eq_true (by omega);have e:wrap .i64 (((f.length:Nat):Int)-1-(i:Int)-1)=((f.length:Nat):Int)-1-((i+1:Nat):Int):=by rw[a0f (by omega)];omega
   have d4:decide ((0:Int)≤((f.length:Nat):Int)-1-((i+1:Nat):Int))=true:=decide_eq_true (by omega);have d5:decide (((f.length:Nat):Int)-1-((i+1:Nat):Int)<((g'.length:Nat):Int))=true:=decide_eq_true (by omega);exact⟨_,by simp only[a4a,d0,d1,d2,d3,e,d4,d5,cT,a02,a3p,oB]<;>rfl,_,_,rfl,by simp[hf'],by simp[hg']⟩)
  (fun st h=>by
   obtain⟨f',g',rfl,hf',hg'⟩:=h;have d0:decide (((f.length:Nat):Int)-1-((f.length-m:Nat):Int)≥(m:Int))=false:=decide_eq_false (by omega);exact⟨_,by simp only[a4a,d0,cF]<;>rfl,f',g',rfl,hf',hg'⟩) (f.length-m) 0 _ (by omega) ⟨f,g,rfl,rfl,hg⟩
 subst h2;simp only[nZ,Int.sub_zero]at h1;exact⟨f',g',h1,h3⟩
theorem c8B{f g:List Int}{o:Nat}(ho:o≤32)(hg:g.length=f.length)(hl:f.length<100000):∃ks:List Int,a0h a4b ((o:Int),(1:Int),f,g,([]:List Int),())=some (ks,())∧ks.length=o:=by
 obtain⟨b,h1,ks,h2,h3⟩:=a8G (f:=a4b) (fun i st=>∃f' g' ks:List Int,st=((o:Int),((i+1:Nat):Int),f',g',ks,())∧f'.length=f.length∧g'.length=f.length∧ks.length=i)
  (fun b=>∃ks:List Int,b=(ks,())∧ks.length=o) o
  (fun i st hi h=>by
   obtain⟨f',g',ks,rfl,hf',hg',hk⟩:=h;have d0:decide (((i+1:Nat):Int)≤(o:Int))=true:=decide_eq_true (by omega);obtain⟨k,hk2⟩:=c3Z (f:=f') (g:=g') (m:=i+1) (by omega) (by omega) (by omega) (by omega);have e:wrap .i64 (((f'.length:Nat):Int)-1)=((f'.length:Nat):Int)-1:=a0f (by omega);obtain⟨f2,g2,h1,h2,h3⟩:=c6Q (f:=f') (g:=g') (ks:=ks++[k]) (m:=i+1) (order:=(o:Int)) (k:=k) (by omega) (by omega) (by omega) (by omega);have hlim:lim (ks.length+1)=true:=a0I (by omega);exact⟨_,by simp only[a4b,d0,cT,hk2,oB,hlim,e,a16,h1,a0d (show i+1<1000000 by omega)]<;>rfl,f2,g2,ks++[k],rfl,by omega,by omega,by simp[hk]⟩)
  (fun st h=>by
   obtain⟨f',g',ks,rfl,hf',hg',hk⟩:=h;have d0:decide (((o+1:Nat):Int)≤(o:Int))=false:=decide_eq_false (by omega);exact⟨_,by simp only[a4b,d0,cF]<;>rfl,ks,rfl,hk⟩) o 0 _ (by omega) ⟨f,g,[],rfl,rfl,hg,rfl⟩
 subst h2;exact⟨ks,h1,h3⟩
theorem c8C{l:List Int}(hw:l.all a0b=true)(hl:l.length≤4096){o:Nat}(h1:1≤o)(h2:o≤32):∃ks:List Int,a7K (l,(o:Int))=some (ks,0)∧ks.length=o:=by
 have hs:short l:=by unfold short;omega
 obtain⟨r,e1,e2⟩:=c9K hw (by omega);have hr:short r:=by unfold short;omega
 obtain⟨ks,e3,e4⟩:=c8B (f:=r) (g:=r) h2 rfl (by omega);have c1:decide ((o:Int)<1)=false:=decide_eq_false (by omega);have c2:decide ((o:Int) > 32)=false:=decide_eq_false (by omega);have c3:decide (((l.length:Nat):Int) > 4096)=false:=decide_eq_false (by omega);have c4:decide ((0:Int)≤(o:Int))=true:=by simp
 have c5:lim o=true:=a0I (by omega);refine⟨ks,?_,e4⟩;unfold a7K;simp only[c1,c2,c3,c4,c5,cF,cT,oB,a6U hs,hw,bT,e1,a7O hr,tN,a02,e3]
end Go.Ab
namespace Go.Ab
open IntKind(wrap)
theorem b6d{σ β:Type}{f:σ→Option (σ ⊕ β)}(I:Nat→σ→Prop)(Q:β→Prop)(n:Nat)(hstep:∀i s,i<n→I i s→(∃s',f s=some (.inl s')∧I (i+1) s')∨(∃b,f s=some (.inr b)∧Q b))
  (hexit:∀s,I n s→∃b,f s=some (.inr b)∧Q b):∀(k i:Nat)(s:σ),i+k=n→I i s→∃b,a0h f s=some b∧Q b
 |0,i,s,h,hi=>by
  obtain rfl:i=n:=by omega
  obtain⟨b,h1,h2⟩:=hexit s hi;exact⟨b,a0o h1,h2⟩
 |k+1,i,s,h,hi=>by
  rcases hstep i s (by omega) hi with⟨s',h1,h2⟩|⟨b,h1,h2⟩;rw[a0q h1];exact b6d I Q n hstep hexit k (i+1) s' (by omega) h2;exact⟨b,a0o h1,h2⟩
theorem c9L{ks:List Int}(hl:ks.length≤32):∃b,a0h a2M (ks,ks,(ks.length:Int),(0:Int),())=some b∧(b=.inl (ks,())∨b=.inr (([]:List Int),(1:Int),())):=
 b6d (f:=a2M) (fun i s=>s=(ks,ks,(ks.length:Int),(i:Int),())) (fun b=>b=.inl (ks,())∨b=.inr (([]:List Int),(1:Int),())) ks.length
  (fun i s hi h=>by
   subst h;cases h1:decide (ks[i]<(-16383:Int))with
   |true=>exact Or.inr ⟨_,by simp only[a2M,dlt hi,cT,a0c hi,oB,h1]<;>rfl,Or.inr rfl⟩
   |false=>
    cases h2:decide (ks[i] > (16383:Int))with
    |true=>exact Or.inr ⟨_,by simp only[a2M,dlt hi,cT,cF,a0c hi,oB,h1,h2]<;>rfl,Or.inr rfl⟩
    |false=>exact Or.inl ⟨_,by simp only[a2M,dlt hi,cT,cF,a0c hi,oB,h1,h2,a0d (show i<1000000 by omega)]<;>rfl,rfl⟩)
  (fun s h=>by
   subst h;exact⟨_,by simp only[a2M,dge,cF]<;>rfl,Or.inl rfl⟩) ks.length 0 _ (by omega) rfl
theorem c9M{c a:List Int}{i:Nat}{k n:Int}(hc:c.length=i)(hi:i≤32):
  ∃nx:List Int,a0h a4P (c,(i:Int),k,a,n,(i:Int),c,(c.length:Int),(0:Int),([]:List Int),())=some (k,a,n,(i:Int),nx,())∧nx.length=i:=by
 obtain⟨b,h1,nx,h2,h3⟩:=a8G (f:=a4P) (fun j s=>∃nx:List Int,s=(c,(i:Int),k,a,n,(i:Int),c,(c.length:Int),(j:Int),nx,())∧nx.length=j)
  (fun b=>∃nx:List Int,b=(k,a,n,(i:Int),nx,())∧nx.length=c.length) c.length
  (fun j s hj h=>by
   obtain⟨nx,rfl,hn⟩:=h;have e1:wrap .i64 ((i:Int)-1)=(i:Int)-1:=a0f (by omega);have e2:wrap .i64 ((i:Int)-1-(j:Int))=((i-1-j:Nat):Int):=by rw[a0f (by omega)];omega
   have hlim:lim (nx.length+1)=true:=a0I (by omega);exact⟨_,by simp only[a4P,dlt hj,cT,a0c hj,oB,e1,e2,a0c (show i-1-j<c.length by omega),hlim,a0d (show j<1000000 by omega),a16]<;>rfl,_,rfl,by simp[hn]⟩)
  (fun s h=>by
   obtain⟨nx,rfl,hn⟩:=h;exact⟨_,by simp only[a4P,dge,cF]<;>rfl,nx,rfl,hn⟩) c.length 0 _ (by omega) ⟨[],rfl,rfl⟩
 subst h2;exact⟨nx,h1,by omega⟩
theorem d1X{ks:List Int}(h1:1≤ks.length)(hl:ks.length≤32):∃c e,a9Y ks=some (c,e)∧(e=0→c.length=ks.length):=by
 obtain⟨b,g1,g2⟩:=c9L hl;have c1:decide (((ks.length:Nat):Int)<1)=false:=decide_eq_false (by omega);have c2:decide (((ks.length:Nat):Int) > 32)=false:=decide_eq_false (by omega);unfold a9Y;simp only[c1,c2,cF,oB,g1];rcases g2 with rfl|rfl;obtain⟨r,h2,c,h3,h4⟩:=a8G (f:=a6T) (fun i s=>∃c:List Int,s=(c,ks,(ks.length:Int),(i:Int),())∧c.length=i) (fun r=>∃c:List Int,r=(c,())∧c.length=ks.length) ks.length
  (fun i s hi h=>by
   obtain⟨c,rfl,hc⟩:=h;have e1:wrap .i64 ((i:Int)+1)=((i+1:Nat):Int):=a0d (by omega);have d1:decide ((0:Int)≤((i+1:Nat):Int))=true:=by simp;omega
   have l1:lim (i+1)=true:=a0I (by omega);obtain⟨nx,n1,n2⟩:=c9M (c:=c) (a:=ks) (i:=i) (k:=ks[i]) (n:=(ks.length:Int)) hc (by omega);have l2:lim (nx.length+1)=true:=a0I (by omega);exact⟨_,by simp only[a6T,dlt hi,cT,a0c hi,oB,e1,d1,tN,l1,a02,n1,l2,a16]<;>rfl,_,rfl,by simp[n2]⟩)
  (fun s h=>by
   obtain⟨c,rfl,hc⟩:=h;exact⟨_,by simp only[a6T,dge,cF]<;>rfl,c,rfl,hc⟩) ks.length 0 _ (by omega) ⟨[],rfl,rfl⟩
 subst h3;simp only[nZ]at h2;exact⟨c,0,by simp only[h2,oB],fun _=>h4⟩;exact⟨[],1,rfl,fun h=>absurd h (by decide)⟩
theorem c9N{c:List Int}{s:Nat}{w:Nat}{half:Int}(hc:c.length≤32)(hw:w≤32):
  ∃out:List Int,a0h a2O (c,(w:Int),(s:Int),half,c,(c.length:Int),(0:Int),([]:List Int),())=some (c,(w:Int),(s:Int),out,()):=by
 obtain⟨b,h1,out,h2⟩:=b6d (f:=a2O) (fun j st=>∃out:List Int,st=(c,(w:Int),(s:Int),half,c,(c.length:Int),(j:Int),out,())∧out.length=j)
  (fun b=>∃out:List Int,b=(c,(w:Int),(s:Int),out,())) c.length
  (fun j st hj h=>by
   obtain⟨out,rfl,ho⟩:=h;have d0:decide ((s:Int)<0)=false:=decide_eq_false (by omega);have hlim:lim (out.length+1)=true:=a0I (by omega);cases hf:a1X (a0C .i64 (wrap .i64 (c[j]+half)) (s:Int)) (w:Int)with
   |true=>exact Or.inl ⟨_,by simp only[a2O,dlt hj,cT,a0c hj,oB,d0,cF,a7q hw,hf,bT,hlim,a0d (show j<1000000 by omega),a16]<;>rfl,_,rfl,by simp[ho]⟩
   |false=>exact Or.inr ⟨_,by simp only[a2O,dlt hj,cT,a0c hj,oB,d0,cF,a7q hw,hf,a38]<;>rfl,out,rfl⟩)
  (fun st h=>by
   obtain⟨out,rfl,ho⟩:=h;exact⟨_,by simp only[a2O,dge,cF]<;>rfl,out,rfl⟩) c.length 0 _ (by omega) ⟨[],rfl,rfl⟩
 subst h2;exact⟨out,h1⟩
end Go.Ab
namespace Go.Ab
open IntKind(wrap)
theorem c9O{c:List Int}{w:Int}(hl:c.length≤32):∃b,a0h a2N (c,w,c,(c.length:Int),(0:Int),())=some b∧(b=.inl (c,w,())∨b=.inr ((0:Int),(1:Int),([]:List Int),())):=
 b6d (f:=a2N) (fun i s=>s=(c,w,c,(c.length:Int),(i:Int),())) (fun b=>b=.inl (c,w,())∨b=.inr ((0:Int),(1:Int),([]:List Int),())) c.length
  (fun i s hi h=>by
   subst h;cases h1:decide (c[i]<(-35184372088832:Int))with
   |true=>exact Or.inr ⟨_,by simp only[a2N,dlt hi,cT,a0c hi,oB,h1]<;>rfl,Or.inr rfl⟩
   |false=>
    cases h2:decide (c[i] > (35184372088832:Int))with
    |true=>exact Or.inr ⟨_,by simp only[a2N,dlt hi,cT,cF,a0c hi,oB,h1,h2]<;>rfl,Or.inr rfl⟩
    |false=>exact Or.inl ⟨_,by simp only[a2N,dlt hi,cT,cF,a0c hi,oB,h1,h2,a0d (show i<1000000 by omega)]<;>rfl,rfl⟩)
  (fun s h=>by
   subst h;exact⟨_,by simp only[a2N,dge,cF]<;>rfl,Or.inl rfl⟩) c.length 0 _ (by omega) rfl
theorem d1Y{c:List Int}{w:Nat}(h1:1≤c.length)(hl:c.length≤32)(hw:2≤w∧w≤16):∃o sh e,a9Z (c,(w:Int))=some (o,sh,e)∧(e=0→o.length=c.length):=by
 obtain⟨b,g1,g2⟩:=c9O (w:=(w:Int)) hl;have c1:decide (((c.length:Nat):Int)<1)=false:=decide_eq_false (by omega);have c2:decide (((c.length:Nat):Int) > 32)=false:=decide_eq_false (by omega);have c3:decide ((w:Int)<2)=false:=decide_eq_false (by omega);have c4:decide ((w:Int) > 16)=false:=decide_eq_false (by omega);unfold a9Z;simp only[c1,c2,c3,c4,cF,oB,g1];rcases g2 with rfl|rfl
 ·obtain⟨r,h2,h3⟩:=b6d (f:=a2P) (fun i s=>s=(c,(w:Int),(i:Int),())) (fun r=>r=.inl ()∨∃(sh:Int)(o:List Int),r=.inr (sh,(0:Int),o,())∧o.length=c.length) 15
   (fun i s hi h=>by
    subst h;have d0:decide ((i:Int)≤14)=true:=decide_eq_true (by omega);have d1:decide ((0:Int)≤((c.length:Nat):Int))=true:=by simp
    have l1:lim c.length=true:=a0I (by omega);have step:∀half:Int,∃o:List Int,a0h a2O (c,(w:Int),(i:Int),half,c,(c.length:Int),(0:Int),([]:List Int),())=some (c,(w:Int),(i:Int),o,()):=fun half=>c9N hl (by omega)
    by_cases hp:(i:Int) > 0
    ·have e1:wrap .i64 ((i:Int)-1)=(i:Int)-1:=a0f (by omega);have d2:decide ((i:Int)-1<0)=false:=decide_eq_false (by omega);obtain⟨o,ho⟩:=step (a0z .i64 1 ((i:Int)-1));cases hc:((((o.length:Nat):Int))==((c.length:Nat):Int))with
     |true=>exact Or.inr ⟨_,by simp only[a2P,d0,cT,hp,decide_true,e1,d2,cF,oB,d1,tN,l1,a02,ho,hc]<;>rfl,Or.inr ⟨_,o,rfl,by have:=beq_iff_eq.1 hc;omega⟩⟩
     |false=>exact Or.inl ⟨_,by simp only[a2P,d0,cT,hp,decide_true,e1,d2,cF,oB,d1,tN,l1,a02,ho,hc,a0d (show i<1000000 by omega)]<;>rfl,rfl⟩
    ·obtain⟨o,ho⟩:=step 0;cases hc:((((o.length:Nat):Int))==((c.length:Nat):Int))with
     |true=>exact Or.inr ⟨_,by simp only[a2P,d0,cT,hp,decide_false,cF,oB,d1,tN,l1,a02,ho,hc]<;>rfl,Or.inr ⟨_,o,rfl,by have:=beq_iff_eq.1 hc;omega⟩⟩
     |false=>exact Or.inl ⟨_,by simp only[a2P,d0,cT,hp,decide_false,cF,oB,d1,tN,l1,a02,ho,hc,a0d (show i<1000000 by omega)]<;>rfl,rfl⟩)
   (fun s h=>by
    subst h;have d0:decide (((15:Nat):Int)≤14)=false:=by decide
    exact⟨_,by simp only[a2P,d0,cF]<;>rfl,Or.inl rfl⟩) 15 0 (c,(w:Int),(0:Int),()) (by omega) rfl
  rcases h3 with rfl|⟨sh,o,rfl,ho⟩;exact⟨[],0,6,by simp only[h2,oB],fun h=>absurd h (by decide)⟩;exact⟨o,sh,0,by simp only[h2,oB],fun _=>ho⟩
 exact⟨[],0,1,rfl,fun h=>absurd h (by decide)⟩
theorem d3B{l:List Int}(hw:l.all a0b=true)(hl:l.length≤4096){o w:Nat}(h1:1≤o)(h2:o≤32)(h3:2≤w∧w≤16):∃c sh e,a4H (l,(o:Int),(w:Int))=some (c,sh,e)∧(e=0→c.length=o):=by
 obtain⟨ks,e1,e2⟩:=c8C hw hl h1 h2;obtain⟨c,e,g1,g2⟩:=d1X (ks:=ks) (by omega) (by omega);unfold a4H;simp only[e1,oB,show((0:Int) != 0)=false from rfl,cF,g1]
 by_cases he:e=0
 subst he;obtain⟨o',sh,e',g3,g4⟩:=d1Y (c:=c) (w:=w) (by have:=g2 rfl;omega) (by have:=g2 rfl;omega) h3
 have:=g2 rfl
 exact⟨o',sh,e',by simp only[show((0:Int) != 0)=false from rfl,cF,g3,oB],fun h=>by have:=g4 h;omega⟩;have hne:(e != 0)=true:=by simpa using he
 exact⟨[],0,e,by simp only[hne,cT],fun h=>absurd h he⟩
theorem d1Z{l:List Int}{o:Nat}(hl:l.length<100000)(ho:o≤4):∃v,b0T (l,(o:Int))=some v:=by
 obtain⟨b,h1,v,h2⟩:=a8G (f:=a5F) (fun i s=>∃v:Int,s=((o:Int),v,l,(l.length:Int),(i:Int),())) (fun b=>∃v:Int,b=(v,())) l.length
  (fun i s hi h=>by
   obtain⟨v,rfl⟩:=h;cases hc:decide (wrap .i64 ((i:Int)+(o:Int))≥4)with
   |true=>exact⟨_,by simp only[a5F,dlt hi,cT,a0c hi,oB,hc,a0d (show i<1000000 by omega)]<;>rfl,_,rfl⟩
   |false=>exact⟨_,by simp only[a5F,dlt hi,cT,cF,a0c hi,oB,hc,a0d (show i<1000000 by omega)]<;>rfl,_,rfl⟩)
  (fun s h=>by
   obtain⟨v,rfl⟩:=h;exact⟨_,by simp only[a5F,dge,cF]<;>rfl,v,rfl⟩) l.length 0 ((o:Int),(0:Int),l,(l.length:Int),(0:Int),()) (by omega) ⟨0,rfl⟩
 subst h2;refine⟨v,?_⟩;unfold b0T;simp only[h1,oB]
theorem c4a{l:List Int}{o:Nat}(ho:o≤4)(hs:l.length<100000)(hw:l.all a0b=true):∃r e,a5D (l,(o:Int))=some (r,e)∧r.length≤l.length:=by
 by_cases hn:o≤l.length
 ·rw[b9H ho hn (by unfold short;omega) hw];cases (a2m o l).all a0b with
  |true=>exact⟨_,_,rfl,by rw[a6I];omega⟩
  |false=>exact⟨_,_,rfl,by simp⟩
 have c1:decide ((o:Int)<0)=false:=decide_eq_false (by omega);have c2:decide ((o:Int) > 4)=false:=decide_eq_false (by omega);have c3:decide (((l.length:Nat):Int)<(o:Int))=true:=decide_eq_true (by omega);exact⟨[],1,by unfold a5D;simp only[c1,c2,c3,cF,cT,oB],by simp⟩
theorem c4b{l:List Int}(hs:l.length<100000)(hw:l.all a0b=true):∃o:Nat,a7h l=some (o:Int)∧o≤4:=by
 obtain⟨b,h1,o,h2,h3⟩:=a8G (f:=a3E) (fun i s=>∃(o:Nat)(v:Int),s=(l,(o:Int),v,(i:Int),())∧o≤4) (fun b=>∃o:Nat,b=((o:Int),())∧o≤4) 5
  (fun i s hi h=>by
   obtain⟨o,v,rfl,ho⟩:=h;have d0:decide ((i:Int)≤4)=true:=decide_eq_true (by omega);obtain⟨r,e,g1,g2⟩:=c4a (o:=i) (by omega) hs hw;obtain⟨y,g3⟩:=d1Z (l:=r) (o:=i) (by omega) (by omega);cases hc:(e != 0)with
   |true=>exact⟨_,by simp only[a3E,d0,cT,g1,oB,hc,a0d (show i<1000000 by omega)]<;>rfl,o,v,rfl,ho⟩
   |false=>
    cases h4:decide (v<0)with
    |true=>exact⟨_,by simp only[a3E,d0,cT,cF,g1,oB,hc,g3,h4,a0d (show i<1000000 by omega)]<;>rfl,i,y,rfl,by omega⟩
    |false=>
     cases h5:decide (y<v)with
     |true=>exact⟨_,by simp only[a3E,d0,cT,cF,g1,oB,hc,g3,h4,h5,a0d (show i<1000000 by omega)]<;>rfl,i,y,rfl,by omega⟩
     |false=>exact⟨_,by simp only[a3E,d0,cT,cF,g1,oB,hc,g3,h4,h5,a0d (show i<1000000 by omega)]<;>rfl,o,v,rfl,ho⟩)
  (fun s h=>by
   obtain⟨o,v,rfl,ho⟩:=h;have d0:decide (((5:Nat):Int)≤4)=false:=by decide
   exact⟨_,by simp only[a3E,d0,cF]<;>rfl,o,rfl,ho⟩) 5 0 (l,(0:Int),(-1:Int),(0:Int),()) (by omega) ⟨0,-1,rfl,by omega⟩
 subst h2;refine⟨o,?_,h3⟩;unfold a7h;simp only[h1,oB]
end Go.Ab
namespace Go.Ab
open IntKind(wrap)
def a9a(g:List Int→Int):List Int→List Int→List Int
 | [],_=>[]
 |x::r,done=>W (x-g done)::a9a g r (done++[x])
theorem b6e(g:List Int→Int):∀r done,(a9a g r done).length=r.length
 | [],_=>rfl
 |x::r,done=>by simp[a9a,b6e g r]
theorem d3C{x g:Int}(h:a0b x=true):W (W (x-g)+g)=x:=by
 have:=c0N h
 simp only[W,a9w,b07]at *;rw[show x-g+g=x from by omega];exact this
theorem b8S(g:List Int→Int):∀(r done:List Int),r.all a0b=true→a4Y g (a9a g r done) done=some (done++r)
 | [],done,_=>by simp[a9a,a4Y]
 |x::r,done,h=>by
  rw[a08,bA]at h;simp only[a9a,a4Y,d3C h.1,h.1,cT,b8S g r (done++[x]) h.2,aA,a53]
def b3J(g:List Int→Int)(r done:List Int):Option (List Int):=bif (a9a g r done).all a0b then some (a9a g r done)else none
def b6K{β:Type}(g:List Int→Int)(bad:β)(a:List Int×List Int)(x:Int):(List Int×List Int) ⊕ β:=
 bif a0b (W (x-g a.1))then .inl (a.1++[x],a.2++[W (x-g a.1)])else .inr bad
theorem b8T{β:Type}(g:List Int→Int)(bad:β)(fin:List Int×List Int→β):∀(r done acc:List Int),
  b0i fin (a3G (b6K g bad) r (done,acc))=match b3J g r done with|some e=>fin (done++r,acc++e)|none=>bad
 | [],done,acc=>by simp[a3G,b0i,b3J,a9a]
 |x::r,done,acc=>by
  simp only[a3G,b6K];cases h:a0b (W (x-g done))with
  |true=>
   simp only[cT];rw[b8T g bad fin r];simp only[b3J,a9a,a08,h,a32];cases (a9a g r (done++[x])).all a0b<;>simp
  |false=>simp[b0i,b3J,a9a,h]
theorem c4c{g:List Int→Int}{r done e:List Int}(h:b3J g r done=some e):e=a9a g r done∧e.all a0b=true:=by
 unfold b3J at h;cases hc:(a9a g r done).all a0b with
 |true=>simp only[hc,cT,sj]at h;subst h;exact⟨rfl,hc⟩
 |false=>simp[hc]at h
theorem c6f{l:List Int}{i:Nat}(h:i<l.length):l.take i++[l[i]]=l.take (i+1):=by rw[List.take_append_getElem h]
theorem b2Q{l:List Int}{p:Int→Bool}(h:l.all p=true)(i:Nat):(l.take i).all p=true:=by
 rw[lA]at h⊢;exact fun x hx=>h x (a40 hx)
theorem c8D{l:List Int}{p:Int→Bool}(h:l.all p=true)(i:Nat):(l.drop i).all p=true:=by
 rw[lA]at h⊢;exact fun x hx=>h x (a41 hx)
theorem c6g{σ β:Type}{f:σ→Option (σ ⊕ β)}(l:List Int)(k:Nat)(hk:k≤l.length)(S:Nat→List Int→σ)(g:List Int×List Int→Int→(List Int×List Int) ⊕ β)(fin:List Int→β)
  (hstep:∀i (h:i<l.length) acc,k≤i→acc.length=i-k→(∀a',g (l.take i,acc) l[i]=.inl a'→f (S i acc)=some (.inl (S (i+1) a'.2))∧a'.1=l.take (i+1)∧a'.2.length=i+1-k)∧(∀b,g (l.take i,acc) l[i]=.inr b→f (S i acc)=some (.inr b)))
  (hexit:∀acc,acc.length=l.length-k→f (S l.length acc)=some (.inr (fin acc))):a0h f (S k [])=some (b0i (fun a=>fin a.2) (a3G g (l.drop k) (l.take k,[]))):=by
 have h:=a2x (f:=f) (l.drop k) (fun i a=>S (k+i) a.2) g (fun i a=>a.1=l.take (k+i)∧a.2.length=i) (fun a=>fin a.2)
  (fun i hi a ha=>by
   obtain⟨a1,acc⟩:=a;obtain⟨h1,h2⟩:=ha;simp only at h1 h2;subst h1;rw[a07]at hi;have hlt:k+i<l.length:=by omega
   have e:(l.drop k)[i]'(by rw[a07];exact hi)=l[k+i]:=by rw[List.getElem_drop]
   rw[e];obtain⟨g1,g2⟩:=hstep (k+i) hlt acc (by omega) (by omega);refine⟨fun a' ha'=>?_,g2⟩;obtain⟨q1,q2,q3⟩:=g1 a' ha';exact⟨q1,q2,by omega⟩)
  (fun a ha=>by
   rw[a07]at ha⊢;rw[show k+(l.length-k)=l.length from by omega];exact hexit a.2 ha.2) (a:=(l.take k,[])) ⟨by simp,rfl⟩
 exact h
def b6L(l c:List Int)(s:Int):Option (List Int):=bif l.all a0b then b3J (b2N c s) (l.drop c.length) (l.take c.length)else none
theorem b8f{l c:List Int}{s:Int}(hl:b0j c s=true)(hc:c.length≤l.length)(hr:l.length<100000):
  a8l (l,c,s)=some (a3l (b6L l c s)):=by
 have hs:short l:=by unfold short;omega
 have hcs:short c:=by unfold short;omega
 have h0:0≤s:=by simp only[b0j,bA,dT]at hl;omega
 have e1:decide (((l.length:Nat):Int)<((c.length:Nat):Int))=false:=by simp;omega
 unfold a8l b6L;simp only[b0U hcs,hl,oB,bT,cF,e1,a6U hs];cases hw:l.all a0b with
 |false=>rfl
 |true=>
  have e2:wrap .i64 (((l.length:Nat):Int)-((c.length:Nat):Int))=((l.length-c.length:Nat):Int):=by rw[a0f (by omega)];omega
  have e3:decide ((0:Int)≤((l.length-c.length:Nat):Int))=true:=by simp
  have e4:lim (l.length-c.length)=true:=a0I (by omega);simp only[bT,cF,cT,e2,e3,tN,e4,a02]
  have:=c6g (f:=a5E) l c.length hc (fun i acc=>(l,c,s,(i:Int),acc,())) (b6K (b2N c s) (.inr ((6:Int),([]:List Int),()))) (fun acc=>.inl (acc,()))
   (fun i hi acc hki hacc=>by
    have ht:short (l.take i):=by unfold short;rw[a05];omega
    have h1:decide ((0:Int)≤(i:Int))=true:=by simp
    have h2:decide ((i:Int)≤((l.length:Nat):Int))=true:=by simp;omega
    have h3:lim (acc.length+1)=true:=a0I (by omega);constructor
    ·intro a' ha';unfold b6K at ha';cases hq:a0b (W (l[i]-b2N c s (l.take i)))with
     |false=>simp[hq]at ha'
     |true=>
      simp only[hq,cT,Sum.inl.injEq]at ha';subst ha';refine⟨?_,c6f hi,by simp;omega⟩;simp only[a5E,dlt hi,cT,a0c hi,oB,h1,h2,a02,tN,b8K ht hcs h0,a7n,hq,bT,cF,h3,a0d (a57 hi hs),a16]
    ·intro b hb;unfold b6K at hb;cases hq:a0b (W (l[i]-b2N c s (l.take i)))with
     |true=>simp[hq]at hb
     |false=>
      simp only[hq,cF,Sum.inr.injEq]at hb;subst hb;simp only[a5E,dlt hi,cT,a0c hi,oB,h1,h2,a02,tN,b8K ht hcs h0,a7n,hq,a38])
   (fun acc hacc=>by simp[a5E])
  rw[this,b8T];cases b3J (b2N c s) (l.drop c.length) (l.take c.length)<;>rfl
theorem b8U{l c r:List Int}{s:Int}(h:b6L l c s=some r):b5S (l.take c.length) r c s=some l∧r.all a0b=true∧r.length=l.length-c.length:=by
 unfold b6L at h;cases hw:l.all a0b with
 |false=>simp[hw]at h
 |true=>
  simp only[hw,cT]at h;obtain⟨e,hr⟩:=c4c h;refine⟨?_,hr,by rw[e,b6e,a07]⟩;simp only[b5S,b2Q hw,hr,a02,cT];rw[e,b8S _ _ _ (c8D hw _),List.take_append_drop]
def b8g(l:List Int)(lag:Int)(t:List Int):Option (List Int):=bif l.all a0b then b3J (b0V lag t) l []else none
theorem c8E{l t:List Int}{lag:Int}(hl:b3C lag t=true)(ht:t.length=3)(hr:l.length<100000):
  a8E (l,lag,t)=some (a3l (b8g l lag t)):=by
 have hs:short l:=by unfold short;omega
 obtain⟨h1,h2⟩:2≤lag∧lag≤1024:=by simp only[b3C,bA,dT]at hl;omega
 unfold a8E b8g;simp only[b7p ht,hl,oB,bT,cF,b6C hs];cases hw:l.all a0b with
 |false=>rfl
 |true=>
  have e3:decide ((0:Int)≤((l.length:Nat):Int))=true:=by simp
  have e4:lim l.length=true:=a0I (by omega);simp only[bT,cF,cT,e3,tN,e4,a02]
  have:=c6g (f:=a7f) l 0 (Nat.zero_le _) (fun i acc=>(l,lag,l,(l.length:Int),(i:Int),acc,t,())) (b6K (b0V lag t) (.inr ((6:Int),([]:List Int),()))) (fun acc=>.inl (acc,()))
   (fun i hi acc hki hacc=>by
    have h3:lim (acc.length+1)=true:=a0I (by omega);have hp:=b6E (lag:=lag) (t:=t) (b05 hi) hs ht h1 h2;constructor
    ·intro a' ha';unfold b6K at ha';cases hq:a0b (W (l[i]-b0V lag t (l.take i)))with
     |false=>simp[hq]at ha'
     |true=>
      simp only[hq,cT,Sum.inl.injEq]at ha';subst ha';refine⟨?_,c6f hi,by simp;omega⟩;simp only[a7f,dlt hi,cT,a0c hi,oB,hp,a9v,hq,bT,cF,h3,a0d (a57 hi hs),a16]
    ·intro b hb;unfold b6K at hb;cases hq:a0b (W (l[i]-b0V lag t (l.take i)))with
     |true=>simp[hq]at hb
     |false=>
      simp only[hq,cF,Sum.inr.injEq]at hb;subst hb;simp only[a7f,dlt hi,cT,a0c hi,oB,hp,a9v,hq,a38])
   (fun acc hacc=>by simp[a7f])
  simp only[nZ]at this;rw[this,b8T,a18,b30];cases b3J (b0V lag t) l []<;>rfl
theorem c0S{l t r:List Int}{lag:Int}(h:b8g l lag t=some r):b4U r lag t=some l∧r.all a0b=true∧r.length=l.length:=by
 unfold b8g at h;cases hw:l.all a0b with
 |false=>simp[hw]at h
 |true=>
  simp only[hw,cT]at h;obtain⟨e,hr⟩:=c4c h;refine⟨?_,hr,by rw[e,b6e]⟩;simp only[b4U,hr,cT];rw[e,b8S _ _ _ hw,a06]
end Go.Ab
namespace Go.Ab
def rsG:List Int→Fil→List Int
 | [],_=>[]
 |x::r,f=>W (x-a1l f)::rsG r (b4V f x)
theorem b8V:∀r f,(rsG r f).length=r.length
 | [],_=>rfl
 |x::r,f=>by simp[rsG,b8V r]
def rsO:List Int→List Int→Fil→Option (List Int)
 | [],done,_=>some done
 |x::r,done,f=>bif a0b (W (x-a1l f))then rsO r (done++[W (x-a1l f)]) (b4V f x)else none
theorem d3D:∀(r done:List Int)(f:Fil),rsO r done f=bif (rsG r f).all a0b then some (done++rsG r f)else none
 | [],done,f=>by simp[rsO,rsG]
 |x::r,done,f=>by
  simp only[rsO,rsG,a08];cases a0b (W (x-a1l f))with
  |false=>rfl
  |true=>simp only[cT,a32,d3D r,aA,a53]
theorem d0r:∀(r z:List Int)(f:Fil),r.all a0b=true→stO (rsG r f) z f=some (z++r)
 | [],z,f,_=>by simp[rsG,stO]
 |x::r,z,f,h=>by
  rw[a08,bA]at h;have e:W (a1l f+W (x-a1l f))=x:=by rw[Int.add_comm];exact d3C h.1
  simp only[rsG,stO,e,h.1,cT,d0r r _ _ h.2,aA,a53]
theorem b6M{row:List Int}{a:List Stg}{b c:Int}(hs:short row):∀(k i:Nat)(done:List Int)(f:Fil),i+k=row.length→done.length=i→FilOk f→
  a0h a6t (a,b,c,(row.length:Int),(i:Int),done++row.drop i,f,())=some (match rsO (row.drop i) done f with
   |some r=>.inl (a,b,c,r,())
   |none=>.inr ((6:Int),([]:List Int),()))
 |0,i,done,f,h,hd,hf=>by
  obtain rfl:i=row.length:=by omega
  rw[a22,a25];exact a0o (b:=Sum.inl (a,b,c,done,())) (by simp[a6t])
 |k+1,i,done,f,h,hd,hf=>by
  have hi:i<row.length:=by omega
  have hs':row.length<1000000:=hs;have h0:decide ((0:Int)≤(i:Int))=true:=by simp
  have hl:(done++row.drop i).length=row.length:=by simp;omega
  have h1:decide ((i:Int)<(((done++row.drop i).length:Nat):Int))=true:=by rw[hl];simp;omega
  have hst:rsO (row.drop i) done f=bif a0b (W (row[i]-a1l f))then rsO (row.drop (i+1)) (done++[W (row[i]-a1l f)]) (b4V f row[i])else none:=by
   rw[a03 hi];rfl
  rw[hst];cases hw:a0b (W (row[i]-a1l f))with
  |true=>
   rw[a0q (s':=(a,b,c,(row.length:Int),((i+1:Nat):Int),(done++[W (row[i]-a1l f)])++row.drop (i+1),b4V f row[i],())) (by
    simp only[a6t,dlt hi,h0,h1,cT,a02,a7o hf,oB,tN,b6F hd hi,a6b,hw,bT,cF,b9A hf,c8l hd hi,a0d (show i<1000000 by omega)])]
   exact b6M hs k (i+1) _ _ (by omega) (by simp;omega) (c8k hf _)
  |false=>
   exact a0o (by
    simp only[a6t,dlt hi,h0,h1,cT,a02,a7o hf,oB,tN,b6F hd hi,a6b,hw,a38];rfl)
def lRO:List Stg→List Int→Option (List Int)
 | [],row=>some row
 |s::r,row=>match rsO row [] (b2k s)with
  |some row'=>lRO r row'
  |none=>none
theorem c8F{row d:List Int}{f:Fil}(h:rsO row [] f=some d):d=rsG row f∧d.all a0b=true:=by
 rw[d3D]at h;cases hc:(rsG row f).all a0b with
 |true=>simp only[hc,cT,a06,sj]at h;subst h;exact⟨rfl,hc⟩
 |false=>simp[hc]at h
theorem c6h:∀(a b:List Stg)(row:List Int),lO (a++b) row=match lO a row with|some r=>lO b r|none=>none
 | [],b,row=>rfl
 |s::a,b,row=>by
  simp only[a85,lO];split;exact c6h a b _;rfl
theorem c8G:∀(st:List Stg)(row d:List Int),row.all a0b=true→lRO st row=some d→lO st.reverse d=some row∧d.all a0b=true∧d.length=row.length
 | [],row,d,hw,h=>by
  simp only[lRO,sj]at h;subst h;exact⟨rfl,hw,rfl⟩
 |s::st,row,d,hw,h=>by
  simp only[lRO]at h
  split at h
  rename_i row' hr;obtain⟨e,hw'⟩:=c8F hr;obtain⟨h1,h2,h3⟩:=c8G st row' d hw' h;refine⟨?_,h2,by rw[h3,e,b8V]⟩;rw[List.reverse_cons,c6h,h1];simp only[lO];rw[e,d0r row [] _ hw,a06];cases h
theorem b4z{st:List Stg}(hst:∀s∈st,stageB s=true)(hl:st.length≤3):∀(j k:Nat)(row:List Int),k+j=st.length→short row→
  a0h a6u (st,(st.length:Int),(k:Int),row,())=some (match lRO (st.drop k) row with
   |some r=>.inl (r,())
   |none=>.inr ((6:Int),([]:List Int),()))
 |0,k,row,h,hs=>by
  obtain rfl:k=st.length:=by omega
  rw[a22];exact a0o (by simp[a6u,lRO])
 |j+1,k,row,h,hs=>by
  have hk:k<st.length:=by omega
  have hstage:=hst _ (a09 hk);have h1:=b6M (a:=st) (b:=(st.length:Int)) (c:=(k:Int)) hs row.length 0 [] (b2k st[k]) (by omega) rfl (d0p hstage);simp only[nZ,a18,a06]at h1;have hne:((0:Int) != 0)=false:=rfl;rw[a03 hk];simp only[lRO];cases hr:rsO row [] (b2k st[k])with
  |some r=>
   rw[hr]at h1;rw[a0q (s':=(st,(st.length:Int),((k+1:Nat):Int),r,())) (by simp only[a6u,dlt hk,cT,a0c hk,oB,b5U hstage,hne,cF,h1,a0d (show k<1000000 by omega)])];exact b4z hst hl j (k+1) r (by omega) (by have:=(c8F hr).1;unfold short at hs⊢;rw[this,b8V];exact hs)
  |none=>
   rw[hr]at h1;exact a0o (by simp only[a6u,dlt hk,cT,a0c hk,oB,b5U hstage,hne,cF,h1])
def b5d(l:List Int)(st:List Stg):Option (List Int):=bif l.all a0b then lRO st l else none
theorem c6R{l:List Int}{st:List Stg}(hl:b0x st=true)(hr:l.length<100000):b2f (l,st)=some (a3l (b5d l st)):=by
 have hl':=hl;simp only[b0x,bA,dT]at hl';have hss:short st:=by unfold short;omega
 have hsr:short l:=by unfold short;omega
 unfold b2f b5d;simp only[b5R hss,hl,oB,bT,cF,b5Q hsr];cases hw:l.all a0b with
 |false=>rfl
 |true=>
  have:=b4z (lA.1 hl'.2) hl'.1 st.length 0 l (by omega) hsr
  simp only[nZ,a18]at this;simp only[bT,cF,cT,a7O hsr,oB,this];cases lRO st l<;>rfl
theorem c4d{l r:List Int}{st:List Stg}(h:b5d l st=some r):b4e r st=some l∧r.all a0b=true∧r.length=l.length:=by
 unfold b5d at h;cases hw:l.all a0b with
 |false=>simp[hw]at h
 |true=>
  simp only[hw,cT]at h;obtain⟨h1,h2,h3⟩:=c8G st l r hw h;exact⟨by simp only[b4e,h2,cT,h1],h2,h3⟩
end Go.Ab
namespace Go.Ab
open IntKind(wrap)
theorem p64{w:Nat}(h:w≤64):((2^w:Nat):Int) ∣ 18446744073709551616:=a33.2 (a78 2 h)
theorem d7S(n:Int):∃q,wrap .i64 n=n+18446744073709551616*q:=by
 rw[a9w,Int.bmod];split;exact⟨-(n / 18446744073709551616),by omega⟩;exact⟨-(n / 18446744073709551616)-1,by omega⟩
theorem d4Y{w:Nat}(h:w≤64)(n:Int):((2^w:Nat):Int) ∣ wrap .i64 n↔((2^w:Nat):Int) ∣ n:=by
 obtain⟨q,hq⟩:=d7S n;rw[hq];exact a86 (a64 (p64 h))
theorem c6i{w:Nat}(h:w≤64)(a:Int):2^w ∣ (a04 64 a).toNat↔((2^w:Nat):Int) ∣ a:=by
 have e:(((a04 64 a).toNat:Nat):Int)=a+18446744073709551616*-(a / 18446744073709551616):=by
  rw[a31]
  have:((2^64:Nat):Int)=18446744073709551616:=rfl
  rw[this];omega
 rw[←a33,e];exact a86 (a64 (p64 h))
theorem d2a(w x y:Nat):2^w ∣ (x ||| y)↔2^w ∣ x∧2^w ∣ y:=by
 rw[a65,a65,a65,Nat.or_mod_two_pow];exact Nat.or_eq_zero_iff
theorem d7T{w:Nat}(h:w≤64)(a b:Int):((2^w:Nat):Int) ∣ bits .i64 .or a b↔((2^w:Nat):Int) ∣ a∧((2^w:Nat):Int) ∣ b:=by
 show((2^w:Nat):Int) ∣ wrap .i64 ((((a04 64 a) ||| (a04 64 b)).toNat:Nat):Int)↔_;rw[d4Y h,a33,a63,d2a,c6i h,c6i h]
def orI(l:List Int)(a:Int):Int:=l.foldl (fun a x=>bits .i64 .or a x) a
theorem b8h{w:Nat}(h:w≤64):∀(l:List Int)(a:Int),((2^w:Nat):Int) ∣ orI l a↔((2^w:Nat):Int) ∣ a∧∀x∈l,((2^w:Nat):Int) ∣ x
 | [],a=>by simp[orI]
 |x::l,a=>by
  show((2^w:Nat):Int) ∣ orI l (bits .i64 .or a x)↔_;rw[b8h h l,d7T h];simp only[mC,forall_eq_or_imp,and_assoc]
theorem c8H:∀(l:List Int),(∀x∈l,x=0)→orI l 0=0
 | [],_=>rfl
 |x::l,h=>by
  have hx:=h x (a81);subst hx;show orI l (bits .i64 .or 0 0)=0;rw[show bits .i64 .or 0 0=0 from by decide];exact c8H l fun y hy=>h y (a96 _ hy)
theorem d7U{l:List Int}(hw:l.all a0b=true)(h:∃x∈l,x≠0):orI l 0≠0:=by
 intro e;obtain⟨x,hx,hne⟩:=h;have hd:=((b8h (w:=62) (by omega) l 0).1 (by rw[e];exact a89 _)).2 x hx;have hwx:=a2j.1 (lA.1 hw x hx);have e62:((2^62:Nat):Int)=4611686018427387904:=rfl;rw[e62]at hd;omega
def b0c(l:List Int)(w:Nat):Prop:=
 ((∀x∈l,x=0)∧w=0)∨((∃x∈l,x≠0)∧w≤30∧(∀x∈l,((2^w:Nat):Int) ∣ x)∧(w=30∨∃x∈l,¬ ((2^(w+1):Nat):Int) ∣ x))
theorem d2b{v w:Nat}(h:v≤w){x:Int}(hx:((2^w:Nat):Int) ∣ x):((2^v:Nat):Int) ∣ x:=
 Int.dvd_trans (a33.2 (a78 2 h)) hx
theorem b0c.unique{l:List Int}{v w:Nat}(hv:b0c l v)(hw:b0c l w):v=w:=by
 have key:∀{v w:Nat},v≤30→w≤30→(∀x∈l,((2^w:Nat):Int) ∣ x)→(v=30∨∃x∈l,¬ ((2^(v+1):Nat):Int) ∣ x)→w≤v:=by
  intro v w h30 h30' h1 h2;rcases h2 with h2|⟨x,hx,h2⟩;omega;exact b24 fun hlt=>h2 (d2b (show v+1≤w by omega) (h1 x hx))
 rcases hv with⟨h0,hv⟩|⟨⟨x,hx,hne⟩,hv1,hv2,hv3⟩;rcases hw with⟨-,hw⟩|⟨⟨x,hx,hne⟩,-⟩;omega;exact absurd (h0 x hx) hne;rcases hw with⟨h0,-⟩|⟨-,hw1,hw2,hw3⟩;exact absurd (h0 x hx) hne;exact Nat.le_antisymm (key hw1 hv1 hv2 hw3) (key hv1 hw1 hw2 hv3)
theorem c8I:∀(n N:Nat),N≤n→0<N→∃k m,N=2^k*(2*m+1)
 |0,N,h,h0=>absurd h0 (by omega)
 |n+1,N,h,h0=>by
  by_cases he:N%2=0
  obtain⟨k,m,e⟩:=c8I n (N / 2) (by omega) (by omega);refine⟨k+1,m,?_⟩;rw[a58,a79 (2^k) 2,a99,←e];omega;exact⟨0,N / 2,by omega⟩
theorem d6S{k m:Nat}(h:2^k*(2*m+1)<2^64):(2^k*(2*m+1)) &&& (2^64-2^k*(2*m+1))=2^k:=by
 have hp:1≤2^k:=b01;have hk:k<64:=by
  refine b25 fun hge=>?_
  have h1:2^64≤2^k:=a20 (by decide) hge;have h2:2^k*1≤2^k*(2*m+1):=Nat.mul_le_mul_left _ (by omega);omega
 have e:2^k*(2*m+1)=(2^k*(2*m)+(2^k-1))+1:=by rw[b22];omega
 have hx:2^k*(2*m)+(2^k-1)<2^64:=by omega
 refine Nat.eq_of_testBit_eq fun i=>?_
 have e2:(2^64-2^k*(2*m+1)).testBit i=(decide (i<64)&&!(2^k*(2*m)+(2^k-1)).testBit i):=by
  rw[e];exact Nat.testBit_two_pow_sub_succ hx i
 have e1:=a80 (2*m+1) (b:=0) (i:=k) (by omega) i;rw[a87]at e1;have e3:=a80 (2*m) (b:=2^k-1) (i:=k) (by omega) i;rw[Nat.testBit_and,e2,e1,e3,b00]
 by_cases h1:i<k
 have:¬ k=i:=by omega
 simp[h1,this]
 by_cases h2:k=i
 subst h2;simp[hk,Nat.testBit_zero];obtain⟨j,rfl⟩:∃j,i=k+(j+1):=⟨i-k-1,by omega⟩;have s1:k+(j+1)-k=j+1:=by omega
 have s2:(2*m+1) / 2=m:=by omega
 have s3:2*m / 2=m:=by omega
 simp only[h1,h2,if_false,s1,Nat.testBit_succ,s2,s3,decide_false];cases m.testBit j<;>simp
theorem d4Z:∀k:Nat,k<64→b3d[(2^k*285870213051353865)%18446744073709551616 / 288230376151711744]?=some (k:Int):=by
 have h:∀k:Fin 64,b3d[(2^k.val*285870213051353865)%18446744073709551616 / 288230376151711744]?=some (k.val:Int):=by decide
 exact fun k hk=>h ⟨k,hk⟩
theorem c9P{k m:Nat}:¬ 2^(k+1) ∣ 2^k*(2*m+1):=by
 rintro⟨c,hc⟩
 rw[a58,a99]at hc
 have:=Nat.eq_of_mul_eq_mul_left (a21 k) hc
 omega
theorem d5a{N:Nat}(h0:0<N)(h:N<18446744073709551616):∃k:Nat,a2b (N:Int)=some (k:Int)∧2^k ∣ N∧¬ 2^(k+1) ∣ N:=by
 obtain⟨k,m,e⟩:=c8I N N (a42 _) h0;have h2:2^k≤N:=by rw[e];exact Nat.le_mul_of_pos_right _ (by omega)
 have hk:k<64:=by
  refine b25 fun hge=>?_
  have h1:2^64≤2^k:=a20 (by decide) hge;omega
 refine⟨k,?_,⟨_,e⟩,e▸c9P⟩;have hb:bits .u64 .and (N:Int) (wrap .u64 (0-(N:Int)))=((2^k:Nat):Int):=by
  have e1:wrap .u64 (0-(N:Int))=((18446744073709551616-N:Nat):Int):=by
   have:wrap .u64 (0-(N:Int))=(0-(N:Int))%18446744073709551616:=by simp[wrap,IntKind.bits,IntKind.signed]
   rw[this];omega
  rw[e1];show wrap .u64 (((a04 64 (N:Int)) &&& (a04 64 ((18446744073709551616-N:Nat):Int))).toNat:Int)=_;rw[a27,a27,a59,a30,a30,a28 h,a28 (by omega)]
  have:=d6S (k:=k) (m:=m) (by rw[←e];exact h)
  rw[←e]at this;rw[show(18446744073709551616:Nat)=2^64 from rfl,this];exact a0G (by omega)
 have hx:((N:Int)==0)=false:=by simp only[beq_eq_false_iff_ne,ne_eq];omega
 unfold a2b;rw[hb,hx,cF];have e2:wrap .u64 (((2^k:Nat):Int)*285870213051353865)=(((2^k*285870213051353865)%18446744073709551616:Nat):Int):=by
  have:wrap .u64 (((2^k:Nat):Int)*285870213051353865)=(((2^k:Nat):Int)*285870213051353865)%18446744073709551616:=by simp[wrap,IntKind.bits,IntKind.signed]
  rw[this];omega
 have hg:=d4Z k hk;generalize (2^k*285870213051353865)%18446744073709551616=M at e2 hg;have e3:=a7y (N:=M) (o:=58) (by omega);rw[e2,show(58:Int)=((58:Nat):Int)from rfl,e3,show 2^58=288230376151711744 from rfl];generalize M / 288230376151711744=J at hg;obtain⟨hi,hv⟩:=lS.1 hg;rw[a0c hi,hv];simp only[oB,a0f (show -9223372036854775808≤(k:Int)∧(k:Int)≤9223372036854775807 by omega)]
theorem d5b{n:Nat}(hn:n≤62)(c:Int):a0C .i64 (((2^n:Nat):Int)*c) (n:Int)=c:=by
 have hp:0<2^n:=a21 n;have e:min (a35 (n:Int)) (IntKind.bits .i64)=n:=by simp only[tN,IntKind.bits];omega
 have ep:((2^n:Nat):Int)=2^n:=by simp
 unfold a0C;rw[e,ep];exact a83 _ (by omega)
theorem d0s{l:List Int}(hs:short l):∀(k i:Nat)(a:Int),i+k=l.length→a0h a6r (a,l,(l.length:Int),(i:Int),())=some (orI (l.drop i) a,())
 |0,i,a,h=>by
  obtain rfl:i=l.length:=by omega
  rw[a22];exact a0o (by simp[a6r,orI])
 |k+1,i,a,h=>by
  have hi:i<l.length:=by omega
  have hs':l.length<1000000:=hs;rw[a03 hi,a0q (s':=(bits .i64 .or a l[i],l,(l.length:Int),((i+1:Nat):Int),())) (by
   simp only[a6r,dlt hi,cT,a0c hi,oB,a0d (show i<1000000 by omega)])]
  exact d0s hs k (i+1) _ (by omega)
theorem c9Q{l:List Int}{r:Nat}(hr:r≤30)(h:r=30∨¬ ((2^(r+1):Nat):Int) ∣ orI l 0):r=30∨∃x∈l,¬ ((2^(r+1):Nat):Int) ∣ x:=by
 rcases h with h|h;exact .inl h;refine .inr (Classical.byContradiction fun hc=>h ((b8h (by omega) l 0).2 ⟨a89 _,fun x hx=>Classical.byContradiction fun hn=>hc ⟨x,hx,hn⟩⟩))
theorem c2K{l:List Int}(hs:short l)(hw:l.all a0b=true):∃w:Nat,a4A l=some (w:Int)∧w≤30∧b0c l w:=by
 have h1:=d0s hs l.length 0 0 (by omega);simp only[nZ,a18]at h1;unfold a4A;simp only[h1,oB]
 by_cases hz:∀x∈l,x=0
 have e:=c8H l hz;exact⟨0,by rw[e];rfl,by omega,.inl ⟨hz,rfl⟩⟩;have hx:∃x∈l,x≠0:=Classical.byContradiction fun hc=>hz fun x hx=>Classical.byContradiction fun hn=>hc ⟨x,hx,hn⟩;have hne:=d7U hw hx;have he:(orI l 0==0)=false:=by simpa using hne
 obtain⟨q,hq⟩:∃q,wrap .u64 (orI l 0)=orI l 0+18446744073709551616*q:=⟨-(orI l 0 / 18446744073709551616),by
  have:wrap .u64 (orI l 0)=orI l 0%18446744073709551616:=by simp[wrap,IntKind.bits,IntKind.signed]
  rw[this];omega⟩
 obtain⟨r1,r2⟩:=c2d (orI l 0);obtain⟨N,hN⟩:=a00 r1;have hdN:∀v,v≤64→(2^v ∣ N↔((2^v:Nat):Int) ∣ orI l 0):=fun v hv=>by
  rw[←a33,←hN,hq];exact a86 (a64 (p64 hv))
 have hN0:0<N:=by
  refine Nat.pos_of_ne_zero fun e0=>?_
  obtain⟨x,hxl,hx0⟩:=hx;have hd:=((b8h (w:=62) (by omega) l 0).1 ((hdN 62 (by omega)).1 (by rw[e0];exact Nat.dvd_zero _))).2 x hxl;have hwx:=a2j.1 (lA.1 hw x hxl);rw[show((2^62:Nat):Int)=4611686018427387904 from rfl]at hd;omega
 obtain⟨k,hk,hk1,hk2⟩:=d5a hN0 (by omega);have hk64:k≤63:=by
  refine b24 fun hgt=>?_
  have h1:2^64≤2^k:=a20 (by decide) (by omega)
  have:=Nat.le_of_dvd hN0 hk1
  omega
 simp only[he,cF,hN,hk,oB];have em:a3s (k:Int) 30=((min k 30:Nat):Int):=by rw[d0o];omega
 refine⟨min k 30,by rw[em],by omega,.inr ⟨hx,by omega,?_,?_⟩⟩;exact((b8h (by omega) l 0).1 ((hdN _ (by omega)).1 (Nat.dvd_trans (a78 2 (by omega)) hk1))).2;refine c9Q (by omega) ?_
 by_cases hk30:30≤k
 exact .inl (by omega)
 have:min k 30=k:=by omega
 rw[this];exact .inr fun hh=>hk2 ((hdN _ (by omega)).2 hh)
theorem d6T{l:List Int}{w:Nat}(hw30:w≤30)(hw:l.all a0b=true)(h:b0c l w):b2o (w:Int) l=some (l.map fun x=>a0C .i64 x (w:Int)):=by
 have hd:∀x∈l,((2^w:Nat):Int) ∣ x:=by
  rcases h with⟨h,-⟩|⟨-,-,h,-⟩;exact fun x hx=>by rw[h x hx];exact a89 _
  exact h
 have:l.all (b3H (w:Int))=true:=by
  rw[lA];intro x hx;obtain⟨c,hc⟩:=hd x hx;have hm:a43 x (a0z .i64 1 (w:Int))=0:=by rw[c8w hw30,hc];exact Int.mul_tmod_right _ _
  simp only[b3H,lA.1 hw x hx,hm,a32];rfl
 simp only[b2o,this,cT]
end Go.Ab
namespace Go.Ab
open IntKind(wrap)
def c0T(k:Nat)(l:List Int):Nat:=(l.map (a5O k)).sum
def rbN(l:List Int):Nat→Nat
 |0=>0
 |i+1=>if c0T (i+1) l<c0T (rbN l i) l then i+1 else rbN l i
theorem c8J(l:List Int):∀i,rbN l i≤i
 |0=>a42 _
 |i+1=>by
  have:=c8J l i
  simp only[rbN]
  split<;>omega
theorem b8W{k:Nat}(hk:k≤25){l:List Int}(hw:l.all a0b=true)(hl:l.length<10000):a4k ((k:Int),l)=some ((c0T k l:Nat):Int):=c2e hk hw hl
theorem d5c{a b:Nat}(h:a<b):decide ((a:Int)<(b:Int))=true:=decide_eq_true (by omega)
theorem d2c{a b:Nat}(h:¬ a<b):decide ((a:Int)<(b:Int))=false:=decide_eq_false (by omega)
theorem c0U{l:List Int}(hw:l.all a0b=true)(hl:l.length<10000):b3y l=some ((rbN l 25:Nat):Int):=by
 have:=a3F (f:=a7g) (fun i:Nat=>(l,((rbN l i:Nat):Int),((c0T (rbN l i) l:Nat):Int),((i+1:Nat):Int),())) 25 (b:=(((rbN l 25:Nat):Int),()))
  (fun i hi=>by
   have d0:decide (((i+1:Nat):Int)≤25)=true:=decide_eq_true (by omega);have w1:wrap .i64 (((i+1:Nat):Int)+1)=((i+1+1:Nat):Int):=a0d (by omega);have hs:=b8W (k:=i+1) (by omega) hw hl
   by_cases hlt:c0T (i+1) l<c0T (rbN l i) l
   simp only[a7g,d0,cT,hs,oB,w1,d5c hlt,rbN,hlt,if_true];simp only[a7g,d0,cT,cF,hs,oB,w1,d2c hlt,rbN,hlt,if_false])
  (by
   have d0:decide (((25+1:Nat):Int)≤25)=false:=decide_eq_false (by omega);simp only[a7g,d0,cF])
 have h0:=b8W (k:=0) (by omega) hw hl;have e1:((0+1:Nat):Int)=1:=rfl;have e0:rbN l 0=0:=rfl;simp only[nZ]at h0;simp only[e0,nZ,e1]at this;unfold b3y;simp only[h0,oB,this]
def b5e(l:List Int):Int:=if 5+a0l l*l.length<c0T (rbN l 25) l then 31 else((rbN l 25:Nat):Int)
theorem d2d(l:List Int):kB (b5e l)=true:=by
 have:=c8J l 25
 unfold b5e;split;rfl;simp only[kB,a24,bA,dT];omega
theorem c4e{l:List Int}(hw:l.all a0b=true)(hl:l.length<10000):a9X l=some (b5e l):=by
 have h1:=c8J l 25;have hs:=b8W (k:=rbN l 25) h1 hw hl;unfold a9X b5e
 by_cases hlt:5+a0l l*l.length<c0T (rbN l 25) l
 simp only[c0U hw hl,b6b hl,hs,oB,d5c hlt,cT,hlt,if_true];simp only[c0U hw hl,b6b hl,hs,oB,d2c hlt,cF,hlt,if_false]
def a3q:List Nat→List Int→List Int
 | [],_=>[]
 |z::zs,l=>b5e (l.take z)::a3q zs (l.drop z)
theorem b8i:∀zs l,(a3q zs l).length=zs.length
 | [],_=>rfl
 |z::zs,l=>by simp[a3q,b8i zs]
theorem c4f:∀zs l,(a3q zs l).all kB=true
 | [],_=>rfl
 |z::zs,l=>by simp[a3q,c4f zs,d2d]
theorem b9J{zn:List Nat}{n warm most least order:Int}{L:List Int}{a b:Prt}(hz:zn.length≤256):∀(j i:Nat)(rest ks:List Int),i+j=zn.length→(zn.drop i).sum=rest.length→rest.all a0b=true→rest.length≤5000→ks.length=i→
  a0h a8Y (n,warm,most,L,least,order,rest,((zn.length:Nat):Int),(i:Int),a1s zn,a,b,(order,ks,()),())=some (n,warm,most,L,least,order,a,b,(order,ks++a3q (zn.drop i) rest,()),())
 |0,i,rest,ks,h,_,_,_,_=>by
  obtain rfl:i=zn.length:=by omega
  rw[a22];exact a0o (by simp only[a8Y,dge,cF,a3q,a25])
 |j+1,i,rest,ks,h,hr,hwr,hr5,hki=>by
  have hlt:i<zn.length:=by omega
  rw[b8O hlt]at hr;have h0:decide ((0:Int)≤(i:Int))=true:=by simp
  have h1:decide ((i:Int)<(((a1s zn).length:Nat):Int))=true:=by rw[a1J];simp;omega
  have h2:decide ((0:Int)≤((zn[i]:Nat):Int))=true:=by simp
  have h3:decide (((zn[i]:Nat):Int)≤((rest.length:Nat):Int))=true:=by simp;omega
  have hk:=c4e (b2Q hwr zn[i]) (by rw[a05];omega);have hlim:lim (ks.length+1)=true:=a0I (by omega);rw[a03 hlt,a0q (s':=(n,warm,most,L,least,order,rest.drop zn[i],((zn.length:Nat):Int),((i+1:Nat):Int),a1s zn,a,b,(order,ks++[b5e (rest.take zn[i])],()),())) (by
   simp only[a8Y,dlt hlt,h0,h1,a9y hlt,h2,h3,cT,a02,tN,hk,oB,hlim,a29,a0d (show i<1000000 by omega),a16])]
  rw[b9J hz j (i+1) _ _ (by omega) (by rw[a07];omega) (c8D hwr _) (by rw[a07];omega) (by simp;omega)];simp only[a3q,aA,a53]
def zsN(o n warm:Int):List Nat:=(a1B o n warm).map a35
def b4X(o n warm:Int)(l:List Int):Prt:=(o,a3q (zsN o n warm) l,())
def c4g(o n warm:Int)(l:List Int):Nat:=4+a4S (zsN o n warm) (a3q (zsN o n warm) l) l
def a1Q(n warm:Int)(l:List Int):Nat→Prt×Nat
 |0=>((0,[],()),0)
 |i+1=>if(a1B (i:Int) n warm).length=0 then a1Q n warm l i else
   if(a1Q n warm l i).2=0∨c4g (i:Int) n warm l<(a1Q n warm l i).2 then(b4X (i:Int) n warm l,c4g (i:Int) n warm l)else a1Q n warm l i
def b8X(n warm:Int)(l:List Int):Prt:=(a1Q n warm l 7).1
theorem d0t{o:Nat}{n warm:Int}{l:List Int}(hs:(a1B (o:Int) n warm).length≠0)(hl:(l.length:Int)=n-warm)(hw:l.all a0b=true)(h5:l.length≤5000):
  ∃zn,a1B (o:Int) n warm=a1s zn∧zsN (o:Int) n warm=zn∧zn.length≤256∧zn.sum=l.length∧a6z (b4X (o:Int) n warm l) n warm=true∧PartsOk (b4X (o:Int) n warm l) n warm l zn:=by
 obtain⟨zn,g1,g2,g3⟩:=b7r hs;have ez:zsN (o:Int) n warm=zn:=by unfold zsN;rw[g1,b3G]
 have hp:a6z (b4X (o:Int) n warm l) n warm=true:=by
  simp only[a6z,b4X,bA,a34,beq_eq_false_iff_ne,ne_eq,beq_iff_eq];exact⟨hs,by rw[g1,a1J,b8i,ez],c4f _ _⟩
 obtain⟨zn',hok⟩:=PartsOk.of hp hl hw h5
 have:zn'=zn:=by
  have h1:=hok.sizes;simp only[b4X]at h1;rw[g1]at h1;rw[←b3G zn,h1,b3G]
 subst this;exact⟨_,g1,ez,g3,by omega,hp,hok⟩
theorem b8Y{n warm:Int}{l:List Int}(hr:a6G n warm=true)(hl:(l.length:Int)=n-warm)(hw:l.all a0b=true)(h5:l.length≤5000):∀i,1≤i→(a1Q n warm l i).2≠0∧a6z (a1Q n warm l i).1 n warm=true
 |0,h=>absurd h (by omega)
 |i+1,_=>by
  by_cases hs:(a1B (i:Int) n warm).length=0
  ·simp only[a1Q,hs,if_true];cases i with
   |zero=>exact absurd hs (d1V hr)
   |succ i=>exact b8Y hr hl hw h5 (i+1) (by omega)
  ·obtain⟨zn,-,-,-,-,hp,-⟩:=d0t hs hl hw h5;simp only[a1Q,hs,if_false];split;exact⟨by simp only[c4g];omega,hp⟩
   ·rename_i hne;cases i with
    |zero=>exact absurd (Or.inl rfl) hne
    |succ i=>exact b8Y hr hl hw h5 (i+1) (by omega)
theorem d5d{n warm:Int}{l:List Int}(hr:a6G n warm=true)(hl:(l.length:Int)=n-warm)(hw:l.all a0b=true)(h5:l.length≤5000):a6z (b8X n warm l) n warm=true:=
 (b8Y hr hl hw h5 7 (by omega)).2
theorem c6S{n warm:Int}{l:List Int}(hr:a6G n warm=true)(hl:(l.length:Int)=n-warm)(hw:l.all a0b=true)(h5:l.length≤5000):
  b2g (n,warm,(6:Int),l)=some (b8X n warm l,0):=by
 have:=a3F (f:=a3D) (fun i:Nat=>(n,warm,(6:Int),l,(((a1Q n warm l i).2:Nat):Int),(i:Int),((0:Int),([]:List Int),()),(a1Q n warm l i).1,())) 7 (b:=(((0:Int),([]:List Int),()),b8X n warm l,()))
  (fun i hi=>by
   have d0:decide ((i:Int)≤a3s (a2q 6 0) 8)=true:=decide_eq_true (by have:a3s (a2q 6 0) 8=6:=rfl;omega);have w1:wrap .i64 ((i:Int)+1)=((i+1:Nat):Int):=a0d (by omega)
   by_cases hs:(a1B (i:Int) n warm).length=0
   have hb:((((a1B (i:Int) n warm).length:Nat):Int)==0)=true:=by rw[hs];rfl
   have eb:a1Q n warm l (i+1)=a1Q n warm l i:=by simp only[a1Q,hs,if_true]
   simp only[a3D,d0,cT,a2E,oB,hb,w1,eb];have hb:((((a1B (i:Int) n warm).length:Nat):Int)==0)=false:=by simp only[beq_eq_false_iff_ne,ne_eq];omega
   obtain⟨zn,g1,ez,g3,g4,-,hok⟩:=d0t hs hl hw h5;have g5:=b9J (n:=n) (warm:=warm) (most:=6) (least:=(((a1Q n warm l i).2:Nat):Int)) (order:=(i:Int)) (L:=l) (a:=((0:Int),([]:List Int),())) (b:=(a1Q n warm l i).1) g3 zn.length 0 l [] (by omega) (by rw[a18];exact g4) hw h5 rfl;simp only[nZ,a18,a06]at g5;have hc:=c6O hok;simp only[b4X,ez]at hc;have hb':(((zn.length:Nat):Int)==0)=false:=by rw[←a1J zn,←g1];exact hb
   have el:(((a1s zn).length:Nat):Int)=((zn.length:Nat):Int):=by rw[a1J]
   have eP:b4X (i:Int) n warm l=((i:Int),a3q zn l,()):=by simp only[b4X,ez]
   have eC:c4g (i:Int) n warm l=4+a4S zn (a3q zn l) l:=by simp only[c4g,ez]
   by_cases hz:(a1Q n warm l i).2=0
   have hz':((((a1Q n warm l i).2:Nat):Int)==0)=true:=by rw[hz];rfl
   have eb:a1Q n warm l (i+1)=(((i:Int),a3q zn l,()),4+a4S zn (a3q zn l) l):=by simp only[a1Q,hs,if_false,hz,true_or,if_true,eP,eC]
   simp only[a3D,d0,cT,a2E,oB,g1,el,hb',cF,g5,hc,w1,eb,hz'];have hz':((((a1Q n warm l i).2:Nat):Int)==0)=false:=by simp only[beq_eq_false_iff_ne,ne_eq];omega
   by_cases hlt:4+a4S zn (a3q zn l) l<(a1Q n warm l i).2
   have eb:a1Q n warm l (i+1)=(((i:Int),a3q zn l,()),4+a4S zn (a3q zn l) l):=by simp only[a1Q,hs,if_false,hz,false_or,eP,eC,hlt,if_true]
   simp only[a3D,d0,cT,a2E,oB,g1,el,hb',cF,g5,hc,w1,eb,hz',d5c hlt];have eb:a1Q n warm l (i+1)=a1Q n warm l i:=by simp only[a1Q,hs,if_false,hz,false_or,eP,eC,hlt]
   simp only[a3D,d0,cT,a2E,oB,g1,el,hb',cF,g5,hc,w1,eb,hz',d2c hlt])
  (by
   have d0:decide (((7:Nat):Int)≤a3s (a2q 6 0) 8)=false:=decide_eq_false (by have:a3s (a2q 6 0) 8=6:=rfl;omega);simp only[a3D,d0,cF,b8X])
 simp only[a1Q,nZ]at this;unfold b2g;simp only[b2P hr hl hw h5,oB,bT,cF,this]
end Go.Ab
namespace Go.Ab
def a0O(k:Int)(s:Sub):Sub:=
 (k,(0:Int),(if k=2 then s.2.2.1 else 0),(if k=3∨k=4 then s.2.2.2.1 else 0),(if k=4 then s.2.2.2.2.1 else 0),(if k=3∨k=4 then s.2.2.2.2.2.1 else[]),
  ((if k=4 then s.2.2.2.2.2.2.1 else a01 3 (0:Int)),(if k=5 then s.2.2.2.2.2.2.2.1 else[]),([]:List Int),((0:Int),([]:List Int),()),([]:List Int),()))
def z0:Prt:=((0:Int),([]:List Int),())
def a2p(s:Sub)(w:Nat)(wm:List Int)(p:Prt)(r:List Int):Sub:=
 (s.1,(w:Int),s.2.2.1,s.2.2.2.1,s.2.2.2.2.1,s.2.2.2.2.2.1,s.2.2.2.2.2.2.1,s.2.2.2.2.2.2.2.1,wm,p,r,())
theorem d3E{s:Sub}(h:SmallS s)(k:Int):a7b (k,s)=some (a0O k s):=by
 have hc:short s.2.2.2.2.2.1:=by have:=h.coefs;unfold short;omega
 have hst:short s.2.2.2.2.2.2.2.1:=by have:=h.stages;unfold short;omega
 obtain⟨k',w,o,sh,lag,c,t,st,wm,p,r,u⟩:=s;simp only at hc hst;unfold a7b a0O
 by_cases k2:k=2
 subst k2;rfl
 by_cases k4:k=4
 subst k4;simp[b4W hc]
 by_cases k3:k=3
 subst k3;simp[b4W hc]
 by_cases k5:k=5
 subst k5;simp[c1Z hst];have e2:(k==2)=false:=by simp[k2]
 have e3:(k==3)=false:=by simp[k3]
 have e4:(k==4)=false:=by simp[k4]
 have e5:(k==5)=false:=by simp[k5]
 simp[e2,e3,e4,e5,k2,k3,k4,k5]
theorem c8K{s:Sub}(h:SmallS s)(k:Int):SmallS (a0O k s):=by
 have h1:=h.coefs;have h2:=h.taps;have h3:=h.stages;refine⟨?_,?_,?_,by simp[a0O],by simp[a0O],by simp[a0O]⟩<;>simp only[a0O]<;>split<;>first|omega|simp
theorem d2e{s:Sub}{k n:Int}:a4I (a0O k s).1 (a0O k s) n↔a4I k s n:=by
 unfold a4I a0O;constructor
 rintro(h|h|⟨h,h1⟩|⟨h,h1⟩|⟨h,h1⟩|⟨h,h1⟩)
 exact .inl h;exact .inr (.inl h);simp only at h;subst h;simpa using h1;simp only at h;subst h;simpa using h1;simp only at h;subst h;simpa using h1;simp only at h;subst h;simpa using h1
 rintro(h|h|⟨h,h1⟩|⟨h,h1⟩|⟨h,h1⟩|⟨h,h1⟩)
 exact .inl h;exact .inr (.inl h);subst h;simpa using h1;subst h;simpa using h1;subst h;simpa using h1;subst h;simpa using h1
open Classical in
def a3S (l:List Int):Nat:=if h:∃w,b0c l w then h.choose else 0
theorem d6U{l:List Int}{w:Nat}(h:b0c l w):a3S l=w:=by
 unfold a3S;rw[dif_pos ⟨w,h⟩];exact(Classical.choose_spec (⟨w,h⟩:∃w,b0c l w)).unique h
def a1g(l:List Int):List Int:=l.map fun x=>a0C .i64 x (a3S l:Int)
theorem b0y{l:List Int}(hs:short l)(hw:l.all a0b=true):a4A l=some ((a3S l:Nat):Int)∧a3S l≤30∧b0c l (a3S l):=by
 obtain⟨w,h1,h3,h4⟩:=c2K hs hw;rw[d6U h4];exact⟨h1,h3,h4⟩
theorem a7S{l:List Int}(hs:l.length≤4096)(hw:l.all a0b=true):b2o ((a3S l:Nat):Int) l=some (a1g l)∧(a1g l).all a0b=true∧(a1g l).length=l.length∧upO ((a3S l:Nat):Int) (a1g l)=some l:=by
 obtain⟨-,h3,h4⟩:=b0y (show short l by unfold short;omega) hw;have h:=d6T h3 hw h4;exact⟨h,d6R h3 h⟩
def a5a(k:Int)(s:Sub)(d:List Int):Option (List Int×List Int):=
 if k=2 then(bif (a2m s.2.2.1.toNat d).all a0b then some (d.take s.2.2.1.toNat,a2m s.2.2.1.toNat d)else none)
 else if k=3 then(b6L d s.2.2.2.2.2.1 s.2.2.2.1).map fun r=>(d.take s.2.2.2.2.2.1.length,r)
 else if k=4 then(b8g d s.2.2.2.2.1 s.2.2.2.2.2.2.1).bind fun x=>(b6L x s.2.2.2.2.2.1 s.2.2.2.1).map fun r=>(x.take s.2.2.2.2.2.1.length,r)
 else(b5d d s.2.2.2.2.2.2.2.1).map fun r=>([],r)
theorem c8L{k:Int}{s:Sub}{d wm r:List Int}(hk:k=2∨k=3∨k=4∨k=5)(hf:a4I k s (d.length:Int))(hw:d.all a0b=true)(h:a5a k s d=some (wm,r)):
  wm.length≤d.length∧r.length=d.length-wm.length∧r.all a0b=true∧wm.all a0b=true:=by
 have hf':=hf;simp only[a4I]at hf';rcases hk with rfl|rfl|rfl|rfl
 ·have:0≤s.2.2.1∧s.2.2.1≤(d.length:Int):=by simp at hf';omega
  simp only[a5a,if_true]at h;cases hq:(a2m s.2.2.1.toNat d).all a0b with
  |false=>simp[hq]at h
  |true=>
   simp only[hq,cT,sj,pJ]at h;obtain⟨rfl,rfl⟩:=h;refine⟨by rw[a05];omega,by rw[a6I,a05];omega,hq,b2Q hw _⟩
 have:(s.2.2.2.2.2.1.length:Int)≤(d.length:Int):=by simp at hf';omega
 simp only[a5a,show ¬ (3:Int)=2 by decide,if_false,if_true,a36,pJ]at h;obtain⟨r',h1,rfl,rfl⟩:=h;obtain⟨-,h2,h3⟩:=b8U h1;exact⟨by rw[a05];omega,by rw[h3,a05];omega,h2,b2Q hw _⟩
 have:(s.2.2.2.2.2.1.length:Int)≤(d.length:Int):=by simp at hf';omega
 simp only[a5a,show ¬ (4:Int)=2 by decide,show ¬ (4:Int)=3 by decide,if_false,if_true,a47,a36,pJ]at h;obtain⟨x,h0,r',h1,rfl,rfl⟩:=h;obtain⟨-,g2,g3⟩:=c0S h0;obtain⟨-,h2,h3⟩:=b8U h1;exact⟨by rw[a05];omega,by rw[h3,a05];omega,h2,b2Q g2 _⟩;simp only[a5a,show ¬ (5:Int)=2 by decide,show ¬ (5:Int)=3 by decide,show ¬ (5:Int)=4 by decide,if_false,a36,pJ]at h;obtain⟨r',h1,rfl,rfl⟩:=h;obtain⟨-,h2,h3⟩:=c4d h1;exact⟨by simp,by simpa using h3,h2,rfl⟩
theorem d5e{k:Int}{s:Sub}{d:List Int}(hk:k=2∨k=3∨k=4∨k=5)(h:SmallS s)(hf:a4I k s (d.length:Int))(hd:d.length≤4096)(hw:d.all a0b=true)(w:Nat):
  b3x (a2p (a0O k s) w [] z0 [],d)=some (match a5a k s d with|none=>(6,a2p (a0O k s) w [] z0 [])|some (wm,r)=>(0,a2p (a0O k s) w wm z0 r)):=by
 have ht:=h.taps;have hst:=h.stages;have hsd:short d:=by unfold short;omega
 obtain⟨k',w',o,sh,lag,c,t,st,wm',p,r',u⟩:=s;simp only[a4I]at hf ht hst;unfold b3x;rcases hk with rfl|rfl|rfl|rfl
 ·obtain⟨h0,h4,hn⟩:0≤o∧o≤4∧o≤(d.length:Int):=by simp at hf;omega
  obtain⟨O,rfl⟩:=a00 h0;have hst:short (d.take O):=by unfold short;rw[a05];omega
  have e2:decide ((O:Int)≤((d.length:Nat):Int))=true:=by simp;omega
  simp only[a2p,a0O,a5a,if_true,show((2:Int)==2)=true from rfl,cT,b9H (show O≤4 by omega) (show O≤d.length by omega) hsd hw,oB,tN];cases (a2m O d).all a0b with
  |false=>rfl
  |true=>simp[b1t,a2F,show O≤d.length by omega,a7O hst]
 ·obtain⟨hl,hn⟩:b0j c sh=true∧(c.length:Int)≤(d.length:Int):=by simpa using hf
  have hst:short (d.take c.length):=by unfold short;rw[a05];omega
  have e1:decide ((0:Int)≤((c.length:Nat):Int))=true:=by simp
  have e2:decide (((c.length:Nat):Int)≤((d.length:Nat):Int))=true:=by simp;omega
  simp only[a2p,a0O,a5a,show((3:Int)==2)=false from rfl,show((3:Int)==3)=true from rfl,show ¬ (3:Int)=2 by decide,show ¬ (3:Int)=4 by decide,show ¬ (3:Int)=5 by decide,true_or,if_true,if_false,cT,cF,b8f hl (show c.length≤d.length by omega) (show d.length<100000 by omega),oB];cases b6L d c sh with
  |none=>rfl
  |some r=>simp[a3l,b1t,a2F,show c.length≤d.length by omega,a7O hst]
 ·obtain⟨hl,hn,hlg⟩:b0j c sh=true∧(c.length:Int)≤(d.length:Int)∧b3C lag t=true:=by simpa using hf
  simp only[a2p,a0O,a5a,show((4:Int)==2)=false from rfl,show((4:Int)==3)=false from rfl,show((4:Int)==4)=true from rfl,show ¬ (4:Int)=2 by decide,show ¬ (4:Int)=3 by decide,show ¬ (4:Int)=5 by decide,or_true,if_true,if_false,cT,cF,c8E hlg ht (show d.length<100000 by omega),oB];cases hx:b8g d lag t with
  |none=>rfl
  |some x=>
   obtain⟨-,g2,g3⟩:=c0S hx;have hst:short (x.take c.length):=by unfold short;rw[a05];omega
   have e1:decide ((0:Int)≤((c.length:Nat):Int))=true:=by simp
   have e2:decide (((c.length:Nat):Int)≤((x.length:Nat):Int))=true:=by simp;omega
   simp only[a3l,show((0:Int)==0)=true from rfl,cT,b8f hl (show c.length≤x.length by omega) (show x.length<100000 by omega),oB];cases b6L x c sh with
   |none=>rfl
   |some r=>simp[a3l,b1t,a2F,show c.length≤x.length by omega,a7O hst]
 ·obtain⟨hn,hlr⟩:0<st.length∧b0x st=true:=by simpa using hf
  have hst:short (d.take 0):=by simp[short]
  simp only[a2p,a0O,a5a,show((5:Int)==2)=false from rfl,show((5:Int)==3)=false from rfl,show((5:Int)==4)=false from rfl,show((5:Int)==5)=true from rfl,show ¬ (5:Int)=2 by decide,show ¬ (5:Int)=3 by decide,show ¬ (5:Int)=4 by decide,or_self,if_true,if_false,cT,cF,c6R hlr (show d.length<100000 by omega),oB];cases b5d d st with
  |none=>rfl
  |some r=>
   have e1:decide ((0:Int)≤((d.length:Nat):Int))=true:=by simp
   have hc:=a7O hst;simp only[b30]at hc;simp[a3l,b1t,a2F,e1,hc]
end Go.Ab
namespace Go.Ab
open Classical in

def a1x (k:Int) (l:List Int) (s:Sub):Sub×Int:=
 if ¬ (1≤l.length∧l.length≤4096∧a4I k s (l.length:Int))then(a2s 0,1)
 else if l.all a0b=false then(a2s 0,6)
 else if k=0 then(bif l.all (fun x=>x==l.headD 0)then(a2p (a0O 0 s) 0 [l.headD 0] z0 [],0)else(a2s 0,7))
 else if k=1 then(a2p (a0O 1 s) (a3S l) (a1g l) z0 [],0)
 else match a5a k s (a1g l)with
  |none=>(a2s 0,6)
  |some (wm,r)=>(a2p (a0O k s) (a3S l) wm (b8X (l.length:Int) (wm.length:Int) r) r,0)
theorem d2f{l:List Int}(h:1≤l.length):a0p l 0=some (l.headD 0):=by
 cases l with
 |nil=>simp at h
 |cons a l=>rfl
theorem c8M{l:List Int}(h1:1≤l.length)(hs:short l)(a b:Sub):
  a0h a6a (l,l,(l.length:Int),(0:Int),a,b,())=some (bif l.all (fun x=>x==l.headD 0)then .inl (l,a,b,())else .inr ((7:Int),a2s 0,())):=by
 have:=a1N (f:=a6a) l (fun i=>(l,l,(l.length:Int),(i:Int),a,b,())) (fun x=>x==l.headD 0) (bt:=Sum.inl (l,a,b,())) (bf:=Sum.inr ((7:Int),a2s 0,()))
  (fun i h hp=>by
   have hne:(l[i] != l.headD 0)=false:=by simpa using hp
   simp only[a6a,dlt h,cT,a0c h,oB,d2f h1,hne,cF,a0d (a57 h hs)])
  (fun i h hp=>by
   have hne:(l[i] != l.headD 0)=true:=by simpa using hp
   simp only[a6a,dlt h,cT,a0c h,oB,d2f h1,hne];rfl)
  (by simp[a6a])
 simpa using this
theorem c2f{k n:Int}{s:Sub}(h:a4I k s n)(h0:k≠0)(h1:k≠1):k=2∨k=3∨k=4∨k=5:=by
 rcases h with h|h|⟨h,-⟩|⟨h,-⟩|⟨h,-⟩|⟨h,-⟩;exact absurd h h0;exact absurd h h1;exact .inl h;exact .inr (.inl h);exact .inr (.inr (.inl h));exact .inr (.inr (.inr h))
theorem d6V{s:Sub}(h:SmallS s)(k:Int){l:List Int}(hl:l.length≤100000):b4P (k,l,s)=some (a1x k l s):=by
 have hs:short l:=by unfold short;omega
 unfold b4P a1x
 by_cases h1:1≤l.length
 rotate_left;have e:decide (((l.length:Nat):Int)<1)=true:=decide_eq_true (by omega);rw[if_pos (fun hc=>h1 hc.1)];simp only[e,cT,oB];rfl;have e1:decide (((l.length:Nat):Int)<1)=false:=decide_eq_false (by omega)
 by_cases h2:l.length≤4096
 rotate_left;have e:decide (((l.length:Nat):Int) > 4096)=true:=decide_eq_true (by omega);rw[if_pos (fun hc=>h2 hc.2.1)];simp only[e1,e,cT,cF,oB];rfl;have e2:decide (((l.length:Nat):Int) > 4096)=false:=decide_eq_false (by omega)
 by_cases h3:a4I k s (l.length:Int)
 rotate_left;have e3:b5Y k s (l.length:Int)=false:=by simp[b5Y,h3]
 rw[if_pos (fun hc=>h3 hc.2.2)];simp only[e1,e2,b7Z h,e3,cF,a38,cT,oB];rfl;have e3:b5Y k s (l.length:Int)=true:=by simp[b5Y,h3]
 rw[if_neg (fun hc=>hc ⟨h1,h2,h3⟩)];simp only[e1,e2,b7Z h,e3,cF,bT,oB,a5t hs];cases hw:l.all a0b with
 |false=>rfl
 |true=>
  simp only[bT,cF,d3E h,oB];rw[if_neg (by decide)]
  by_cases h0:k=0
  ·subst h0;have hf:=c8M h1 hs (a2s 0) (a0O 0 s);have ez:a2s 0=((0:Int),(0:Int),(0:Int),(0:Int),(0:Int),([]:(List Int)),a01 3 (0:Int),([]:(List (Int×Int×Unit))),([]:(List Int)),((0:Int),([]:(List Int)),()),([]:(List Int)),()):=rfl;rw[←ez,if_pos rfl];simp only[show((0:Int)==0)=true from rfl,cT,hf,oB];cases l.all (fun x=>x==l.headD 0)with
   |false=>rfl
   |true=>simp only[cT,d2f h1,oB];rfl
  ·obtain⟨w1,w3,-⟩:=b0y hs hw;obtain⟨d1,d2,d3,-⟩:=a7S h2 hw;have he0:(k==0)=false:=by simp[h0]
   rw[if_neg h0];simp only[he0,cF,w1,oB,b8e w3 (show l.length<100000 by omega),d1,a3l,show((0:Int) != 0)=false from rfl]
   by_cases hk1:k=1
   subst hk1;rfl
   ·have he1:(k==1)=false:=by simp[hk1]
    have hk:=c2f h3 h0 hk1;rw[if_neg hk1];have hsp:=d5e hk h (d:=a1g l) (by rw[d3];exact h3) (by omega) d2 (a3S l);have e4:((a0O k s).1,((a3S l:Nat):Int),(a0O k s).2.2)=a2p (a0O k s) (a3S l) [] z0 []:=rfl;simp only[he1,cF,e4,hsp,oB];cases hr:a5a k s (a1g l)with
    |none=>rfl
    |some q=>
     obtain⟨wm,r⟩:=q;obtain⟨r1,r2,r3,-⟩:=c8L hk (by rw[d3];exact h3) d2 hr;have hrow:a6G (l.length:Int) (wm.length:Int)=true:=by simp only[a6G,bA,dT];omega
     have hb:=c6S hrow (l:=r) (by omega) r3 (by omega);simp only[show((0:Int) != 0)=false from rfl,cF,a2p,hb,oB]
end Go.Ab
namespace Go.Ab
theorem d3F{p:Prt}{n warm:Int}(h:a6z p n warm=true):p.2.1.length≤256:=by
 simp only[a6z,bA,a34,beq_eq_false_iff_ne,ne_eq,beq_iff_eq]at h;obtain⟨zn,h1,-,h3⟩:=b7r h.1;rw[←h.2.1,h1,a1J];exact h3
theorem b8Z{s:Sub}(h:SmallS s){w:Nat}{wm r:List Int}{p:Prt}(h1:wm.length≤5000)(h2:r.length≤5000)(h3:p.2.1.length≤300):SmallS (a2p s w wm p r):=
 ⟨h.coefs,h.taps,h.stages,h1,h2,h3⟩
theorem d2g{k:Int}{l:List Int}{s:Sub}(h0:(a1x k l s).2=0):
  1≤l.length∧l.length≤4096∧a4I k s (l.length:Int)∧l.all a0b=true∧
   ((k=0∧l.all (fun x=>x==l.headD 0)=true∧(a1x k l s).1=a2p (a0O 0 s) 0 [l.headD 0] z0 [])∨
    (k=1∧(a1x k l s).1=a2p (a0O 1 s) (a3S l) (a1g l) z0 [])∨
     ((k=2∨k=3∨k=4∨k=5)∧∃wm r,a5a k s (a1g l)=some (wm,r)∧(a1x k l s).1=a2p (a0O k s) (a3S l) wm (b8X (l.length:Int) (wm.length:Int) r) r)):=by
 unfold a1x at h0⊢
 split at h0
 cases h0;rename_i hc;have hc:1≤l.length∧l.length≤4096∧a4I k s (l.length:Int):=Classical.byContradiction hc;refine⟨hc.1,hc.2.1,hc.2.2,?_⟩;rw[if_neg (fun h=>h hc)]
 split at h0
 cases h0;rename_i hw;have hw':l.all a0b=true:=by simpa using hw
 refine⟨hw',?_⟩;rw[if_neg hw]
 split at h0
 ·rename_i k0;rw[if_pos k0];cases hq:l.all (fun x=>x==l.headD 0)with
  |false=>rw[hq]at h0;cases h0
  |true=>exact .inl ⟨k0,rfl,rfl⟩
 rename_i k0;rw[if_neg k0]
 split at h0
 rename_i k1;rw[if_pos k1];exact .inr (.inl ⟨k1,rfl⟩);rename_i k1;rw[if_neg k1];refine .inr (.inr ⟨c2f hc.2.2 k0 k1,?_⟩);cases hr:a5a k s (a1g l)with
 |none=>rw[hr]at h0;cases h0
 |some q=>
  obtain⟨wm,r⟩:=q;exact⟨wm,r,rfl,rfl⟩
theorem b6f{s:Sub}{k:Int}{w:Nat}{wm r:List Int}{p:Prt}:b8a (a2p (a0O k s) w wm p r):=by
 unfold b8a a2p a0O;refine⟨fun h=>if_neg h,fun h=>if_neg (not_or.2 h),fun h=>if_neg h,fun h=>if_neg h,fun h=>if_neg (not_or.2 h),fun h=>if_neg h⟩
theorem c2L{s:Sub}{k n:Int}{w:Nat}{wm r:List Int}{p:Prt}(h:a4I k s n):a4I (a2p (a0O k s) w wm p r).1 (a2p (a0O k s) w wm p r) n:=d2e.2 h
theorem d5f{l:List Int}(h:l.all (fun x=>x==l.headD 0)=true):a01 l.length (l.headD 0)=l:=by
 refine(List.eq_replicate_iff.2 ⟨rfl,fun x hx=>?_⟩).symm
 have:=lA.1 h x hx
 simpa using this
theorem c5n{k:Int}{l:List Int}{s:Sub}(hS:SmallS s)(h0:(a1x k l s).2=0):
  SmallS (a1x k l s).1∧(a1x k l s).1.1=k∧a1G (a1x k l s).1 (l.length:Int)∧a2Q (a1x k l s).1 (l.length:Int)=some l:=by
 obtain⟨h1,h2,hf,hw,hc⟩:=d2g h0;have hs:short l:=by unfold short;omega
 obtain⟨-,w3,-⟩:=b0y hs hw;obtain⟨d1,d2,d3,d4⟩:=a7S h2 hw;have key:∀m:Sub,a1G m (l.length:Int)→c5g m (l.length:Int)=some l→a2Q m (l.length:Int)=some l:=fun m g1 g2=>by unfold a2Q;rw[if_pos g1,g2]
 have hcs:=c8K hS k;rcases hc with⟨rfl,hall,e⟩|⟨rfl,e⟩|⟨hk,wm,r,hr,e⟩
 ·rw[e];have hst:a1G (a2p (a0O 0 s) 0 [l.headD 0] z0 []) (l.length:Int):=by
   have hh:a0b (l.headD 0)=true:=by
    cases l with
    |nil=>rfl
    |cons a l=>exact lA.1 hw _ a81
   exact⟨by omega,by omega,c2L hf,b6f,Int.le_refl _,(by decide:(0:Int)≤30),fun _=>rfl,rfl,by simp only[a2p,a08,hh,List.all_nil];rfl,rfl,fun _=>⟨rfl,rfl,rfl⟩,fun h=>absurd rfl h.1⟩
  refine⟨b8Z hcs (by simp) (by simp) (by simp[z0]),rfl,hst,key _ hst ?_⟩;show some (a01 (l.length:Int).toNat (l.headD 0))=some l;rw[tN,d5f hall]
 rw[e];have hst:a1G (a2p (a0O 1 s) (a3S l) (a1g l) z0 []) (l.length:Int):=
  ⟨by omega,by omega,c2L hf,b6f,a82 _,(by show((a3S l:Nat):Int)≤30;omega),fun h=>absurd h (by decide:¬ (1:Int)=0),by show(((a1g l).length:Nat):Int)=(l.length:Int);rw[d3],d2,rfl,fun _=>⟨rfl,rfl,rfl⟩,fun h=>absurd rfl h.2⟩
 refine⟨b8Z hcs (by omega) (by simp) (by simp[z0]),rfl,hst,key _ hst ?_⟩;show upO ((a3S l:Nat):Int) (a1g l)=some l;exact d4
 ·rw[e];obtain⟨r1,r2,r3,r4⟩:=c8L hk (by rw[d3];exact hf) d2 hr;have hrow:a6G (l.length:Int) (wm.length:Int)=true:=by simp only[a6G,bA,dT];omega
  have hp:=d5d hrow (l:=r) (by omega) r3 (by omega);generalize b8X (l.length:Int) (wm.length:Int) r=p at hp;have hks:=d3F hp

  have hwb:a2F (a2p (a0O k s) (a3S l) wm p r) (l.length:Int)=(wm.length:Int)∧backP (a2p (a0O k s) (a3S l) wm p r)=some (a1g l):=by
   simp only[a4I]at hf;rcases hk with rfl|rfl|rfl|rfl
   ·obtain⟨q0,q4,qn⟩:0≤s.2.2.1∧s.2.2.1≤4∧s.2.2.1≤(l.length:Int):=by simp at hf;omega
    simp only[a5a,if_true]at hr;cases hq:(a2m s.2.2.1.toNat (a1g l)).all a0b with
    |false=>simp[hq]at hr
    |true=>
     simp only[hq,cT,sj,pJ]at hr;obtain⟨rfl,rfl⟩:=hr;refine⟨?_,?_⟩;show s.2.2.1=_;rw[a05];omega;show c2G ((a1g l).take s.2.2.1.toNat) (a2m s.2.2.1.toNat (a1g l)) s.2.2.1=some (a1g l);have hb:=c8v d2 (o:=s.2.2.1.toNat) (by omega) ((a1g l).length-s.2.2.1.toNat) 0 (by omega);rw[a18,a87]at hb;unfold c2G;rw[b2Q d2,hq];exact hb
   have qn:(s.2.2.2.2.2.1.length:Int)≤(l.length:Int):=by simp at hf;omega
   simp only[a5a,show ¬ (3:Int)=2 by decide,if_false,if_true,a36,pJ]at hr;obtain⟨r',g1,rfl,rfl⟩:=hr;obtain⟨g2,-,-⟩:=b8U g1;refine⟨?_,?_⟩;show((s.2.2.2.2.2.1.length:Nat):Int)=_;rw[a05];omega;exact g2;have qn:(s.2.2.2.2.2.1.length:Int)≤(l.length:Int):=by simp at hf;omega
   simp only[a5a,show ¬ (4:Int)=2 by decide,show ¬ (4:Int)=3 by decide,if_false,if_true,a47,a36,pJ]at hr;obtain⟨x,g0,r',g1,rfl,rfl⟩:=hr;obtain⟨f1,-,f3⟩:=c0S g0;obtain⟨g2,-,-⟩:=b8U g1;refine⟨?_,?_⟩;show((s.2.2.2.2.2.1.length:Nat):Int)=_;rw[a05];omega;show(b5S (x.take s.2.2.2.2.2.1.length) r' s.2.2.2.2.2.1 s.2.2.2.1).bind (fun l=>b4U l s.2.2.2.2.1 s.2.2.2.2.2.2.1)=_;rw[g2];exact f1;simp only[a5a,show ¬ (5:Int)=2 by decide,show ¬ (5:Int)=3 by decide,show ¬ (5:Int)=4 by decide,if_false,a36,pJ]at hr;obtain⟨r',g1,rfl,rfl⟩:=hr;obtain⟨g2,-,-⟩:=c4d g1;exact⟨rfl,g2⟩
  have hne:¬ (k=0∨k=1):=by rcases hk with rfl|rfl|rfl|rfl<;>decide
  have hst:a1G (a2p (a0O k s) (a3S l) wm p r) (l.length:Int):=by
   unfold a1G;rw[hwb.1];exact⟨by omega,by omega,c2L hf,b6f,a82 _,(by show((a3S l:Nat):Int)≤30;omega),fun h=>absurd (.inl h) hne,rfl,r4,r3,fun h=>absurd h hne,fun _=>⟨(by show((r.length:Nat):Int)=_;omega),hp⟩⟩
  refine⟨b8Z hcs (by omega) (by omega) (by omega),rfl,hst,key _ hst ?_⟩;have e0:¬ (a2p (a0O k s) (a3S l) wm p r).1=0:=fun h=>hne (.inl h);unfold c5g;rw[if_neg e0,hwb.2];exact d4
theorem d2h:SmallS (a2s 0):=c9J 0
end Go.Ab
namespace Go.Ab
def cS(k o sh:Int)(c:List Int)(st:List Stg):Sub:=
 (k,(0:Int),o,sh,(0:Int),c,a01 3 (0:Int),st,([]:List Int),((0:Int),([]:List Int),()),([]:List Int),())
theorem b2R{k o sh:Int}{c:List Int}{st:List Stg}(h:c.length≤40)(h2:st.length≤6):SmallS (cS k o sh c st):=
 ⟨h,rfl,h2,by simp[cS],by simp[cS],by simp[cS]⟩
def b3K(d:List Int)(o w:Int):List Int×(Int×Int):=(a4H (d,o,w)).getD ([],0,1)
def b2S(d:List Int)(o w:Int):List Sub:=bif (b3K d o w).2.2==0 then[cS 3 0 (b3K d o w).2.1 (b3K d o w).1 []]else[]
def d2i(d:List Int):Int:=(a7h d).getD 0
def b6g(d:List Int):Sub×Bool:=(a4v d).getD (a2s 0,false)
def c2M(d:List Int):List Sub:=bif (b6g d).2 then[(b6g d).1]else[]
def b2T(i:Nat):List Sub:=(List.range i).map fun(j:Nat)=>cS 2 (j:Int) 0 [] []
def a2W(d:List Int):List Sub:=[cS 0 0 0 [] [],cS 1 0 0 [] [],cS 2 (d2i d) 0 [] []]
def a4B(d:List Int)(k:Int):List Sub:=if 1≤k then b2S d 4 12++b2S d 8 12 else[]
def b3L(d:List Int)(k:Int):List Sub:=if 2≤k then[cS 5 0 0 [] [((16:Int),(4:Int),())],cS 5 0 0 [] [((32:Int),(3:Int),()),((16:Int),(5:Int),())]]++c2M d else[]
def c7i(d:List Int)(k:Int):List Sub:=if 3≤k then b2T 5++(b2S d 1 12++(b2S d 2 12++(b2S d 12 14++b2S d 16 14)))else[]
def a5b(d:List Int)(k:Int):List Sub:=a2W d++(a4B d k++(b3L d k++c7i d k))
def c4h(d:List Int):Prop:=a4v d=some (b6g d)∧((b6g d).2=true→SmallS (b6g d).1)
theorem c8N{d:List Int}(hw:d.all a0b=true)(hl:d.length≤4096){o w:Nat}(h1:1≤o)(h2:o≤32)(h3:2≤w∧w≤16):
  a4H (d,(o:Int),(w:Int))=some (b3K d o w)∧((b3K d o w).2.2=0→(b3K d o w).1.length=o):=by
 obtain⟨c,sh,e,g1,g2⟩:=d3B hw hl h1 h2 h3;unfold b3K;rw[g1];exact⟨rfl,g2⟩
theorem b2U(d:List Int)(o w:Int):(b2S d o w).length≤1:=by
 unfold b2S;cases (b3K d o w).2.2==0<;>simp
theorem b2V{d:List Int}(hw:d.all a0b=true)(hl:d.length≤4096){o w:Nat}(h1:1≤o)(h2:o≤32)(h3:2≤w∧w≤16){L:List Sub}(hL:L.length<1000):
  a0A ((o:Int),(w:Int),d,L)=some (d,L++b2S d o w):=by
 obtain⟨g1,-⟩:=c8N hw hl h1 h2 h3;have hlim:lim (L.length+1)=true:=a0I (by omega);unfold a0A b2S;simp only[g1,oB];cases (b3K d o w).2.2==0 with
 |true=>simp only[cT,hlim];rfl
 |false=>simp only[cF,a25]
theorem d2j{d:List Int}{L:List Sub}(hL:L.length<1000):a0h a2l ((0:Int),L,d,())=some (L++b2T 5,d,()):=by
 have:=a3F (f:=a2l) (fun i:Nat=>((i:Int),L++b2T i,d,())) 5 (b:=(L++b2T 5,d,()))
  (fun i hi=>by
   have d0:decide ((i:Int)<5)=true:=decide_eq_true (by omega);have hlim:lim ((L++b2T i).length+1)=true:=a0I (by simp[b2T];omega);have e:(L++b2T i)++[cS 2 (i:Int) 0 [] []]=L++b2T (i+1):=by simp[b2T,List.range_succ]
   rw[←e];simp only[a2l,d0,cT,hlim,a0d (show i<1000000 by omega)];rfl)
  (by
   have d0:decide (((5:Nat):Int)<5)=false:=by decide
   simp only[a2l,d0,cF])
 simp only[nZ]at this;rw[show b2T 0=[]from rfl,a25]at this;exact this
theorem d6W{d:List Int}(hw:d.all a0b=true)(hl:d.length≤4096)(hlag:c4h d)(k:Int):a7L (d,k)=some (a5b d k):=by
 obtain⟨o,ho,ho4⟩:=c4b (show d.length<100000 by omega) hw;have hb:d2i d=(o:Int):=by unfold d2i;rw[ho];rfl
 have hlc:(c2M d).length≤1:=by unfold c2M;cases (b6g d).2<;>simp
 have l4:=b2U d 4 12;have l8:=b2U d 8 12;have l1:=b2U d 1 12;have l2:=b2U d 2 12;have l12:=b2U d 12 14;have c4:=fun L (hL:L.length<1000)=>b2V (L:=L) hw hl (o:=4) (w:=12) (by omega) (by omega) (by omega) hL;have c8:=fun L (hL:L.length<1000)=>b2V (L:=L) hw hl (o:=8) (w:=12) (by omega) (by omega) (by omega) hL;have c1:=fun L (hL:L.length<1000)=>b2V (L:=L) hw hl (o:=1) (w:=12) (by omega) (by omega) (by omega) hL;have c2:=fun L (hL:L.length<1000)=>b2V (L:=L) hw hl (o:=2) (w:=12) (by omega) (by omega) (by omega) hL;have c12:=fun L (hL:L.length<1000)=>b2V (L:=L) hw hl (o:=12) (w:=14) (by omega) (by omega) (by omega) hL;have c16:=fun L (hL:L.length<1000)=>b2V (L:=L) hw hl (o:=16) (w:=14) (by omega) (by omega) (by omega) hL;simp only[a17]at c4 c8 c1 c2 c12 c16;have n0:(a2W d).length=3:=rfl;have n1:(a4B d k).length≤2:=by unfold a4B;split<;>simp<;>omega
 have n2:(b3L d k).length≤3:=by unfold b3L;split<;>simp<;>omega
 have n5:(b2T 5).length=5:=rfl;have s1:(bif decide (k≥1)then((a0A ((4:Int),(12:Int),d,a2W d)).bind fun y2=>(a0A ((8:Int),(12:Int),y2.1,y2.2)).bind fun y3=>some (k,y3.1,y3.2,()))else some (k,d,a2W d,()))=some (k,d,a2W d++a4B d k,()):=by
  unfold a4B
  by_cases h:1≤k
  have e:decide (k≥1)=true:=decide_eq_true h;simp only[e,cT,c4 (a2W d) (by omega),oB,c8 (a2W d++b2S d 4 12) (by simp;omega),if_pos h,aA];have e:decide (k≥1)=false:=decide_eq_false h;simp only[e,cF,if_neg h,a25]
 have hF:a7L (d,k)=(a7h d).bind fun y1=>
   (show Option (Int×((List Int)×((List Sub)×Unit)))from bif decide (k≥1)then((a0A ((4:Int),(12:Int),d,[cS 0 0 0 [] [],cS 1 0 0 [] [],cS 2 y1 0 [] []])).bind fun y2=>(a0A ((8:Int),(12:Int),y2.1,y2.2)).bind fun y3=>some (k,y3.1,y3.2,()))else some (k,d,[cS 0 0 0 [] [],cS 1 0 0 [] [],cS 2 y1 0 [] []],())).bind fun z4=>
   (show Option (Int×((List Sub)×((List Int)×Unit)))from bif decide (z4.1≥2)then(bif lim (z4.2.2.1.length+1)then(bif lim ((z4.2.2.1++[cS 5 0 0 [] [((16:Int),(4:Int),())]]).length+1)then((a4v z4.2.1).bind fun y5=>
    bif y5.2 then(bif lim ((z4.2.2.1++[cS 5 0 0 [] [((16:Int),(4:Int),())]]++[cS 5 0 0 [] [((32:Int),(3:Int),()),((16:Int),(5:Int),())]]).length+1)then some (z4.1,z4.2.2.1++[cS 5 0 0 [] [((16:Int),(4:Int),())]]++[cS 5 0 0 [] [((32:Int),(3:Int),()),((16:Int),(5:Int),())]]++[y5.1],z4.2.1,())else none)
    else some (z4.1,z4.2.2.1++[cS 5 0 0 [] [((16:Int),(4:Int),())]]++[cS 5 0 0 [] [((32:Int),(3:Int),()),((16:Int),(5:Int),())]],z4.2.1,()))else none)else none)else some (z4.1,z4.2.2.1,z4.2.1,())).bind fun z6=>
   (show Option ((List Sub)×Unit)from bif decide (z6.1≥3)then((a0h a2l ((0:Int),z6.2.1,z6.2.2.1,())).bind fun w7=>(a0A ((1:Int),(12:Int),w7.2.1,w7.1)).bind fun y8=>(a0A ((2:Int),(12:Int),y8.1,y8.2)).bind fun y9=>
    (a0A ((12:Int),(14:Int),y9.1,y9.2)).bind fun y10=>(a0A ((16:Int),(14:Int),y10.1,y10.2)).bind fun y11=>some (y11.2,()))else some (z6.2.1,())).bind fun z12=>some z12.1:=rfl
 have e0:[cS 0 0 0 [] [],cS 1 0 0 [] [],cS 2 (o:Int) 0 [] []]=a2W d:=by unfold a2W;rw[hb]
 have s2:(bif decide (k≥2)then(bif lim ((a2W d++a4B d k).length+1)then(bif lim ((a2W d++a4B d k++[cS 5 0 0 [] [((16:Int),(4:Int),())]]).length+1)then((a4v d).bind fun y5=>
    bif y5.2 then(bif lim ((a2W d++a4B d k++[cS 5 0 0 [] [((16:Int),(4:Int),())]]++[cS 5 0 0 [] [((32:Int),(3:Int),()),((16:Int),(5:Int),())]]).length+1)then some (k,a2W d++a4B d k++[cS 5 0 0 [] [((16:Int),(4:Int),())]]++[cS 5 0 0 [] [((32:Int),(3:Int),()),((16:Int),(5:Int),())]]++[y5.1],d,())else none)
    else some (k,a2W d++a4B d k++[cS 5 0 0 [] [((16:Int),(4:Int),())]]++[cS 5 0 0 [] [((32:Int),(3:Int),()),((16:Int),(5:Int),())]],d,()))else none)else none)else some (k,a2W d++a4B d k,d,()):Option (Int×((List Sub)×((List Int)×Unit))))=some (k,a2W d++(a4B d k++b3L d k),d,()):=by
  unfold b3L
  by_cases h:2≤k
  have e:decide (k≥2)=true:=decide_eq_true h;have q1:lim ((a2W d++a4B d k).length+1)=true:=a0I (by simp;omega);have q2:lim ((a2W d++a4B d k++[cS 5 0 0 [] [((16:Int),(4:Int),())]]).length+1)=true:=a0I (by simp;omega);have q3:lim ((a2W d++a4B d k++[cS 5 0 0 [] [((16:Int),(4:Int),())]]++[cS 5 0 0 [] [((32:Int),(3:Int),()),((16:Int),(5:Int),())]]).length+1)=true:=a0I (by simp;omega);simp only[e,q1,q2,q3,cT,hlag.1,oB,if_pos h,c2M];cases (b6g d).2<;>simp;have e:decide (k≥2)=false:=decide_eq_false h;simp only[e,cF,if_neg h,a25]
 have s3:(bif decide (k≥3)then((a0h a2l ((0:Int),a2W d++(a4B d k++b3L d k),d,())).bind fun w7=>(a0A ((1:Int),(12:Int),w7.2.1,w7.1)).bind fun y8=>(a0A ((2:Int),(12:Int),y8.1,y8.2)).bind fun y9=>
    (a0A ((12:Int),(14:Int),y9.1,y9.2)).bind fun y10=>(a0A ((16:Int),(14:Int),y10.1,y10.2)).bind fun y11=>some (y11.2,()))else some (a2W d++(a4B d k++b3L d k),()):Option ((List Sub)×Unit))=some (a5b d k,()):=by
  unfold a5b c7i
  by_cases h:3≤k
  have e:decide (k≥3)=true:=decide_eq_true h;simp only[e,cT,d2j (L:=a2W d++(a4B d k++b3L d k)) (by simp;omega),oB,if_pos h];rw[c1 _ (by simp;omega)];simp only[oB];rw[c2 _ (by simp;omega)];simp only[oB];rw[c12 _ (by simp;omega)];simp only[oB];rw[c16 _ (by simp;omega)];simp only[oB,aA];have e:decide (k≥3)=false:=decide_eq_false h;simp only[e,cF,if_neg h,a25]
 rw[hF,ho,oB,e0];simp only[];rw[s1];simp only[oB];rw[s2];simp only[oB];rw[s3];rfl
theorem c4i{d:List Int}(hw:d.all a0b=true)(hl:d.length≤4096)(hlag:c4h d)(k:Int):∀c∈a5b d k,SmallS c:=by
 have hlin:∀(o w:Nat),1≤o→o≤32→2≤w∧w≤16→∀c∈b2S d o w,SmallS c:=fun o w h1 h2 h3 c hc=>by
  obtain⟨-,g2⟩:=c8N hw hl h1 h2 h3;unfold b2S at hc;cases he:(b3K d o w).2.2==0 with
  |false=>rw[he]at hc;simp at hc
  |true=>
   rw[he]at hc;simp only[cT,a50]at hc;subst hc
   have:=g2 (by simpa using he)
   exact b2R (by omega) (by simp)
 intro c hc;simp only[a5b,mA]at hc;rcases hc with hc|hc|hc|hc;simp only[a2W,mC,a71,or_false]at hc;rcases hc with rfl|rfl|rfl<;>exact b2R (by simp) (by simp);unfold a4B at hc
 split at hc
 simp only[mA]at hc;rcases hc with hc|hc;exact hlin 4 12 (by omega) (by omega) (by omega) c hc;exact hlin 8 12 (by omega) (by omega) (by omega) c hc;simp at hc
 ·unfold b3L at hc
  split at hc
  ·simp only[mA,mC,a71,or_false]at hc;rcases hc with(rfl|rfl)|hc;exact b2R (by simp) (by simp);exact b2R (by simp) (by simp)
   ·unfold c2M at hc;cases hg:(b6g d).2 with
    |false=>rw[hg]at hc;simp at hc
    |true=>
     rw[hg]at hc;simp only[cT,a50]at hc;subst hc;exact hlag.2 hg
  simp at hc
 unfold c7i at hc
 split at hc
 simp only[mA,b2T,List.mem_map]at hc;rcases hc with⟨j,-,rfl⟩|hc|hc|hc|hc;exact b2R (by simp) (by simp);exact hlin 1 12 (by omega) (by omega) (by omega) c hc;exact hlin 2 12 (by omega) (by omega) (by omega) c hc;exact hlin 12 14 (by omega) (by omega) (by omega) c hc;exact hlin 16 14 (by omega) (by omega) (by omega) c hc;simp at hc
theorem d5g{d:List Int}(hl:d.length≤256):a4v d=some (a2s 0,false):=by
 have hF:b3z (d,(16:Int),(256:Int))=some (0,7):=by
  unfold b3z;have e1:decide (((d.length:Nat):Int) > 4096)=false:=decide_eq_false (by omega);have e2:decide (((d.length:Nat):Int)≤256)=true:=decide_eq_true (by omega);simp only[show decide ((16:Int)<2)=false from rfl,show decide ((16:Int) > 256)=false from rfl,show decide ((256:Int) > 1024)=false from rfl,cF,e1,oB,e2,cT]
 unfold a4v;simp only[hF,oB,show((7:Int) != 0)=true from rfl,cT];rfl
theorem d7V{d:List Int}(hl:d.length≤256):c4h d:=by
 have h:=d5g hl
 have:b6g d=(a2s 0,false):=by unfold b6g;rw[h];rfl
 exact⟨by rw[this];exact h,fun hc=>by rw[this]at hc;cases hc⟩
def b8j(l:List Int)(a:Int×(Bool×Sub))(c:Sub):Int×(Bool×Sub):=
 bif (a1x c.1 l c).2 != 0 then a else bif !a.2.1 || decide (a4Z (a1x c.1 l c).1 (l.length:Int)<a.1)then(a4Z (a1x c.1 l c).1 (l.length:Int),true,(a1x c.1 l c).1)else a
def b9a(l:List Int)(cs:List Sub):Int×(Bool×Sub):=cs.foldl (b8j l) (0,false,a2s 0)
theorem b9b{α A β:Type}(g:A→α→A)(fin:A→β):∀(l:List α)(a:A),b0i fin (a3G (fun a x=>.inl (g a x)) l a)=fin (l.foldl g a)
 | [],_=>rfl
 |x::l,a=>b9b g fin l (g a x)
theorem c9R{k:Int}{l:List Int}{s:Sub}(h:SmallS s):SmallS (a1x k l s).1:=by
 by_cases h0:(a1x k l s).2=0
 exact(c5n h h0).1
 ·have:(a1x k l s).1=a2s 0:=by
   unfold a1x at h0⊢;split;rfl;rename_i hc;rw[if_neg hc]at h0;split;rfl;rename_i hw;rw[if_neg hw]at h0;split
   ·rename_i k0;rw[if_pos k0]at h0;cases hq:l.all (fun x=>x==l.headD 0)with
    |true=>rw[hq]at h0;exact absurd rfl h0
    |false=>rfl
   rename_i k0;rw[if_neg k0]at h0;split;rename_i k1;rw[if_pos k1]at h0;exact absurd rfl h0;rename_i k1;rw[if_neg k1]at h0;cases hr:a5a k s (a1g l)with
   |none=>rfl
   |some q=>rw[hr]at h0;exact absurd rfl h0
  rw[this];exact d2h
theorem d3G{l:List Int}{cs:List Sub}(hs:∀c∈cs,SmallS c)(hl:l.length≤4096)(hc:cs.length<1000):
  a0h a8m (l,(0:Int),false,cs,((cs.length:Nat):Int),(0:Int),a2s 0,a2s 0,())=some (a2s 0,(b9a l cs).2.2,()):=by
 have:=a2x (f:=a8m) cs (fun i a=>(l,a.1,a.2.1,cs,((cs.length:Nat):Int),(i:Int),a2s 0,a.2.2,())) (fun a x=>.inl (b8j l a x)) (fun _ _=>True) (fun a=>(a2s 0,a.2.2,()))
  (fun i hi a _=>by
   refine⟨fun a' ha'=>?_,fun b hb=>by cases hb⟩;simp only[Sum.inl.injEq]at ha';subst ha';refine⟨?_,trivial⟩;have hS:=hs _ (a09 hi);have c1:=d0q (c9R (k:=cs[i].1) (l:=l) hS) (l.length:Int);unfold b8j;simp only[a8m,dlt hi,cT,a0c hi,oB,d6V hS cs[i].1 (show l.length≤100000 by omega),c1,a0d (show i<1000000 by omega)];cases (a1x cs[i].1 l cs[i]).2 != 0 with
   |true=>rfl
   |false=>
    have hwr:=a0d (show i<1000000 by omega);cases ha:a.2.1 with
    |false=>simp only[cF,a38,Bool.true_or,cT,oB,hwr]
    |true=>
     simp only[cF,bT,Bool.false_or,oB];cases decide (a4Z (a1x cs[i].1 l cs[i]).1 (l.length:Int)<a.1)<;>simp only[cF,cT,hwr,ha])
  (fun a _=>by simp only[a8m,dge,cF]) (a:=((0:Int),false,a2s 0)) trivial
 simp only[nZ]at this;rw[this,b9b];rfl
theorem d6X{l:List Int}(h1:1≤l.length)(h2:l.length≤4096)(hw:l.all a0b=true)(hlag:c4h (a1g l)){k:Int}(h0:0≤k)(h3:k≤3):
  a6x (l,k)=some ((b9a l (a5b (a1g l) k)).2.2,0):=by
 have hs:short l:=by unfold short;omega
 obtain⟨w1,w3,-⟩:=b0y hs hw;obtain⟨d1,d2,d3,-⟩:=a7S h2 hw;have e1:decide (((l.length:Nat):Int)<1)=false:=decide_eq_false (by omega);have e2:decide (((l.length:Nat):Int) > 4096)=false:=decide_eq_false (by omega);have e3:decide (k<0)=false:=decide_eq_false (by omega);have e4:decide (k > 3)=false:=decide_eq_false (by omega);have hlen:(a5b (a1g l) k).length<1000:=by
  have g:=fun o w=>b2U (a1g l) o w;have q1:=g 4 12;have q2:=g 8 12;have q3:=g 1 12;have q4:=g 2 12;have q5:=g 12 14;have q6:=g 16 14;have hlc:(c2M (a1g l)).length≤1:=by unfold c2M;cases (b6g (a1g l)).2<;>simp
  simp only[a5b,a2W,a4B,b3L,c7i,lN]
  split<;>split<;>split<;>simp[b2T]<;>omega
 have hb:=d3G (l:=l) (c4i d2 (by omega) hlag k) h2 hlen;have hz:a2s 0=((0:Int),(0:Int),(0:Int),(0:Int),(0:Int),([]:(List Int)),a01 3 (0:Int),([]:(List (Int×Int×Unit))),([]:(List Int)),((0:Int),([]:(List Int)),()),([]:(List Int)),()):=rfl;unfold a6x;simp only[←hz,e1,e2,e3,e4,cF,oB,a5t hs,hw,bT,w1,b8e w3 (show l.length<100000 by omega),d1,a3l,show((0:Int) != 0)=false from rfl,d6W d2 (show(a1g l).length≤4096 by omega) hlag,hb]
end Go.Ab
namespace Go.Ab
theorem a4J(v:Int)(n:Nat)(L:List Int):(a0w v n L).length=L.length+(a0w v n []).length:=by
 unfold a0w;cases (a0C .u64 v (n:Int) != 0)<;>simp
theorem b1u(n:Nat):∀(l L:List Int),(a1P n l L).length=L.length+(a1P n l []).length
 | [],L=>by simp[a1P]
 |x::l,L=>by
  show(a1P n l (a0w (a0H x n) n L)).length=L.length+(a1P n l (a0w (a0H x n) n [])).length;rw[b1u n l,b1u n l (a0w (a0H x n) n []),a4J];omega
theorem b3M:∀(st:List Stg)(L:List Int),(a3N st L).length=L.length+(a3N st []).length
 | [],L=>by simp[a3N]
 |s::st,L=>by
  show(a3N st (a7r s L)).length=L.length+(a3N st (a7r s [])).length;rw[b3M st,b3M st (a7r s [])];unfold a7r;rw[a4J,a4J _ 5 L,a4J _ 4 (a0w _ 5 [])];omega
theorem b9c(s:Sub)(L:List Int):(a7s s L).length=L.length+(a7s s []).length:=by
 unfold a7s;rw[b1u,a4J,a4J _ 4,a4J _ 5 L]
 conv=>rhs;rw[b1u,a4J,a4J _ 4]
 omega
theorem c6j(s:Sub)(L:List Int):(a3g s L).length=L.length+(a3g s []).length:=by
 unfold a3g;split;rw[a4J];split;rw[b9c];split;rw[b9c,b1u,a4J]
 conv=>rhs;rw[b9c,b1u]
 omega;split;rw[b3M,a4J]
 conv=>rhs;rw[b3M]
 omega
 simp
theorem d5h{s:Sub}(hk:0≤s.1∧s.1≤5)(hw:0≤s.2.1∧s.2.1≤30)(ha:s.2.2.2.2.2.2.2.2.1.all a0b=true)(L:List Int):(b3F s L).length=L.length+13:=by
 obtain⟨K,hK⟩:=a00 hk.1;obtain⟨w,hw'⟩:=a00 hw.1
 have:=a2B ha
 unfold b3F;rw[hK,hw',a2V (q:=K) (by omega),a2V (q:=w) (by omega),a7R (n:=5) (by omega) (by omega),a7R (n:=5) (by omega) (by omega),a7R (n:=3) (by omega) (by omega)]
def d2k(s:Sub)(zn:List Nat):Nat:=
 13+(a3g s []).length+a0l s.2.2.2.2.2.2.2.2.1*s.2.2.2.2.2.2.2.2.1.length+if s.1=0∨s.1=1 then 0 else 4+a4S zn s.2.2.2.2.2.2.2.2.2.1.2.1 s.2.2.2.2.2.2.2.2.2.2.1
theorem b9d{k n:Int}{s:Sub}(h:a4I k s n):0≤k∧k≤5:=by
 rcases h with h|h|⟨h,-⟩|⟨h,-⟩|⟨h,-⟩|⟨h,-⟩<;>omega
theorem b7t{s:Sub}{n:Int}(h:(a2Q s n).isSome=true):a1G s n:=by
 unfold a2Q at h
 split at h
 assumption
 cases h
theorem d6Y{s:Sub}{n:Int}(h:(a2Q s n).isSome=true){zn:List Nat}(hz:s.1≠0∧s.1≠1→PartsOk s.2.2.2.2.2.2.2.2.2.1 n ((s.2.2.2.2.2.2.2.2.1.length:Nat):Int) s.2.2.2.2.2.2.2.2.2.2.1 zn)(L:List Int):
  (a6c s zn L).length=L.length+d2k s zn:=by
 obtain⟨h1,h2,hf,-,h5,h6,-,-,hw,-⟩:=b7t h;have hwd:=a2B hw;have hh:=d5h (b9d hf) ⟨h5,h6⟩ hw L;unfold a6c d2k
 by_cases hk:s.1=0∨s.1=1
 rw[if_pos hk,if_pos hk,b6I (by omega),c6j,hh];omega;rw[if_neg hk,if_neg hk,c6P (hz (not_or.1 hk)),b6I (by omega),c6j,hh];omega
theorem d5i{s:Sub}(h:SmallS s){n:Int}(hs:(a2Q s n).isSome=true):∃zn,a4Z s n=((d2k s zn:Nat):Int)∧(s.1≠0∧s.1≠1→PartsOk s.2.2.2.2.2.2.2.2.2.1 n ((s.2.2.2.2.2.2.2.2.1.length:Nat):Int) s.2.2.2.2.2.2.2.2.2.2.1 zn):=by
 obtain⟨e,L',-,-,-,h4,-⟩:=b8P h (n:=n) (L:=[]) (by simp);obtain⟨-,zn,-,hz⟩:=h4 hs;refine⟨zn,?_,hz⟩;unfold a4Z;rw[if_pos hs,←c5l hz,d6Y hs hz]
 simp
end Go.Ab
namespace Go.Ab
structure Shifted (l m:List Int) (n:Nat):Prop where
 len:m.length=l.length
 wl:l.all a0b=true
 wm:m.all a0b=true
 down:a1g m=a1g l
 waste:a3S m=a3S l+n
 fl:l.all (fun x=>x==l.headD 0)=false
 fm:m.all (fun x=>x==m.headD 0)=false
structure BestIs (l:List Int) (cs:List Sub) (a:Int×(Bool×Sub)):Prop where
 one:a.2.1=true→∃c∈cs,(a1x c.1 l c).2=0∧a.2.2=(a1x c.1 l c).1∧a.1=a4Z a.2.2 (l.length:Int)
 least:∀c∈cs,(a1x c.1 l c).2=0→a.2.1=true∧a.1≤a4Z (a1x c.1 l c).1 (l.length:Int)
theorem c0V{l:List Int}:∀(cs ds:List Sub)(a:Int×(Bool×Sub)),BestIs l ds a→BestIs l (ds++cs) (cs.foldl (b8j l) a)
 | [],ds,a,h=>by rw[a25];exact h
 |c::cs,ds,a,h=>by
  rw[a91,show ds++c::cs=(ds++[c])++cs by simp];refine c0V cs (ds++[c]) _ ?_
  unfold b8j
  by_cases h0:(a1x c.1 l c).2=0
  ·have n1:((a1x c.1 l c).2 != 0)=false:=by rw[h0];rfl
   rw[n1,cF];cases hq:(!a.2.1 || decide (a4Z (a1x c.1 l c).1 (l.length:Int)<a.1))with
   |true=>
    refine⟨fun _=>⟨c,by simp,h0,rfl,rfl⟩,fun d hd hd0=>⟨rfl,?_⟩⟩;rcases mA.1 hd with hd|hd;obtain⟨g1,g2⟩:=h.least d hd hd0;rw[g1]at hq;simp only[bT,Bool.false_or,dT]at hq;exact Int.le_trans (Int.le_of_lt hq) g2;simp only[a50]at hd;subst hd;exact Int.le_refl _
   |false=>
    simp only[a97,Bool.not_eq_false',decide_eq_false_iff_not]at hq;refine⟨fun ht=>?_,fun d hd hd0=>?_⟩;obtain⟨d,hd,g⟩:=h.one ht;exact⟨d,a98 _ hd,g⟩;rcases mA.1 hd with hd|hd;exact h.least d hd hd0;simp only[a50]at hd;subst hd;exact⟨hq.1,Int.not_lt.1 hq.2⟩
  have n1:((a1x c.1 l c).2 != 0)=true:=by simpa using h0
  rw[n1,cT];refine⟨fun ht=>?_,fun d hd hd0=>?_⟩;obtain⟨d,hd,g⟩:=h.one ht;exact⟨d,a98 _ hd,g⟩;rcases mA.1 hd with hd|hd;exact h.least d hd hd0;simp only[a50]at hd;subst hd;exact absurd hd0 h0
theorem c5o(l:List Int)(cs:List Sub):BestIs l cs (b9a l cs):=
 c0V cs [] _ ⟨fun h=>(by cases h),fun _ h=>(by cases h)⟩
theorem b9e{l:List Int}(h1:1≤l.length)(h2:l.length≤4096)(hw:l.all a0b=true):a1x 1 l (cS 1 0 0 [] [])=(a2p (a0O 1 (cS 1 0 0 [] [])) (a3S l) (a1g l) z0 [],0):=by
 unfold a1x;rw[if_neg (fun q=>q ⟨h1,h2,.inr (.inl rfl)⟩),if_neg (by rw[hw];decide),if_neg (by decide),if_pos rfl]
theorem d2l{l:List Int}(h1:1≤l.length)(h2:l.length≤4096)(hw:l.all a0b=true)(d:List Int)(k:Int):(b9a l (a5b d k)).2.1=true:=
 ((c5o l (a5b d k)).least (cS 1 0 0 [] []) (by simp[a5b,a2W]) (by rw[show(cS 1 0 0 [] []).1=1 from rfl,b9e h1 h2 hw])).1
end Go.Ab
namespace Go.Ab
open IntKind(wrap)
def inW(x:Int)(v:Nat):Bool:=decide (x=0) || a1X x (v:Int)
theorem d5j{x:Int}{v:Nat}:a1X x (v:Int)=true↔1≤v∧v≤31∧-((2^(v-1):Nat):Int)≤x∧x≤((2^(v-1):Nat):Int)-1:=by
 by_cases hv:1≤v∧v≤31
 have e:((v:Int)-1)=((v-1:Nat):Int):=by omega
 have hp:2^(v-1)≤2^30:=a20 (by omega) (by omega);have hp1:=a21 (v-1);have e1:a0z .i64 1 ((v-1:Nat):Int)=((2^(v-1):Nat):Int):=c8w (by omega);have e2:a0z .i64 (-1) ((v-1:Nat):Int)=-((2^(v-1):Nat):Int):=by
  have em:min (a35 ((v-1:Nat):Int)) (IntKind.bits .i64)=v-1:=by simp only[tN,IntKind.bits];omega
  unfold a0z;rw[em,show(-1:Int)*2^(v-1)=-((2^(v-1):Nat):Int)by simp];exact a0f (by omega)
 have e3:wrap .i64 (((2^(v-1):Nat):Int)-1)=((2^(v-1):Nat):Int)-1:=a0f (by omega);simp only[a1X,e,e1,e2,e3,bA,dT];constructor;intro h;exact⟨hv.1,hv.2,h.2.2.1,h.2.2.2⟩;intro h;exact⟨by omega,by omega,h.2.2.1,h.2.2.2⟩;constructor;intro h;simp only[a1X,bA,dT]at h;omega;intro h;omega
theorem c1m{x:Int}{v:Nat}:inW x v=true↔x=0∨(1≤v∧v≤31∧-((2^(v-1):Nat):Int)≤x∧x≤((2^(v-1):Nat):Int)-1):=by
 simp only[inW,a24,dT,d5j]
theorem d5k{x:Int}{v w:Nat}(h:v≤w)(hw:w≤31)(hx:inW x v=true):inW x w=true:=by
 rw[c1m]at hx⊢;rcases hx with hx|⟨h1,h2,h3,h4⟩;exact .inl hx
 have:2^(v-1)≤2^(w-1):=a20 (by omega) (by omega)
 exact .inr ⟨by omega,hw,by omega,by omega⟩
theorem d5l{x:Int}(h:a0b x=true):inW x 31=true:=by
 have:=a2j.1 h
 rw[c1m];exact .inr ⟨by omega,by omega,by rw[show((2^(31-1):Nat):Int)=1073741824 from rfl];omega,by rw[show((2^(31-1):Nat):Int)=1073741824 from rfl];omega⟩
theorem c6k{x:Int}(hx:a0b x=true):∀(k w:Nat),w+k=32→w≤31→w≤a2o x k w∧a2o x k w≤31∧inW x (a2o x k w)=true∧∀v,w≤v→inW x v=true→v≤31→a2o x k w≤v
 |0,w,h,h31=>absurd h31 (by omega)
 |k+1,w,h,h31=>by
  by_cases hin:inW x w=true
  ·have:a2o x (k+1) w=w:=by
    unfold a2o;cases hc:(x != 0)&&!a1X x (w:Int)with
    |false=>rfl
    |true=>
     simp only[bA,bne_iff_ne,ne_eq,a34]at hc;simp only[inW,a24,dT,hc.2,Bool.false_eq_true,or_false]at hin;exact absurd hin hc.1
   rw[this];exact⟨a42 _,h31,hin,fun v hv _ _=>hv⟩
  have hc:((x != 0)&&!a1X x (w:Int))=true:=by
   simp only[inW,a24,dT,not_or,Bool.not_eq_true]at hin;simp only[bA,bne_iff_ne,ne_eq,a34];exact hin
  have hne:w≠31:=fun e=>hin (by rw[e];exact d5l hx);have e:a2o x (k+1) w=a2o x k (w+1):=by
   show(bif (x != 0)&&!a1X x (w:Int)then a2o x k (w+1)else w)=_;rw[hc,cT]
  obtain⟨g1,g2,g3,g4⟩:=c6k hx k (w+1) (by omega) (by omega);rw[e];refine⟨by omega,g2,g3,fun v hv hvi h31=>g4 v ?_ hvi h31⟩;rcases Nat.lt_or_ge w v with q|q;exact q
  have:v=w:=by omega
  exact absurd (this▸hvi) hin
theorem b2p:∀(l:List Int)(w:Nat),l.all a0b=true→w≤31→
  w≤l.foldl (fun w x=>a2o x (32-w) w) w∧l.foldl (fun w x=>a2o x (32-w) w) w≤31∧(∀x∈l,inW x (l.foldl (fun w x=>a2o x (32-w) w) w)=true)∧∀v,w≤v→v≤31→(∀x∈l,inW x v=true)→l.foldl (fun w x=>a2o x (32-w) w) w≤v
 | [],w,_,h31=>⟨a42 _,h31,by simp,fun v hv _ _=>hv⟩
 |x::l,w,h,h31=>by
  rw[a08,bA]at h;obtain⟨g1,g2,g3,g4⟩:=c6k h.1 (32-w) w (by omega) h31;obtain⟨f1,f2,f3,f4⟩:=b2p l (a2o x (32-w) w) h.2 g2;simp only[a91];refine⟨by omega,f2,fun y hy=>?_,fun v hv hv31 hall=>?_⟩;rcases mC.1 hy with rfl|hy;exact d5k f1 f2 g3;exact f3 y hy;exact f4 v (g4 v hv (hall x a81) hv31) hv31 fun y hy=>hall y (a96 _ hy)
theorem c8O{l:List Int}(h:l.all a0b=true):∀x∈l,inW x (a0l l)=true:=(b2p l 0 h (by omega)).2.2.1
theorem c9S{l:List Int}(h:l.all a0b=true){v:Nat}(hv:v≤31)(hall:∀x∈l,inW x v=true):a0l l≤v:=(b2p l 0 h (by omega)).2.2.2 v (by omega) hv hall
theorem d5m{x:Int}{w v:Nat}(hw:w≤30)(hd:((2^w:Nat):Int) ∣ x)(h:inW x v=true):inW (a0C .i64 x (w:Int)) v=true:=by
 obtain⟨c,rfl⟩:=hd;rw[d5b (by omega)];rw[c1m]at h⊢;have hp:(1:Int)≤((2^w:Nat):Int):=by have:=a21 w;omega
 generalize ((2^w:Nat):Int)=p at h hp;rcases h with h|⟨h1,h2,h3,h4⟩;rcases Int.mul_eq_zero.1 h with h|h;omega;exact .inl h;refine .inr ⟨h1,h2,?_,?_⟩
 by_cases hc:0≤c
 have:(0:Int)≤((2^(v-1):Nat):Int):=a82 _
 omega;have hm:=a66 (show 0≤p-1 by omega) (show 0≤-c by omega);rw[Int.mul_neg,b21]at hm;omega
 by_cases hc:0≤c
 have hm:=a66 (show 0≤p-1 by omega) hc;rw[b21]at hm;omega
 have:(1:Int)≤((2^(v-1):Nat):Int):=by have:=a21 (v-1);omega
 omega
theorem d2m{l:List Int}(h2:l.length≤4096)(hw:l.all a0b=true):a0l (a1g l)≤a0l l:=by
 obtain⟨-,w3,w4⟩:=b0y (show short l by unfold short;omega) hw;obtain⟨-,d2,-,-⟩:=a7S h2 hw;have hdv:∀x∈l,((2^a3S l:Nat):Int) ∣ x:=by
  rcases w4 with⟨g,-⟩|⟨-,-,g,-⟩;exact fun x hx=>by rw[g x hx];exact a89 _
  exact g
 refine c9S d2 (a2B hw) fun y hy=>?_
 obtain⟨x,hx,rfl⟩:=List.mem_map.1 hy;exact d5m w3 (hdv x hx) (c8O hw x hx)
theorem d2n{l:List Int}(h1:1≤l.length)(h2:l.length≤4096)(hw:l.all a0b=true):a4Z (a1x 1 l (cS 1 0 0 [] [])).1 (l.length:Int)=((13+a0l (a1g l)*l.length:Nat):Int):=by
 have hS:SmallS (cS 1 0 0 [] []):=b2R (by simp) (by simp);have hm:=b9e h1 h2 hw;obtain⟨a1,-,-,a4⟩:=c5n hS (k:=1) (l:=l) (by rw[hm]);obtain⟨zn,hc,-⟩:=d5i a1 (by rw[a4];rfl);obtain⟨-,-,d3,-⟩:=a7S h2 hw;rw[hc,hm];have e:d2k (a2p (a0O 1 (cS 1 0 0 [] [])) (a3S l) (a1g l) z0 []) zn=13+0+a0l (a1g l)*(a1g l).length+0:=rfl;rw[e,d3];rfl
theorem d2o{l:List Int}(h1:1≤l.length)(h2:l.length≤4096)(hw:l.all a0b=true)(hlag:c4h (a1g l)){k:Int}(h0:0≤k)(h3:k≤3):
  ∃s,a6x (l,k)=some (s,0)∧SmallS s∧a2Q s (l.length:Int)=some l∧s=(b9a l (a5b (a1g l) k)).2.2∧a4Z s (l.length:Int)=(b9a l (a5b (a1g l) k)).1∧a4Z s (l.length:Int)≤((13+a0l l*l.length:Nat):Int)∧
   (∀c∈a5b (a1g l) k,(a1x c.1 l c).2=0→a4Z s (l.length:Int)≤a4Z (a1x c.1 l c).1 (l.length:Int)):=by
 obtain⟨-,d2,d3,-⟩:=a7S h2 hw;have hb:=d6X h1 h2 hw hlag h0 h3;have hfd:=d2l h1 h2 hw (a1g l) k;obtain⟨c,hc,g0,g1,g2⟩:=(c5o l (a5b (a1g l) k)).one hfd;have hSc:=c4i d2 (by omega) hlag k c hc;obtain⟨f1,-,-,f4⟩:=c5n hSc g0;rw[←g1]at f1 f4;have hleast:∀c∈a5b (a1g l) k,(a1x c.1 l c).2=0→a4Z (b9a l (a5b (a1g l) k)).2.2 (l.length:Int)≤a4Z (a1x c.1 l c).1 (l.length:Int):=fun c hc h0=>by
  rw[←g2];exact((c5o l (a5b (a1g l) k)).least c hc h0).2
 refine⟨_,hb,f1,f4,rfl,g2.symm,?_,hleast⟩;have hp:=hleast (cS 1 0 0 [] []) (by simp[a5b,a2W]) (by rw[show(cS 1 0 0 [] []).1=1 from rfl,b9e h1 h2 hw]);rw[show(cS 1 0 0 [] []).1=1 from rfl,d2n h1 h2 hw]at hp
 have:=a39 l.length (d2m h2 hw)
 omega
end Go.Ab
namespace Go.Ab
open IntKind(wrap)
@[reducible] def Rd:Type:=(List Int)×(Int×(Int×Unit))
def a1K(L:List Int):Prop:=∀b∈L,b=0∨b=1
def b5f(bs:List Int)(i:Nat):Bool:=(bs.getD (i / 8) 0).toNat.testBit (7-i%8)
theorem or8{x y:Nat}(hx:x<256)(hy:y<256):bits .u8 .or (x:Int) (y:Int)=((x ||| y:Nat):Int):=by
 show wrap .u8 (((a04 8 (x:Int)) ||| (a04 8 (y:Int))).toNat:Int)=_;rw[a27,a27,a63,a30,a30,a28 hx,a28 hy,b2j]
 have:x ||| y<2^8:=b08 hx hy
 omega
theorem e2y{b:Int}(hb:b=0∨b=1){r:Nat}(hr:r<8):a0z .u8 b (7-(r:Int))=((b.toNat*2^(7-r):Nat):Int):=by
 have key:∀r:Fin 8,a0z .u8 0 (7-(r.1:Int))=((0*2^(7-r.1):Nat):Int)∧a0z .u8 1 (7-(r.1:Int))=((1*2^(7-r.1):Nat):Int):=by decide +kernel
 rcases hb with rfl|rfl;exact(key ⟨r,hr⟩).1;exact(key ⟨r,hr⟩).2
theorem d5n{x:Nat}(hx:x<256){r:Nat}(hr:r<8):bits .u8 .and (a0C .u8 (x:Int) (7-(r:Int))) 1=if x.testBit (7-r)then 1 else 0:=by
 have e:a0C .u8 (x:Int) (7-(r:Int))=((x / 2^(7-r):Nat):Int):=by
  show b28 (x:Int) (2^(min (7-(r:Int)).toNat 8))=_;rw[show min (7-(r:Int)).toNat 8=7-r from by omega];rw[a37 _ (Int.le_of_lt (Int.pow_pos (by decide)))]
  simp
 rw[e];have hy:x / 2^(7-r)<256:=a49 (a51 _ _) hx;show wrap .u8 (((a04 8 ((x / 2^(7-r):Nat):Int)) &&& (a04 8 1)).toNat:Int)=_;rw[a27,a59,a30,a28 hy,show(a04 8 1).toNat=1 from by decide,b03,b2j,Nat.testBit_eq_decide_div_mod_eq]
 by_cases h:x / 2^(7-r)%2=1
 simp[h]
 have:x / 2^(7-r)%2=0:=by omega
 simp[this]
theorem d2p(bs:List Int)(j:Nat):(bs++[0]).getD j 0=bs.getD j 0:=by
 simp only[lD]
 by_cases h:j<bs.length
 rw[a62 h]
 ·rw[a23 (by omega),a72 (by omega:bs.length≤j)];cases h2:j-bs.length with
  |zero=>rfl
  |succ k=>rfl
theorem d3H(L:List Int)(b:Int)(i:Nat):(L++[b]).getD i 0=if i=L.length then b else L.getD i 0:=by
 simp only[lD]
 by_cases h:i<L.length
 rw[a62 h,if_neg (by omega)];rw[a23 (by omega)]
 by_cases e:i=L.length
 subst e;simp;rw[if_neg e,a72 (by simp;omega),a72 (by omega)]
theorem c8P(bs:List Int)(k:Nat)(y:Int)(hk:k<bs.length)(j:Nat):(bs.set k y).getD j 0=if j=k then y else bs.getD j 0:=by
 simp only[lD,List.getElem?_set]
 by_cases e:k=j
 subst e;simp[hk];rw[if_neg e,if_neg (Ne.symm e)]
theorem c6l:∀(n:Nat)(L:List Int),L.length=n→a1K L→(∀j,0≤(wL L).1.getD j 0∧(wL L).1.getD j 0<256)∧∀i,b5f (wL L).1 i=decide (L.getD i 0=1)
 |0,L,h,_=>by
  rw[a48.1 h];exact⟨fun j=>by simp[wL],fun i=>by simp[b5f,wL]⟩
 |n+1,L,h,hL=>by
  obtain⟨L',b,rfl⟩:∃L' b,L=L'++[b]:=by
   rcases a93 L with rfl|⟨L',b,e⟩;simp at h;exact⟨L',b,by rw[e,a94]⟩
  have hb:b=0∨b=1:=hL b (by simp);obtain⟨i1,i2⟩:=c6l n L' (by simpa using h) fun c hc=>hL c (by simp[hc]);obtain⟨h1,h2⟩:=a6H L';rw[c5i];generalize wL L'=wr at h1 h2 i1 i2⊢;obtain⟨bs,m,u⟩:=wr;have h1:m=(L'.length:Int):=h1;have h2:bs.length=(L'.length+7) / 8:=h2;subst h1;have e8:((L'.length:Int) / 8).toNat=L'.length / 8:=by omega
  have em:(L'.length:Int)%8=((L'.length%8:Nat):Int):=by omega
  obtain⟨bs1,hbs1,g1,g2⟩:∃bs1:List Int,(if(L'.length:Int)%8=0 then bs++[0]else bs)=bs1∧L'.length / 8<bs1.length∧∀j,bs1.getD j 0=bs.getD j 0:=by
   by_cases hz:(L'.length:Int)%8=0
   exact⟨bs++[0],by rw[if_pos hz],by simp;omega,d2p bs⟩;exact⟨bs,by rw[if_neg hz],by omega,fun _=>rfl⟩
  rw[em]at hbs1;have hr:L'.length%8<8:=a45 _ (by decide);obtain⟨x,hx⟩:∃x:Nat,bs.getD (L'.length / 8) 0=(x:Int):=a00 (i1 _).1;have hx256:x<256:=by
   have h6:bs.getD (L'.length / 8) 0<256:=(i1 (L'.length / 8)).2;omega
  have hy:b.toNat*2^(7-L'.length%8)<256:=by
   have hp:2^(7-L'.length%8)≤2^7:=a20 (by decide) (by omega);rcases hb with rfl|rfl<;>simp<;>omega
  have hor:x ||| b.toNat*2^(7-L'.length%8)<2^8:=b08 hx256 hy;have hbit:(c5h (bs,(L'.length:Int),u) b).1=bs1.set (L'.length / 8) ((x ||| b.toNat*2^(7-L'.length%8):Nat):Int):=by
   unfold c5h;simp only[hbs1,e8,em];rw[g2,hx,e2y hb hr,or8 hx256 hy]
  rw[hbit];refine⟨fun j=>?_,fun i=>?_⟩;rw[c8P _ _ _ g1];split;omega;rw[g2];exact i1 j;unfold b5f;rw[c8P _ _ _ g1,d3H];have hi:=i2 i;unfold b5f at hi
  by_cases hk:i / 8=L'.length / 8
  rw[if_pos hk,tN,Nat.testBit_or];rw[hk,hx,tN]at hi;rw[hi];have hbt:(b.toNat*2^(7-L'.length%8)).testBit (7-i%8)=(decide (b=1)&&decide (i=L'.length)):=by
   rcases hb with rfl|rfl
   simp
   have e:(1:Int).toNat*2^(7-L'.length%8)=2^(7-L'.length%8):=by simp
   rw[e,b00]
   by_cases hi':i=L'.length
   subst hi';simp
   have:¬ (7-L'.length%8=7-i%8):=by omega
   simp[hi',this]
  rw[hbt]
  by_cases hi':i=L'.length
  subst hi'
  have:L'.getD L'.length 0=0:=by simp[lD]
  simp
  simp[hi'];rw[if_neg hk,g2,hi,if_neg (fun e=>hk (by rw[e]))]
theorem d6Z{L:List Int}(h:a1K L):(∀j,0≤(wL L).1.getD j 0∧(wL L).1.getD j 0<256)∧∀i,b5f (wL L).1 i=decide (L.getD i 0=1):=c6l _ L rfl h
def rdr(P R:List Int):Rd:=((wL (P++R)).1,(P.length:Int),(0:Int),())
theorem c5p{L:List Int}(hL:a1K L)(hl:L.length<1000000000){i:Nat}(hi:i<L.length)(t:Int×(Int×Unit)):
  a2a (((wL L).1,t),(i:Int))=some (L.getD i 0,(wL L).1,t):=by
 obtain⟨h1,h2⟩:=d6Z hL;obtain⟨-,h3⟩:=a6H L;have ht:a43 (i:Int) 8=((i%8:Nat):Int):=by rw[a44 (by omega)];omega
 have hd:a68 (i:Int) 8=((i / 8:Nat):Int):=by rw[a60 (by omega)];omega
 have e1:wrap .i64 ((i / 8:Nat):Int)=((i / 8:Nat):Int):=a0f (by omega);have e2:wrap .i64 (7-((i%8:Nat):Int))=7-((i%8:Nat):Int):=a0f (by omega);have g:decide (7-((i%8:Nat):Int)<0)=false:=by simp;omega
 have hb:i / 8<(wL L).1.length:=by omega
 have hget:(wL L).1[i / 8]=(wL L).1.getD (i / 8) 0:=by simp[lD,hb]
 unfold a2a;simp only[ht,hd,e1,e2,g,a0c hb,oB,cF];obtain⟨x,hx⟩:∃x:Nat,(wL L).1.getD (i / 8) 0=(x:Int):=a00 (h1 _).1;have hx256:x<256:=by have:=(h1 (i / 8)).2;omega
 rw[hget,hx,d5n hx256 (a45 _ (by decide))]
 have:=h2 i
 unfold b5f at this;rw[hx,tN]at this;rw[this];have hv:L.getD i 0=0∨L.getD i 0=1:=by
  have:L.getD i 0=L[i]:=by simp[lD,hi]
  rw[this];exact hL _ (a09 hi)
 rcases hv with h|h<;>rw[h]<;>rfl
theorem d3I{v:Nat}(hv:v<18446744073709551616){i:Nat}(hi:i≤64):a7P (v:Int) i=((v / 2^i%2:Nat):Int):=by
 unfold a7P;rw[a7y hi];have hy:v / 2^i<18446744073709551616:=a49 (a51 _ _) hv;show wrap .u8 (wrap .u64 (((a04 64 ((v / 2^i:Nat):Int)) &&& (a04 64 1)).toNat:Int))=_;rw[a27,a59,a30,a28 hy,show(a04 64 1).toNat=1 from by decide,b03]
 have:v / 2^i%2<2:=a45 _ (by decide)
 rw[a0G (by omega),b2j];omega
theorem a1K.app{A B:List Int}(h:a1K A)(h':a1K B):a1K (A++B):=fun b hb=>(mA.1 hb).elim (h b) (h' b)
theorem orU{a b:Nat}(ha:a<18446744073709551616)(hb:b<2)(h2:a%2=0):bits .u64 .or (a:Int) (b:Int)=((a+b:Nat):Int):=by
 show wrap .u64 (((a04 64 (a:Int) ||| a04 64 (b:Int)).toNat:Nat):Int)=_;have h1:(a04 64 (a:Int)).toNat=a:=by rw[a31];omega
 have h2':(a04 64 (b:Int)).toNat=b:=by rw[a31];omega
 rw[a63,h1,h2'];have e:a ||| b=a+b:=by
  have:=a56 (i:=1) (b:=b) (by omega) (a / 2)
  rw[show 2^1*(a / 2)=a from by omega]at this;exact this.symm
 rw[e];exact a0G (by omega)
theorem d7a(P:List Int)(b:Int)(R:List Int):(P++b::R).getD P.length 0=b:=by
 simp[lD]
theorem c8Q{v:Nat}(hv:v<9223372036854775808){n:Nat}(hn:n≤62):∀(m:Nat)(P R:List Int),m≤n→a1K (P++(pb (v:Int) m++R))→(P++(pb (v:Int) m++R)).length<1000000000→
  a0h a4W (((v / 2^m:Nat):Int),(n:Int),((n-m:Nat):Int),rdr P (pb (v:Int) m++R),())=some ((v:Int),rdr (P++pb (v:Int) m) R,())
 |0,P,R,_,_,_=>by
  have hd:decide (((n:Nat):Int)<(n:Int))=false:=by simp
  rw[a0o (b:=((v:Int),rdr P R,())) (by simp[a4W,pb,rdr])];simp[pb]
 |m+1,P,R,hm,hok,hlen=>by
  have hd:decide (((n-(m+1):Nat):Int)<(n:Int))=true:=by simp;omega
  have hlk:a2a (rdr P (pb (v:Int) (m+1)++R),(P.length:Int))=some (a7P v m,rdr P (pb (v:Int) (m+1)++R)):=by
   have:=c5p hok hlen (i:=P.length) (by simp[pb]) ((P.length:Int),(0:Int),())
   rw[show(P++(pb (v:Int) (m+1)++R)).getD P.length 0=a7P v m from by simp only[pb,a85];exact d7a _ _ _]at this;exact this
  have hbit:=d3I (v:=v) (by omega) (i:=m) (by omega);have hlt:v / 2^m%2<2:=a45 _ (by decide);have hdiv:v / 2^(m+1)=v / 2^m / 2:=by rw[a58,Nat.div_div_eq_div_mul]
  have hle:v / 2^m≤v:=a51 _ _;have hsh:a0z .u64 ((v / 2^(m+1):Nat):Int) 1=((v / 2^(m+1)*2^1:Nat):Int):=b4g (o:=1) (by omega) (by rw[hdiv];omega);have hacc:bits .u64 .or ((v / 2^(m+1)*2^1:Nat):Int) (wrap .u64 (a7P (v:Int) m))=((v / 2^m:Nat):Int):=by
   rw[hbit,a0G (by omega),orU (by rw[hdiv];omega) hlt (by omega),hdiv];congr 1;omega
  have hw1:wrap .i64 (((n-(m+1):Nat):Int)+1)=((n-m:Nat):Int):=by rw[a0f (by omega)];omega
  have hw2:wrap .i64 ((P.length:Int)+1)=(((P++[a7P v m]).length:Nat):Int):=by
   rw[a0f (by simp at hlen;omega)];simp
  have hassoc:P++(pb (v:Int) (m+1)++R)=(P++[a7P v m])++(pb (v:Int) m++R):=by simp[pb]
  have hre:((rdr P (pb (v:Int) (m+1)++R)).1,(((P++[a7P v m]).length:Nat):Int),(rdr P (pb (v:Int) (m+1)++R)).2.2)=rdr (P++[a7P v m]) (pb (v:Int) m++R):=by
   unfold rdr;rw[hassoc]
  rw[a0q (s':=(((v / 2^m:Nat):Int),(n:Int),((n-m:Nat):Int),rdr (P++[a7P v m]) (pb (v:Int) m++R),())) (by
   simp only[a4W,hd,cT];rw[show(rdr P (pb (v:Int) (m+1)++R)).2.1=(P.length:Int)from rfl,hlk];simp only[oB,hsh,hacc,hw1];rw[show(rdr P (pb (v:Int) (m+1)++R)).2.1=(P.length:Int)from rfl,hw2,hre])]
  rw[c8Q hv hn m _ _ (by omega) (by rw[←hassoc];exact hok) (by rw[←hassoc];exact hlen)];simp[pb]
theorem d3J{v n:Nat}(hn:n≤62)(hv:v<2^n){P R:List Int}(hok:a1K (P++(pb (v:Int) n++R)))(hlen:(P++(pb (v:Int) n++R)).length<200000000):
  a0k (rdr P (pb (v:Int) n++R),(n:Int))=some ((v:Int),rdr (P++pb (v:Int) n) R):=by
 have hv63:v<9223372036854775808:=b02 hv (Nat.le_trans (a20 (by decide) hn) (by decide));have hk:=c8Q hv63 hn n P R (by omega) hok (by omega);rw[a84 hv,Nat.sub_self]at hk;simp only[nZ,a17]at hk;obtain⟨-,hbl⟩:=a6H (P++(pb (v:Int) n++R));have hpl:=b4f (v:Int) n;have hll:(P++(pb (v:Int) n++R)).length=P.length+n+R.length:=by simp[b4f];omega
 have e8:wrap .i64 ((8:Int)*(((wL (P++(pb (v:Int) n++R))).1.length:Nat):Int))=(8:Int)*(((wL (P++(pb (v:Int) n++R))).1.length:Nat):Int):=a0f (by omega);have e9:wrap .i64 ((8:Int)*(((wL (P++(pb (v:Int) n++R))).1.length:Nat):Int)-(P.length:Int))=(8:Int)*(((wL (P++(pb (v:Int) n++R))).1.length:Nat):Int)-(P.length:Int):=a0f (by omega);have d1:decide ((n:Int)<0)=false:=by simp
 have d2:decide ((n:Int) > 64)=false:=by simp;omega
 have d3:decide ((n:Int) > (8:Int)*(((wL (P++(pb (v:Int) n++R))).1.length:Nat):Int)-(P.length:Int))=false:=by
  simp only[gt_iff_lt,decide_eq_false_iff_not,Int.not_lt];omega
 unfold a0k a3o;rw[show(rdr P (pb (v:Int) n++R)).2.2.1=0 from rfl];simp only[bne_self_eq_false,cF,d1,d2,oB];rw[show(rdr P (pb (v:Int) n++R)).1=(wL (P++(pb (v:Int) n++R))).1 from rfl,show(rdr P (pb (v:Int) n++R)).2.1=(P.length:Int)from rfl,e8,e9];simp only[d3,cF,hk,oB]
end Go.Ab
namespace Go.Ab
open IntKind(wrap)
def b7u(n:Nat)(x:Int):Prop:=-((2^n:Nat):Int)≤2*x∧2*x<((2^n:Nat):Int)
theorem c6m{n:Nat}(hn:n≤62)(x:Int):∃v:Nat,a0H x n=(v:Int)∧v<2^n∧(v:Int)=x%((2^n:Nat):Int):=by
 have hw:wrap .u64 x=x%18446744073709551616:=by simp[wrap,IntKind.bits,IntKind.signed]
 obtain⟨y,hy⟩:∃y:Nat,x%18446744073709551616=(y:Int):=a00 (Int.emod_nonneg _ (by decide));have hy2:y<18446744073709551616:=by omega
 refine⟨y%2^n,?_,a45 _ (a21 n),?_⟩;unfold a0H;rw[hw,hy];exact c8r hy2 hn;rw[Int.natCast_emod,←hy];refine Int.emod_emod_of_dvd x ?_
 have:(2:Nat)^n ∣ 2^64:=a78 2 (by omega)
 exact a33.2 this
theorem d3K{n:Nat}(hn:n≤62){x:Int}(hf:b7u n x){P R:List Int}(hok:a1K (P++(pb (a0H x n) n++R)))(hlen:(P++(pb (a0H x n) n++R)).length<200000000):
  a1f (rdr P (pb (a0H x n) n++R),(n:Int))=some (x,rdr (P++pb (a0H x n) n) R):=by
 obtain⟨v,hv,hlt,hmod⟩:=c6m hn x;rw[hv]at hok hlen⊢;have hget:=d3J hn hlt hok hlen;obtain⟨hf1,hf2⟩:=hf;have h2:=a21 n;have hvx:(v:Int)=x∧0≤x∨(v:Int)=x+((2^n:Nat):Int)∧x<0:=by
  by_cases h0:0≤x
  exact .inl ⟨by rw[hmod];exact b09 h0 (by omega),h0⟩;refine .inr ⟨?_,by omega⟩;rw[hmod,←Int.add_emod_right];exact b09 (by omega) (by omega)
 unfold a1f;simp only[hget,oB];rw[show(rdr (P++pb (v:Int) n) R).2.2.1=0 from rfl];simp only[bne_self_eq_false,cF,oB];cases n with
 |zero=>
  have hx0:x=0:=by simp at hf1 hf2;omega
  subst hx0;rfl
 |succ k=>
  have hne:(((k+1:Nat):Int)==0)=false:=by simp only[beq_eq_false_iff_ne];omega
  have e1:wrap .i64 ((64:Int)-((k+1:Nat):Int))=((64-(k+1):Nat):Int):=by rw[a0f (by omega)];omega
  have d1:decide (((64-(k+1):Nat):Int)<0)=false:=by simp
  simp only[hne,cF,e1,d1];have hm:64-(k+1)+(k+1)=64:=by omega
  generalize 64-(k+1)=m at hm⊢;have hpw:2^m*2^(k+1)=18446744073709551616:=by rw[←Nat.pow_add,hm]
  have hpwI:((2^m:Nat):Int)*((2^(k+1):Nat):Int)=18446744073709551616:=by rw[←a77,hpw];rfl
  have hp:=a21 m;have sh1:a0z .u64 (v:Int) (m:Int)=(v:Int)*((2^m:Nat):Int):=by
   show wrap .u64 ((v:Int)*2^(min (m:Int).toNat 64))=_;rw[tN,a76 (by omega)];have e:(2:Int)^m=((2^m:Nat):Int):=by simp
   rw[e];refine a0G ⟨a66 (by omega) (by omega),?_⟩
   have:v*2^m<2^(k+1)*2^m:=Nat.mul_lt_mul_of_pos_right hlt hp
   rw[←a77];rw[a79 (2^(k+1)),hpw]at this;omega
  have b1:-9223372036854775808≤x*((2^m:Nat):Int):=by
   have:=Int.mul_le_mul_of_nonneg_right hf1 (show(0:Int)≤((2^m:Nat):Int)by omega)
   have e:-((2^(k+1):Nat):Int)*((2^m:Nat):Int)=-18446744073709551616:=by rw[Int.neg_mul,a88,hpwI]
   rw[e,Int.mul_assoc]at this;omega
  have b2:x*((2^m:Nat):Int)<9223372036854775808:=by
   have:=Int.mul_lt_mul_of_pos_right hf2 (show(0:Int)<((2^m:Nat):Int)by omega)
   rw[a88 ((2^(k+1):Nat):Int),hpwI,Int.mul_assoc]at this;omega
  have w1:wrap .i64 ((v:Int)*((2^m:Nat):Int))=x*((2^m:Nat):Int):=by
   rcases hvx with⟨h,-⟩|⟨h,-⟩;rw[h];exact a0f (by omega);rw[h,Int.add_mul,a88 ((2^(k+1):Nat):Int),hpwI];generalize x*((2^m:Nat):Int)=y at b1 b2⊢;have hx0:y<0∨0≤y:=by omega
   simp only[wrap,IntKind.bits,IntKind.signed]
   simp
   split<;>omega
  have s1:a0C .i64 (x*((2^m:Nat):Int)) (m:Int)=x:=by
   show b28 (x*((2^m:Nat):Int)) (2^(min (m:Int).toNat 64))=x;rw[tN,a76 (by omega)];have e:(2:Int)^m=((2^m:Nat):Int):=by simp
   rw[e,a37 _ (by omega)];exact Int.mul_ediv_cancel _ (by omega)
  rw[sh1,w1,s1]
theorem d2q(P:List Int)(n:Nat)(R:List Int){c:Nat}(hc:c<n):(P++(a01 n 0++1::R)).getD (P.length+c) 0=0:=by
 simp only[lD];rw[a23 (by omega),a90,a62 (by simpa using hc)];simp[hc]
theorem d5o(P:List Int)(n:Nat)(R:List Int):(P++(a01 n 0++1::R)).getD (P.length+n) 0=1:=by
 simp only[lD];rw[a23 (by omega),a90,a23 (by simp)]
 simp
theorem d3L{n lm:Nat}(hn:n≤lm)(hlm:lm<1000000){P R:List Int}(hok:a1K (P++(a01 n 0++1::R)))(hlen:(P++(a01 n 0++1::R)).length<200000000):
  a2k (rdr P (a01 n 0++1::R),(lm:Int))=some ((n:Int),rdr (P++(a01 n 0++[1])) R):=by
 obtain⟨-,hbl⟩:=a6H (P++(a01 n 0++1::R));have hll:(P++(a01 n 0++1::R)).length=P.length+n+1+R.length:=by simp;omega
 have e8:wrap .i64 ((8:Int)*(((wL (P++(a01 n 0++1::R))).1.length:Nat):Int))=(8:Int)*(((wL (P++(a01 n 0++1::R))).1.length:Nat):Int):=a0f (by omega);have hlk:∀c,c≤n→a2a (rdr P (a01 n 0++1::R),((P.length:Int)+(c:Int)))=some (if c=n then 1 else 0,rdr P (a01 n 0++1::R)):=fun c hc=>by
  have:=c5p hok (by omega) (i:=P.length+c) (by omega) ((P.length:Int),(0:Int),())
  rw[b29]at this;refine this.trans ?_
  by_cases e:c=n
  subst e;rw[d5o,if_pos rfl];rfl;rw[d2q P n R (by omega),if_neg e];rfl
 have hend:∀c:Nat,c≤n→(((P.length:Int)+(c:Int))==(8:Int)*(((wL (P++(a01 n 0++1::R))).1.length:Nat):Int))=false:=fun c hc=>by
  simp only[beq_eq_false_iff_ne];omega
 have hP1:wrap .i64 ((P.length:Int)+(n:Int)+1)=(((P++(a01 n 0++[1])).length:Nat):Int):=by
  rw[a0f (by omega)];simp;omega
 have hassoc:P++(a01 n 0++1::R)=(P++(a01 n 0++[1]))++R:=by simp
 have hre:((rdr P (a01 n 0++1::R)).1,(((P++(a01 n 0++[1])).length:Nat):Int),(rdr P (a01 n 0++1::R)).2.2)=rdr (P++(a01 n 0++[1])) R:=by
  unfold rdr;rw[hassoc]
 have hr1:(rdr P (a01 n 0++1::R)).1=(wL (P++(a01 n 0++1::R))).1:=rfl;have hloop:=a3F (f:=a4n) (fun c:Nat=>((lm:Int),(c:Int),(P.length:Int)+(c:Int),rdr P (a01 n 0++1::R),())) n (b:=((n:Int),rdr (P++(a01 n 0++[1])) R,()))
  (fun c hc=>by
   have d1:((0:Int)==1)=false:=rfl;have d2:(((c:Nat):Int)==(lm:Int))=false:=by simp only[beq_eq_false_iff_ne];omega
   have w1:wrap .i64 ((c:Int)+1)=((c+1:Nat):Int):=a0d (by omega);have w2:wrap .i64 ((P.length:Int)+(c:Int)+1)=(P.length:Int)+((c+1:Nat):Int):=by rw[a0f (by omega)];omega
   simp only[a4n,hr1,e8,hend c (by omega),cF,hlk c (by omega),oB,if_neg (Nat.ne_of_lt hc),d1,d2,w1,w2])
  (by
   have d1:((1:Int)==1)=true:=rfl;simp only[a4n,hr1,e8,hend n (a42 _),cF,hlk n (a42 _),oB,if_pos rfl,d1,cT,hP1];rw[←hr1,hre];rfl)
 unfold a2k;rw[show(rdr P (a01 n 0++1::R)).2.2.1=0 from rfl,show(rdr P (a01 n 0++1::R)).2.1=(P.length:Int)from rfl];have hmx:a2q (lm:Int) 0=(lm:Int):=by
  have d:decide ((0:Int) > (lm:Int))=false:=by simp
  simp only[a2q,d,cF]
 simp only[nZ,Int.add_zero,a17]at hloop;simp only[bne_self_eq_false,cF,hmx,hloop,oB]
end Go.Ab
namespace Go.Ab
open IntKind(wrap)
def OkR(P R:List Int):Prop:=a1K (P++R)∧(P++R).length<200000000
theorem OkR.shift{P A R:List Int}(h:OkR P (A++R)):OkR (P++A) R:=by
 unfold OkR at h⊢
 rwa [aA]
theorem a4x{v n:Nat}(hn:n≤62)(hv:v<2^n){P R:List Int}(h:OkR P (pb (v:Int) n++R)):a0k (rdr P (pb (v:Int) n++R),(n:Int))=some ((v:Int),rdr (P++pb (v:Int) n) R):=d3J hn hv h.1 h.2
theorem b1v{n:Nat}(hn:n≤62){x:Int}(hf:b7u n x){P R:List Int}(h:OkR P (pb (a0H x n) n++R)):a1f (rdr P (pb (a0H x n) n++R),(n:Int))=some (x,rdr (P++pb (a0H x n) n) R):=d3K hn hf h.1 h.2
def unB(n:Nat):List Int:=a01 n 0++[1]
theorem c8R{n lm:Nat}(hn:n≤lm)(hlm:lm<1000000){P R:List Int}(h:OkR P (unB n++R)):a2k (rdr P (unB n++R),(lm:Int))=some ((n:Int),rdr (P++unB n) R):=by
 have e:unB n++R=a01 n 0++1::R:=by simp[unB]
 rw[e]at h⊢;exact d3L hn hlm h.1 h.2
theorem a2y{v n:Nat}(hn:n≤63)(hv:v<2^n)(L:List Int):a0w (v:Int) n L=L++pb (v:Int) n:=by
 unfold a0w;rw[a7y (N:=v) (o:=n) (by omega),a84 hv]
 simp
def b0X(k:Nat)(x:Int):List Int:=
 if a0u x / 2^k<32 then unB (a0u x / 2^k)++pb ((a0u x%2^k:Nat):Int) k else unB 32++pb ((a0u x:Nat):Int) 32
theorem d3M{k:Nat}(hk:k≤25){x:Int}(hx:a0b x=true)(L:List Int):a7Q k x L=L++b0X k x:=by
 have hlt:=b1i hx;unfold a7Q b0X;split;rw[a2y (by omega) (a45 _ (a21 k))];simp[unL,unB];rw[a2y (by omega) (by omega)];simp[unL,unB]
theorem d3N{x:Int}(hx:a0b x=true):a8j ((a0u x:Nat):Int)=some x:=by
 have hlt:=b1i hx;have hw:=a2j.1 hx;have ht:a43 ((a0u x:Nat):Int) 2=((a0u x:Nat):Int)%2:=a44 (by omega);have hd:a68 ((a0u x:Nat):Int) 2=((a0u x:Nat):Int) / 2:=a60 (by omega);have d1:decide (((a0u x:Nat):Int)≥2147483648)=false:=by simp only[ge_iff_le,decide_eq_false_iff_not];omega
 unfold a8j;simp only[d1,cF,ht,hd]
 by_cases h0:0≤x
 have e:((a0u x:Nat):Int)=2*x:=by unfold a0u;rw[if_pos h0];omega
 rw[e];have d2:((2*x)%2==(0:Int))=true:=by simp only[beq_iff_eq];omega
 have e2:2*x / 2=x:=by omega
 simp only[d2,cT,e2];rw[a0G (by omega),a0f (by omega)];have e:((a0u x:Nat):Int)=-2*x-1:=by unfold a0u;rw[if_neg h0];omega
 rw[e];have d2:((-2*x-1)%2==(0:Int))=false:=by simp only[beq_eq_false_iff_ne];omega
 have e2:(-2*x-1) / 2=-x-1:=by omega
 simp only[d2,cF,e2];rw[a0G (n:=-x-1) (by omega),a0f (n:=-x-1) (by omega),a0f (n:=0-(-x-1)) (by omega),a0f (by omega)];congr 1;omega
theorem c9T{k:Nat}(hk:k≤25){x:Int}(hx:a0b x=true){P R:List Int}(h:OkR P (b0X k x++R)):b4N (rdr P (b0X k x++R),(k:Int))=some (x,(0:Int),rdr (P++b0X k x) R):=by
 have hlt:=b1i hx;have hunf:=d3N hx;unfold b4N a0x;unfold b0X at h⊢;have hz:∀A B:List Int,(rdr A B).2.2.1=0:=fun _ _=>rfl;split;rename_i hq;rw[if_pos hq,aA]at h;have h1:=c8R (n:=a0u x / 2^k) (lm:=32) (by omega) (by omega) h;have h2:=a4x (n:=k) (v:=a0u x%2^k) (by omega) (a45 _ (a21 k)) h.shift;have e1:wrap .u64 ((a0u x / 2^k:Nat):Int)=((a0u x / 2^k:Nat):Int):=a2V (by omega);have d1:decide (((a0u x / 2^k:Nat):Int)<32)=true:=by simp only[dT];omega
 have d2:decide ((k:Int)<0)=false:=by simp
 have hmul:a0u x / 2^k*2^k≤a0u x:=Nat.div_mul_le_self _ _;have hsh:a0z .u64 ((a0u x / 2^k:Nat):Int) (k:Int)=((a0u x / 2^k*2^k:Nat):Int):=b4g (by omega) (by omega);have hsum:wrap .u64 (((a0u x / 2^k*2^k:Nat):Int)+((a0u x%2^k:Nat):Int))=((a0u x:Nat):Int):=by
  rw[←b29,Nat.div_add_mod',a0G (by omega)]
 rw[aA];have h1':a2k (rdr P (unB (a0u x / 2^k)++(pb ((a0u x%2^k:Nat):Int) k++R)),(32:Int))=_:=h1;simp only[h1',oB,hz,bne_self_eq_false,cF,e1,d1,cT,h2,d2,hsh,hsum,hunf];rw[aA];rename_i hq;rw[if_neg hq,aA]at h;have h1:=c8R (n:=32) (lm:=32) (by omega) (by omega) h;have h2:=a4x (n:=32) (v:=a0u x) (by omega) (by omega) h.shift;have e1:wrap .u64 (32:Int)=32:=a0G (by omega);have d1:decide ((32:Int)<32)=false:=by simp
 have d2:decide ((k:Int)<0)=false:=by simp
 have d3:decide (((a0u x:Nat):Int)≥2147483648)=false:=by simp only[ge_iff_le,decide_eq_false_iff_not];omega
 have hsr:a0C .u64 ((a0u x:Nat):Int) (k:Int)=((a0u x / 2^k:Nat):Int):=a7y (by omega);have d4:decide (((a0u x / 2^k:Nat):Int)<32)=false:=by simp only[decide_eq_false_iff_not];omega
 rw[aA];have h1':a2k (rdr P (unB 32++(pb ((a0u x:Nat):Int) 32++R)),(32:Int))=some ((32:Int),_):=h1;have h2':a0k (rdr (P++unB 32) (pb ((a0u x:Nat):Int) 32++R),(32:Int))=_:=h2;simp only[h1',oB,hz,bne_self_eq_false,cF,e1,d1,h2',d2,d3,hsr,d4,hunf];rw[aA]
def a4d(k:Nat)(l:List Int):List Int:=l.flatMap (b0X k)
theorem c4j{k:Nat}(hk:k≤25):∀(l L:List Int),l.all a0b=true→a4R k l L=L++a4d k l
 | [],L,_=>by simp[a4R,a4d]
 |x::l,L,h=>by
  simp only[a08,bA]at h;show a4R k l (a7Q k x L)=_;rw[c4j hk l _ h.2,d3M hk h.1];simp[a4d]
theorem b9K{k:Nat}(hk:k≤25){N:Nat}(hN:N<1000000):∀(l done P R:List Int),l.all a0b=true→done.length+l.length=N→OkR P (a4d k l++R)→
  a0h b0S ((k:Int),(N:Int),(done.length:Int),done,rdr P (a4d k l++R),())=some (Sum.inl (done++l,rdr (P++a4d k l) R,()))
 | [],done,P,R,_,hl,_=>by
  have:done.length=N:=by simpa using hl
  subst this;have d:decide ((done.length:Int)<(done.length:Int))=false:=by simp
  rw[a0o (b:=Sum.inl (done,rdr P R,())) (by simp only[b0S,d,cF];simp[a4d])];simp[a4d]
 |x::l,done,P,R,h,hl,hok=>by
  simp only[a08,bA]at h;rw[lC]at hl;have e:a4d k (x::l)++R=b0X k x++(a4d k l++R):=by simp[a4d]
  rw[e]at hok⊢;have d:decide ((done.length:Int)<(N:Int))=true:=by simp;omega
  have h1:=c9T hk h.1 hok;have hlm:lim (a46 done+1)=true:=a1q (by omega);have hw:wrap .i64 ((done.length:Int)+1)=(((done++[x]).length:Nat):Int):=by rw[a0f (by omega)];simp
  rw[a0q (s':=((k:Int),(N:Int),(((done++[x]).length:Nat):Int),done++[x],rdr (P++b0X k x) (a4d k l++R),())) (by
   simp only[b0S,d,cT,h1,oB,bne_self_eq_false,cF,hlm,hw,a16])]
  rw[b9K hk hN l (done++[x]) (P++b0X k x) R h.2 (by simp;omega) hok.shift];simp[a4d]
theorem c9U{k:Nat}(hk:k≤25){l P R:List Int}(h:l.all a0b=true)(hl:l.length<1000000)(hok:OkR P (a4d k l++R)):
  b4O (rdr P (a4d k l++R),(k:Int),((l.length:Nat):Int))=some (l,(0:Int),rdr (P++a4d k l) R):=by
 have hp:a2w (k:Int)=some true:=by
  unfold a2w;have d1:decide ((k:Int)≥0)=true:=by simp
  have d2:decide ((k:Int)≤25)=true:=by simp;omega
  simp[d1,d2]
 have d1:decide (((l.length:Nat):Int)<0)=false:=by simp
 have d2:decide (((l.length:Nat):Int) > 4194304)=false:=by simp;omega
 have hz:∀A B:List Int,(rdr A B).2.2.1=0:=fun _ _=>rfl;have hlp:=b9K hk hl l [] P R h (by simp) hok;simp only[a19,nZ,a06,a17]at hlp;unfold b4O a0x;simp only[hp,oB,bT,cF,d1,d2,hz,bne_self_eq_false]
 erw[hlp]
 rfl
end Go.Ab
namespace Go.Ab
open IntKind(wrap)
theorem d5p{x:Int}{v:Nat}(h:inW x v=true):b7u v x:=by
 have hp:=a21 v;rcases c1m.1 h with rfl|⟨h1,-,h3,h4⟩;exact⟨by omega,by omega⟩;have e:2^v=2^(v-1)*2:=by rw[←a58];congr 1;omega
 unfold b7u;rw[e];omega
theorem b9f{l:List Int}(h:l.all a0b=true):∀x∈l,b7u (a0l l) x:=fun x hx=>d5p (c8O h x hx)
def sB(n:Nat)(l:List Int):List Int:=l.flatMap fun x=>pb (a0H x n) n
theorem b1w{n:Nat}(hn:n≤62):∀(l L:List Int),a1P n l L=L++sB n l
 | [],L=>by simp[a1P,sB]
 |x::l,L=>by
  show a1P n l (a0w (a0H x n) n L)=_;obtain⟨v,hv,hlt,-⟩:=c6m hn x;rw[b1w hn l,hv,a2y (by omega) hlt,←hv];simp[sB]
theorem c5q(n:Nat)(x:Int)(l R:List Int):sB n (x::l)++R=pb (a0H x n) n++(sB n l++R):=by simp[sB]
theorem b8k{k:Int}{n:Nat}(hn:n≤62){N:Nat}(hN:N<1000000):∀(l done P R:List Int),(∀x∈l,b7u n x)→done.length+l.length=N→OkR P (sB n l++R)→
  a0h a9V (k,(n:Int),(N:Int),(done.length:Int),done,rdr P (sB n l++R),())=some (k,(n:Int),done++l,rdr (P++sB n l) R,())
 | [],done,P,R,_,hl,_=>by
  have:done.length=N:=by simpa using hl
  subst this;have d:decide ((done.length:Int)<(done.length:Int))=false:=by simp
  rw[a0o (b:=(k,(n:Int),done,rdr P R,())) (by simp only[a9V,d,cF];simp[sB])];simp[sB]
 |x::l,done,P,R,h,hl,hok=>by
  rw[lC]at hl;rw[c5q]at hok⊢;have d:decide ((done.length:Int)<(N:Int))=true:=by simp;omega
  have h1:=b1v hn (h x (by simp)) hok;have hlm:lim (a46 done+1)=true:=a1q (by omega);have hw:wrap .i64 ((done.length:Int)+1)=(((done++[x]).length:Nat):Int):=by rw[a0f (by omega)];simp
  rw[a0q (s':=(k,(n:Int),(N:Int),(((done++[x]).length:Nat):Int),done++[x],rdr (P++pb (a0H x n) n) (sB n l++R),())) (by
   simp only[a9V,d,cT,h1,oB,hlm,hw,a16])]
  rw[b8k hn hN l (done++[x]) _ R (fun y hy=>h y (by simp[hy])) (by simp;omega) hok.shift];simp[sB]
def b2q(k:Int)(part:List Int):List Int:=if k=31 then pb 31 5++(pb ((a0l part:Nat):Int) 5++sB (a0l part) part)else pb k 5++a4d k.toNat part
theorem d3O{k:Int}(hk:kB k=true){part:List Int}(hw:part.all a0b=true)(L:List Int):b0W k part L=L++b2q k part:=by
 have hwd:=a2B hw;simp only[kB,a24,bA,dT,beq_iff_eq]at hk;obtain⟨K,rfl⟩:=a00 (show 0≤k by omega);unfold b0W b2q;rw[a2V (by omega)];have hA:=a2y (v:=K) (n:=5) (by omega) (by omega) L;split;rename_i h31;rw[b1w (by omega),a2y (v:=a0l part) (n:=5) (by omega) (by omega),hA,h31]
 simp
 rw[c4j (by omega) _ _ hw,hA]
 simp
theorem c8S{k:Int}(hk:kB k=true){part:List Int}(hw:part.all a0b=true)(hl:part.length<1000000){P R:List Int}(hok:OkR P (b2q k part++R)):
  b3u (rdr P (b2q k part++R),((part.length:Nat):Int))=some (k,part,(0:Int),rdr (P++b2q k part) R):=by
 have hwd:=a2B hw;have hz:∀A B:List Int,(rdr A B).2.2.1=0:=fun _ _=>rfl;simp only[kB,a24,bA,dT,beq_iff_eq]at hk;obtain⟨K,rfl⟩:=a00 (show 0≤k by omega);unfold b3u a0x;unfold b2q at hok⊢;split;rename_i h31;rw[if_pos h31,aA,aA]at hok;rw[aA,aA];obtain rfl:K=31:=by omega
 have h1:a0k (rdr P (pb 31 5++(pb ((a0l part:Nat):Int) 5++(sB (a0l part) part++R))),(5:Int))=_:=a4x (v:=31) (n:=5) (by omega) (by omega) hok;have hok2:=hok.shift;have h2:a0k (rdr (P++pb 31 5) (pb ((a0l part:Nat):Int) 5++(sB (a0l part) part++R)),(5:Int))=_:=a4x (v:=a0l part) (n:=5) (by omega) (by omega) hok2;have hlp:=b8k (k:=31) (n:=a0l part) (by omega) hl part [] _ R (b9f hw) (by simp) hok2.shift;simp only[a19,nZ,a06,a17]at hlp;have w1:wrap .i64 ((31:Nat):Int)=31:=by decide
 have w2:wrap .i64 ((a0l part:Nat):Int)=((a0l part:Nat):Int):=a0f (by omega);have d1:decide ((31:Int)≤25)=false:=by decide
 have d2:((31:Int) != 31)=false:=by decide
 rw[h1];simp only[oB,hz,bne_self_eq_false,cF,w1,d1]
 erw[h2]
 simp only[oB,w2]
 erw[hlp]
 simp only[oB,hz,bne_self_eq_false,cF,a2U (show short part from hl)]
 simp
 rename_i h31;rw[if_neg h31,aA]at hok;rw[aA];have hK:K≤25:=by omega
 have h1:a0k (rdr P (pb (K:Int) 5++(a4d ((K:Int).toNat) part++R)),(5:Int))=_:=a4x (v:=K) (n:=5) (by omega) (by omega) hok;have hr:=c9U hK hw hl hok.shift;have w1:wrap .i64 (K:Int)=(K:Int):=a0f (by omega);have d1:decide ((K:Int)≤25)=true:=by simp;omega
 rw[h1];simp only[oB,hz,bne_self_eq_false,cF,w1,d1,cT]
 erw[hr]
 simp
end Go.Ab
namespace Go.Ab
open IntKind(wrap)
def a2h:List Nat→List Int→List Int→List Int
 |z::zs,k::ks,l=>b2q k (l.take z)++a2h zs ks (l.drop z)
 |_,_,_=>[]
theorem c6n{l:List Int}(h:l.all a0b=true)(z:Nat):(l.take z).all a0b=true:=lA.2 fun x hx=>lA.1 h x (a40 hx)
theorem c6o{l:List Int}(h:l.all a0b=true)(z:Nat):(l.drop z).all a0b=true:=lA.2 fun x hx=>lA.1 h x (a41 hx)
theorem c4k:∀(zs:List Nat)(ks l L:List Int),ks.all kB=true→l.all a0b=true→a4w zs ks l L=L++a2h zs ks l
 |z::zs,k::ks,l,L,hk,hw=>by
  simp only[a08,bA]at hk;simp only[a4w,a2h];rw[c4k zs ks _ _ hk.2 (c6o hw z),d3O hk.1 (c6n hw z)]
  simp
 | [],_,_,L,_,_=>by simp[a4w,a2h]
 |_::_,[],_,L,_,_=>by simp[a4w,a2h]
theorem d3P(dz:List Nat)(z:Nat)(zs:List Nat):(a1s (dz++z::zs)).getD dz.length 0=(z:Int):=by
 simp[a1s,lD]
theorem b8l{o:Int}{z0:Prt}:∀(zs:List Nat)(ks l dk acc P R:List Int)(dz:List Nat),ks.length=zs.length→ks.all kB=true→zs.sum=l.length→l.all a0b=true→
  dk.length=dz.length→(dz++zs).length≤256→acc.length+l.length≤10000→OkR P (a2h zs ks l++R)→
  a0h a9W (((a1s (dz++zs)).length:Int),(dz.length:Int),acc,a1s (dz++zs),rdr P (a2h zs ks l++R),z0,(o,dk,()),()) =
   some (Sum.inl (acc++l,z0,(o,dk++ks,()),rdr (P++a2h zs ks l) R,()))
 | [],ks,l,dk,acc,P,R,dz,hk,_,hs,_,_,_,_,_=>by
  obtain rfl:ks=[]:=a48.1 hk;obtain rfl:l=[]:=a48.1 (by simpa using hs.symm);have d:decide ((dz.length:Int)<((a1s (dz++[])).length:Int))=false:=by simp[a1J]
  rw[a0o (b:=Sum.inl (acc,z0,(o,dk,()),rdr P R,())) (by simp only[a9W,d,cF];simp[a2h])];simp[a2h]
 |z::zs,[],_,_,_,_,_,_,hk,_,_,_,_,_,_,_=>by simp at hk
 |z::zs,k::ks,l,dk,acc,P,R,dz,hk,hkb,hs,hw,hd,h256,hacc,hok=>by
  simp only[a08,bA]at hkb;rw[a52]at hs;have hz:z≤l.length:=by omega
  have htl:(l.take z).length=z:=by rw[a05];omega
  have e:a2h (z::zs) (k::ks) l++R=b2q k (l.take z)++(a2h zs ks (l.drop z)++R):=by simp[a2h]
  rw[e]at hok⊢;have hlen:(a1s (dz++z::zs)).length=dz.length+1+zs.length:=by rw[a1J];simp;omega
  have d:decide ((dz.length:Int)<((a1s (dz++z::zs)).length:Int))=true:=by simp only[dT];omega
  have d0:decide ((0:Int)≤(dz.length:Int))=true:=by simp
  have hone:=c8S hkb.1 (c6n hw z) (by omega) hok;rw[htl]at hone;have hz0:((0:Int) != 0)=false:=rfl;rw[lN,lC]at h256;have hlm1:lim (a46 dk+1)=true:=a1q (by omega);have hlm2:lim (a46 acc+a46 (l.take z))=true:=a1q (by omega);have hw1:wrap .i64 ((dz.length:Int)+1)=(((dz++[z]).length:Nat):Int):=by rw[a0f (by omega)];simp
  have ea:dz++z::zs=(dz++[z])++zs:=by simp
  rw[a0q (s':=(((a1s ((dz++[z])++zs)).length:Int),(((dz++[z]).length:Nat):Int),acc++l.take z,a1s ((dz++[z])++zs),rdr (P++b2q k (l.take z)) (a2h zs ks (l.drop z)++R),z0,(o,dk++[k],()),())) (by
   simp only[a9W,d,d0,a02,cT,tN,d3P,hone,oB,hz0,cF,hlm1,hlm2,hw1,a16];rw[ea])]
  rw[b8l zs ks (l.drop z) (dk++[k]) (acc++l.take z) _ R (dz++[z]) (by simpa using hk) hkb.2 (by rw[a07];omega) (c6o hw z) (by simp[hd]) (by simp;omega) (by simp;omega) hok.shift];simp[a2h]
def a7z(p:Prt)(zn:List Nat)(l:List Int):List Int:=pb p.1 4++a2h zn p.2.1 l
theorem c6T{p:Prt}{n warm:Int}{l:List Int}{zn:List Nat}(h:PartsOk p n warm l zn)(L:List Int):a5g p zn l L=L++a7z p zn l:=by
 obtain⟨o,ks,u⟩:=p;have ho:=h.order;simp only at ho;obtain⟨O,rfl⟩:=a00 ho.1;unfold a5g a7z;simp only;rw[a2V (by omega),a2y (n:=4) (by omega) (by omega),c4k _ _ _ _ h.all h.wide]
 simp
theorem c8T{p:Prt}{n warm:Int}{l:List Int}{zn:List Nat}(h:PartsOk p n warm l zn){P R:List Int}(hok:OkR P (a7z p zn l++R)):
  b3v (rdr P (a7z p zn l++R),n,warm)=some (p,l,(0:Int),rdr (P++a7z p zn l) R):=by
 obtain⟨o,ks,u⟩:=p;have ho:=h.order;have h5:=h.short;have hlen:=h.len;simp only at ho;obtain⟨O,rfl⟩:=a00 ho.1;have hz:∀A B:List Int,(rdr A B).2.2.1=0:=fun _ _=>rfl;have hmay:=h.may;unfold a6z at hmay;simp only[bA,a34,beq_eq_false_iff_ne]at hmay;have hs:=h.sizes;simp only at hs;have hne:(((a1s zn).length:Int)==0)=false:=by
  rw[beq_eq_false_iff_ne]
  have:=hmay.1
  rw[hs]at this;omega
 unfold a7z at hok⊢;simp only at hok⊢;rw[aA]at hok⊢;have h1:a0k (rdr P (pb (O:Int) 4++(a2h zn ks l++R)),(4:Int))=_:=a4x (v:=O) (n:=4) (by omega) (by omega) hok;have w1:wrap .i64 (O:Int)=(O:Int):=a0f (by omega);have hlp:=b8l (o:=(O:Int)) (z0:=((0:Int),([]:List Int),())) zn ks l [] [] _ R [] h.ks h.all h.sum h.wide rfl (by simpa using hlen) (by simp;omega) hok.shift;simp only[a19,nZ,a06,a17]at hlp;unfold b3v a0x;simp only[b5V,h.row,oB,bT,cF];rw[h1];simp only[oB,hz,bne_self_eq_false,cF,w1,a2E,hs,hne]
 erw[hlp]
 simp
def a8q(s:Sub):List Int:=
 pb ((s.2.2.2.2.2.1.length-1:Nat):Int) 5++(pb s.2.2.2.1 4++(pb ((a0l s.2.2.2.2.2.1:Nat):Int) 5++sB (a0l s.2.2.2.2.2.1) s.2.2.2.2.2.1))
theorem c6p{c:List Int}{t:Int}(h:b0j c t=true):1≤c.length∧c.length≤32∧0≤t∧t≤15∧c.all a0b=true:=by
 simp only[b0j,bA,dT]at h;obtain⟨h1,h2,h3,h4,h5⟩:=h;refine⟨h1,h2,h3,h4,lA.2 fun x hx=>?_⟩
 have:=lA.1 h5 x hx
 simp only[c1k,bA,dT]at this;rw[a2j];omega
theorem c4l{s:Sub}(h:b0j s.2.2.2.2.2.1 s.2.2.2.1=true)(L:List Int):a7s s L=L++a8q s:=by
 obtain⟨h1,h2,h3,h4,h5⟩:=c6p h;have hwd:=a2B h5;unfold a7s a8q;generalize s.2.2.2.2.2.1=c at *;generalize s.2.2.2.1=t at *;obtain⟨T,rfl⟩:=a00 h3;have e1:wrap .u64 (wrap .i64 (((c.length:Nat):Int)-1))=((c.length-1:Nat):Int):=by rw[a0f (by omega),a0G (by omega)];omega
 have e2:wrap .u64 (T:Int)=(T:Int):=a0G (by omega);rw[e1,e2,b1w (by omega),a2y (v:=a0l c) (n:=5) (by omega) (by omega),a2y (v:=T) (n:=4) (by omega) (by omega),a2y (v:=c.length-1) (n:=5) (by omega) (by omega)]
 simp
def b7v(s:Sub)(c:List Int):Sub:=(s.1,s.2.1,s.2.2.1,s.2.2.2.1,s.2.2.2.2.1,c,s.2.2.2.2.2.2)
def c5r(s:Sub)(t:Int):Sub:=(s.1,s.2.1,s.2.2.1,t,s.2.2.2.2)
theorem c4m{n:Nat}(hn:n≤62){N:Nat}(hN:N<1000000)(s:Sub):∀(l done P R:List Int),(∀x∈l,b7u n x)→done.length+l.length=N→OkR P (sB n l++R)→
  a0h a6S ((n:Int),(N:Int),(done.length:Int),rdr P (sB n l++R),b7v s done,())=some ((n:Int),b7v s (done++l),rdr (P++sB n l) R,())
 | [],done,P,R,_,hl,_=>by
  have:done.length=N:=by simpa using hl
  subst this;have d:decide ((done.length:Int)<(done.length:Int))=false:=by simp
  rw[a0o (b:=((n:Int),b7v s done,rdr P R,())) (by simp only[a6S,d,cF];simp[sB])];simp[sB]
 |x::l,done,P,R,h,hl,hok=>by
  rw[lC]at hl;rw[c5q]at hok⊢;have d:decide ((done.length:Int)<(N:Int))=true:=by simp;omega
  have h1:=b1v hn (h x (by simp)) hok;have hlm:lim (a46 done+1)=true:=a1q (by omega);have hw:wrap .i64 ((done.length:Int)+1)=(((done++[x]).length:Nat):Int):=by rw[a0f (by omega)];simp
  rw[a0q (s':=((n:Int),(N:Int),(((done++[x]).length:Nat):Int),rdr (P++pb (a0H x n) n) (sB n l++R),b7v s (done++[x]),())) (by
   simp only[a6S,d,cT,h1,oB,b7v,hlm,hw,a16])]
  rw[c4m hn hN s l (done++[x]) _ R (fun y hy=>h y (by simp[hy])) (by simp;omega) hok.shift];simp[sB]
theorem c2g{s s0:Sub}(h:b0j s.2.2.2.2.2.1 s.2.2.2.1=true)(h0:s0.2.2.2.2.2.1=[]){P R:List Int}(hok:OkR P (a8q s++R)):
  a9U (rdr P (a8q s++R),s0)=some (true,rdr (P++a8q s) R,b7v (c5r s0 s.2.2.2.1) s.2.2.2.2.2.1):=by
 obtain⟨h1,h2,h3,h4,h5⟩:=c6p h;have hwd:=a2B h5;unfold a8q at hok⊢;generalize s.2.2.2.2.2.1=c at *;generalize s.2.2.2.1=t at *;obtain⟨T,rfl⟩:=a00 h3;simp only[aA]at hok⊢;have g1:a0k (rdr P (pb ((c.length-1:Nat):Int) 5++(pb (T:Int) 4++(pb ((a0l c:Nat):Int) 5++(sB (a0l c) c++R)))),(5:Int))=_:=a4x (v:=c.length-1) (n:=5) (by omega) (by omega) hok;have hok2:=hok.shift;have g2:a0k (rdr (P++pb ((c.length-1:Nat):Int) 5) (pb (T:Int) 4++(pb ((a0l c:Nat):Int) 5++(sB (a0l c) c++R))),(4:Int))=_:=a4x (v:=T) (n:=4) (by omega) (by omega) hok2;have hok3:=hok2.shift;have g3:a0k (rdr (P++pb ((c.length-1:Nat):Int) 5++pb (T:Int) 4) (pb ((a0l c:Nat):Int) 5++(sB (a0l c) c++R)),(5:Int))=_:=a4x (v:=a0l c) (n:=5) (by omega) (by omega) hok3;have hlp:=c4m (n:=a0l c) (by omega) (N:=c.length) (by omega) (c5r s0 (T:Int)) c [] _ R (b9f h5) (by simp) hok3.shift;simp only[a19,nZ,a06,a17]at hlp;have w1:wrap .i64 ((c.length-1:Nat):Int)=((c.length-1:Nat):Int):=a0f (by omega);have w2:wrap .i64 (((c.length-1:Nat):Int)+1)=(c.length:Int):=by rw[a0f (by omega)];omega
 have w3:wrap .i64 (T:Int)=(T:Int):=a0f (by omega);have w4:wrap .i64 ((a0l c:Nat):Int)=((a0l c:Nat):Int):=a0f (by omega);have hs0:((s0.1,s0.2.1,s0.2.2.1,(T:Int),s0.2.2.2.2):Sub)=b7v (c5r s0 (T:Int)) []:=by
  unfold b7v c5r;rw[←h0]
 unfold a9U;rw[g1];simp only[oB];rw[g2];simp only[oB];rw[g3];simp only[oB,w1,w2,w3,w4]
 erw[hs0,hlp]
 simp only[oB];rw[show(b7v (c5r s0 (T:Int)) c).2.2.2.2.2.1=c from rfl,a2U (show short c by unfold short;omega)]
 simp
end Go.Ab
namespace Go.Ab
open IntKind(wrap)
def a8N(st:List Stg):List Int:=st.flatMap fun g=>pb (g.1-1) 5++pb g.2.1 4
theorem c2h{g:Stg}(h:Ab.stageB g=true):1≤g.1∧g.1≤32∧0≤g.2.1∧g.2.1≤8:=by
 simp only[Ab.stageB,bA,dT]at h;exact⟨h.1,h.2.1,h.2.2.1,h.2.2.2⟩
theorem c2i:∀(st:List Stg)(L:List Int),st.all Ab.stageB=true→a3N st L=L++a8N st
 | [],L,_=>by simp[a3N,a8N]
 |g::st,L,h=>by
  simp only[a08,bA]at h;obtain⟨h1,h2,h3,h4⟩:=c2h h.1;show a3N st (a7r g L)=_;rw[c2i st _ h.2];obtain⟨a,b,u⟩:=g;simp only at h1 h2 h3 h4;obtain⟨B,rfl⟩:=a00 h3;obtain⟨A,hA⟩:=a00 (show 0≤a-1 by omega);unfold a7r;simp only;rw[hA,b6a (q:=A) (by omega),a2V (q:=A) (by omega),a2V (q:=B) (by omega),a2y (v:=A) (n:=5) (by omega) (by omega),a2y (v:=B) (n:=4) (by omega) (by omega)];simp[a8N,hA]
def a5P(s:Sub):List Int:=
 if s.1=2 then pb s.2.2.1 3
 else if s.1=3 then a8q s
 else if s.1=4 then pb (s.2.2.2.2.1-1) 10++(sB 8 s.2.2.2.2.2.2.1++a8q s)
 else if s.1=5 then pb ((s.2.2.2.2.2.2.2.1.length:Nat):Int) 2++a8N s.2.2.2.2.2.2.2.1
 else[]
theorem c6q{s:Sub}{n:Int}(h:a4I s.1 s n)(L:List Int):a3g s L=L++a5P s:=by
 unfold a3g a5P;rcases h with k|k|⟨k,h1,h2,-⟩|⟨k,h1,-⟩|⟨k,h1,-,h3⟩|⟨k,h1,h2⟩;simp[k];simp[k];rw[if_pos k,if_pos k];obtain⟨A,hA⟩:=a00 h1;rw[hA,a2V (by omega),a2y (n:=3) (by omega) (by omega)];rw[if_neg (by omega),if_pos k,if_neg (by omega),if_pos k,c4l h1];rw[if_neg (by omega),if_neg (by omega),if_pos k,if_neg (by omega),if_neg (by omega),if_pos k,c4l h1,b1w (by omega)];simp only[b3C,bA,dT]at h3;obtain⟨A,hA⟩:=a00 (show 0≤s.2.2.2.2.1-1 by omega);rw[hA,b6a (by omega),a2V (by omega),a2y (n:=10) (by omega) (by omega)]
 simp
 rw[if_neg (by omega),if_neg (by omega),if_neg (by omega),if_pos k,if_neg (by omega),if_neg (by omega),if_neg (by omega),if_pos k];simp only[b0x,bA,dT]at h2;rw[c2i _ _ h2.2,a2V (by omega),a2y (n:=2) (by omega) (by omega)]
 simp
def b6N(s:Sub):List Int:=pb s.1 3++(pb s.2.1 5++pb ((a0l s.2.2.2.2.2.2.2.2.1:Nat):Int) 5)
theorem d3Q{s:Sub}(hk:0≤s.1∧s.1≤5)(hw:0≤s.2.1∧s.2.1≤30)(ha:s.2.2.2.2.2.2.2.2.1.all a0b=true)(L:List Int):b3F s L=L++b6N s:=by
 obtain⟨K,hK⟩:=a00 hk.1;obtain⟨w,hw'⟩:=a00 hw.1
 have:=a2B ha
 unfold b3F b6N;rw[hK,hw',a2V (q:=K) (by omega),a2V (q:=w) (by omega),a2y (v:=a0l s.2.2.2.2.2.2.2.2.1) (n:=5) (by omega) (by omega),a2y (v:=w) (n:=5) (by omega) (by omega),a2y (v:=K) (n:=3) (by omega) (by omega)]
 simp
def a4K(s:Sub):Sub:=(s.1,s.2.1,s.2.2.1,s.2.2.2.1,s.2.2.2.2.1,s.2.2.2.2.2.1,s.2.2.2.2.2.2.1,s.2.2.2.2.2.2.2.1,[],(0,[],()),[],())
theorem c2j{wd N:Nat}{ok:Bool}(hN:N<1000)(k w:Int):∀(st done:List Stg)(P R:List Int),st.all Ab.stageB=true→done.length+st.length=N→OkR P (a8N st++R)→
  a0h a7I ((wd:Int),ok,(N:Int),(done.length:Int),rdr P (a8N st++R),(k,w,0,0,0,[],[0,0,0],done,[],(0,[],()),[],()),()) =
   some ((wd:Int),ok,(k,w,0,0,0,[],[0,0,0],done++st,[],(0,[],()),[],()),rdr (P++a8N st) R,())
 | [],done,P,R,_,hl,_=>by
  have:done.length=N:=by simpa using hl
  subst this;have d:decide ((done.length:Int)<(done.length:Int))=false:=by simp
  rw[a0o (b:=((wd:Int),ok,(k,w,0,0,0,[],[0,0,0],done,[],(0,[],()),[],()),rdr P R,())) (by simp only[a7I,d,cF];simp[a8N])];simp[a8N]
 |g::st,done,P,R,h,hl,hok=>by
  simp only[a08,bA]at h;rw[lC]at hl;obtain⟨h1,h2,h3,h4⟩:=c2h h.1;obtain⟨a,b,u⟩:=g;simp only at h1 h2 h3 h4;obtain⟨B,rfl⟩:=a00 h3;obtain⟨A,hA⟩:=a00 (show 0≤a-1 by omega);obtain rfl:a=(A:Int)+1:=by omega
  have e:a8N (((A:Int)+1,(B:Int),u)::st)++R=pb (A:Int) 5++(pb (B:Int) 4++(a8N st++R)):=by simp[a8N]
  rw[e]at hok⊢;have d:decide ((done.length:Int)<(N:Int))=true:=by simp;omega
  have g1:a0k (rdr P (pb (A:Int) 5++(pb (B:Int) 4++(a8N st++R))),(5:Int))=_:=a4x (v:=A) (n:=5) (by omega) (by omega) hok;have hok2:=hok.shift;have g2:a0k (rdr (P++pb (A:Int) 5) (pb (B:Int) 4++(a8N st++R)),(4:Int))=_:=a4x (v:=B) (n:=4) (by omega) (by omega) hok2;have hlm:lim (a46 done+1)=true:=a1q (by omega);have w1:wrap .i64 (A:Int)=(A:Int):=a0f (by omega);have w2:wrap .i64 (B:Int)=(B:Int):=a0f (by omega);have w3:wrap .i64 ((A:Int)+1)=(A:Int)+1:=a0f (by omega);have hw:wrap .u64 ((done.length:Int)+1)=(((done++[((A:Int)+1,(B:Int),u)]).length:Nat):Int):=by rw[a0G (by omega)];simp
  rw[a0q (s':=((wd:Int),ok,(N:Int),(((done++[((A:Int)+1,(B:Int),u)]).length:Nat):Int),rdr (P++pb (A:Int) 5++pb (B:Int) 4) (a8N st++R),(k,w,0,0,0,[],[0,0,0],done++[((A:Int)+1,(B:Int),u)],[],(0,[],()),[],()),())) (by
    simp only[a7I,d,cT,g1,oB,g2,hlm,w1,w2,w3,hw,a16])]
  rw[c2j hN k w st (done++[((A:Int)+1,(B:Int),u)]) _ R h.2 (by simp;omega) hok2.shift];simp[a8N]
theorem c5s{x:Int}(h:b7o x=true):b7u 8 x:=by
 simp only[b7o,bA,dT]at h;unfold b7u;omega
theorem d3R{wd:Nat}{k w g:Int}{a b c:Int}(ha:b7o a=true)(hb:b7o b=true)(hc:b7o c=true){P R:List Int}(hok:OkR P (sB 8 [a,b,c]++R)):
  a0h a4i ((wd:Int),(0:Int),rdr P (sB 8 [a,b,c]++R),(k,w,0,0,g,[],[0,0,0],[],[],(0,[],()),[],()),()) =
   some ((wd:Int),rdr (P++sB 8 [a,b,c]) R,(k,w,0,0,g,[],[a,b,c],[],[],(0,[],()),[],()),()):=by
 have e:sB 8 [a,b,c]++R=pb (a0H a 8) 8++(pb (a0H b 8) 8++(pb (a0H c 8) 8++R)):=by simp[sB]
 rw[e]at hok⊢;have g1:a1f (rdr P (pb (a0H a 8) 8++(pb (a0H b 8) 8++(pb (a0H c 8) 8++R))),(8:Int))=_:=b1v (n:=8) (by omega) (c5s ha) hok;have hok2:=hok.shift;have g2:a1f (rdr (P++pb (a0H a 8) 8) (pb (a0H b 8) 8++(pb (a0H c 8) 8++R)),(8:Int))=_:=b1v (n:=8) (by omega) (c5s hb) hok2;have hok3:=hok2.shift;have g3:a1f (rdr (P++pb (a0H a 8) 8++pb (a0H b 8) 8) (pb (a0H c 8) 8++R),(8:Int))=_:=b1v (n:=8) (by omega) (c5s hc) hok3;have w0:wrap .i64 ((0:Int)+1)=1:=by decide
 have w1:wrap .i64 ((1:Int)+1)=2:=by decide
 have w2:wrap .i64 ((2:Int)+1)=3:=by decide
 have d0:decide ((0:Int)<3)=true:=by decide
 have d0':decide ((0:Int)≤0)=true:=by decide
 have d1:decide ((1:Int)<3)=true:=by decide
 have d1':decide ((0:Int)≤1)=true:=by decide
 have d2:decide ((2:Int)<3)=true:=by decide
 have d2':decide ((0:Int)≤2)=true:=by decide
 have d3:decide ((3:Int)<3)=false:=by decide
 rw[a0q (s':=((wd:Int),(1:Int),rdr (P++pb (a0H a 8) 8) (pb (a0H b 8) 8++(pb (a0H c 8) 8++R)),(k,w,0,0,g,[],[a,0,0],[],[],(0,[],()),[],()),())) (by
  simp only[a4i,d0,d0',a02,cT,g1,oB,w0];rfl)]
 rw[a0q (s':=((wd:Int),(2:Int),rdr (P++pb (a0H a 8) 8++pb (a0H b 8) 8) (pb (a0H c 8) 8++R),(k,w,0,0,g,[],[a,b,0],[],[],(0,[],()),[],()),())) (by
  simp only[a4i,d1,d1',a02,cT,g2,oB,w1];rfl)]
 rw[a0q (s':=((wd:Int),(3:Int),rdr (P++pb (a0H a 8) 8++pb (a0H b 8) 8++pb (a0H c 8) 8) R,(k,w,0,0,g,[],[a,b,c],[],[],(0,[],()),[],()),())) (by
  simp only[a4i,d2,d2',a02,cT,g3,oB,w2];rfl)]
 rw[a0o (b:=((wd:Int),rdr (P++pb (a0H a 8) 8++pb (a0H b 8) 8++pb (a0H c 8) 8) R,(k,w,0,0,g,[],[a,b,c],[],[],(0,[],()),[],()),())) (by
  simp only[a4i,d3,cF])]
 simp[sB]
end Go.Ab
namespace Go.Ab
open IntKind(wrap)
theorem d2r{s:Sub}{n:Int}(hs:a1G s n)(ht:s.2.2.2.2.2.2.1.length=3){P R:List Int}(hok:OkR P (b6N s++(a5P s++R))):
  b0R (rdr P (b6N s++(a5P s++R)))=some (a4K s,((a0l s.2.2.2.2.2.2.2.2.1:Nat):Int),true,rdr (P++(b6N s++a5P s)) R):=by
 obtain⟨-,-,hf,ha,hw0,hw30,-,-,hww,-⟩:=hs;obtain⟨k,w,o,sh,g,c,t,st,wm,pr,re,u⟩:=s;have hk:=b9d hf;simp only at hk hw0 hw30 hww ht;have hwd:=a2B hww;obtain⟨K,rfl⟩:=a00 hk.1;obtain⟨W,rfl⟩:=a00 hw0;unfold b6N at hok⊢;simp only[aA]at hok⊢;have g1:a0k (rdr P (pb (K:Int) 3++(pb (W:Int) 5++(pb ((a0l wm:Nat):Int) 5++(a5P ((K:Int),(W:Int),o,sh,g,c,t,st,wm,pr,re,u)++R)))),(3:Int))=_:=a4x (v:=K) (n:=3) (by omega) (by omega) hok;have hok2:=hok.shift;have g2:a0k (rdr (P++pb (K:Int) 3) (pb (W:Int) 5++(pb ((a0l wm:Nat):Int) 5++(a5P ((K:Int),(W:Int),o,sh,g,c,t,st,wm,pr,re,u)++R))),(5:Int))=_:=a4x (v:=W) (n:=5) (by omega) (by omega) hok2;have hok3:=hok2.shift;have g3:a0k (rdr (P++pb (K:Int) 3++pb (W:Int) 5) (pb ((a0l wm:Nat):Int) 5++(a5P ((K:Int),(W:Int),o,sh,g,c,t,st,wm,pr,re,u)++R)),(5:Int))=_:=a4x (v:=a0l wm) (n:=5) (by omega) (by omega) hok3;have hok4:=hok3.shift;have wK:wrap .i64 (K:Int)=(K:Int):=a0f (by omega);have wW:wrap .i64 (W:Int)=(W:Int):=a0f (by omega);have wd:wrap .i64 ((a0l wm:Nat):Int)=((a0l wm:Nat):Int):=a0f (by omega);unfold b0R;rw[g1];simp only[oB];rw[g2];simp only[oB];rw[g3];simp only[oB,wK,wW,wd];generalize hX:P++pb (K:Int) 3++pb (W:Int) 5++pb ((a0l wm:Nat):Int) 5=X at hok4⊢;have hX':∀B:List Int,P++(pb (K:Int) 3++(pb (W:Int) 5++(pb ((a0l wm:Nat):Int) 5++B)))=X++B:=fun B=>by rw[←hX];simp
 rw[hX'];obtain⟨a1,a2,a3,a4,a5,a6⟩:=ha;simp only at a1 a2 a3 a4 a5 a6;clear g1 g2 g3 hok hok2 hok3 hX hX';rcases hf with h|h|⟨h,h1,h2,-⟩|⟨h,h1,-⟩|⟨h,h1,-,h3⟩|⟨h,h1,h2⟩
 
 simp only at h;obtain rfl:=a1 (by omega);obtain rfl:=a2 (by omega);obtain rfl:=a3 (by omega);obtain rfl:=a4 (by omega);obtain rfl:=a5 (by omega);obtain rfl:=a6 (by omega);rw[h];have hb:a5P ((0:Int),(W:Int),0,0,0,[],[0,0,0],[],wm,pr,re,u)=[]:=rfl;rw[hb,a06,a25];rfl;simp only at h;obtain rfl:=a1 (by omega);obtain rfl:=a2 (by omega);obtain rfl:=a3 (by omega);obtain rfl:=a4 (by omega);obtain rfl:=a5 (by omega);obtain rfl:=a6 (by omega);rw[h];have hb:a5P ((1:Int),(W:Int),0,0,0,[],[0,0,0],[],wm,pr,re,u)=[]:=rfl;rw[hb,a06,a25];rfl;simp only at h h1 h2;obtain rfl:=a2 (by omega);obtain rfl:=a3 (by omega);obtain rfl:=a4 (by omega);obtain rfl:=a5 (by omega);obtain rfl:=a6 (by omega);rw[h]at hok4⊢;obtain⟨O,rfl⟩:=a00 h1;have hb:a5P ((2:Int),(W:Int),(O:Int),0,0,[],[0,0,0],[],wm,pr,re,u)=pb (O:Int) 3:=rfl;rw[hb]at hok4⊢;have e:((2:Int)==2)=true:=rfl;have g4:a0k (rdr X (pb (O:Int) 3++R),(3:Int))=_:=a4x (v:=O) (n:=3) (by omega) (by omega) hok4;have wO:wrap .i64 (O:Int)=(O:Int):=a0f (by omega);simp only[e,cT,g4,oB,wO];rfl;simp only at h h1;obtain rfl:=a1 (by omega);obtain rfl:=a3 (by omega);obtain rfl:=a4 (by omega);obtain rfl:=a6 (by omega);rw[h]at hok4⊢;have hb:a5P ((3:Int),(W:Int),0,sh,0,c,[0,0,0],[],wm,pr,re,u)=a8q ((3:Int),(W:Int),0,sh,0,c,[0,0,0],[],wm,pr,re,u):=rfl;rw[hb]at hok4⊢;have e2:((3:Int)==2)=false:=rfl;have e4:((3:Int)==4)=false:=rfl;have e3:((3:Int)==3)=true:=rfl;have g4:=c2g (s:=((3:Int),(W:Int),0,sh,0,c,[0,0,0],[],wm,pr,re,u)) (s0:=((3:Int),(W:Int),0,0,0,[],a01 3 0,[],[],(0,[],()),[],())) h1 rfl hok4;simp only[e2,e3,e4,cT,cF,oB]
 erw[g4]
 rfl
 ·simp only at h h1 h3;obtain rfl:=a1 (by omega);obtain rfl:=a6 (by omega);rw[h]at hok4⊢;simp only[b3C,bA,dT]at h3;obtain⟨h3,h5,h6⟩:=h3;obtain⟨A,hA⟩:=a00 (show 0≤g-1 by omega);obtain rfl:g=(A:Int)+1:=by omega
  obtain⟨x,y,z,rfl⟩:∃x y z,t=[x,y,z]:=by
   match t,ht with
   | [x,y,z],_=>exact⟨x,y,z,rfl⟩
  simp only[a08,List.all_nil,Bool.and_true,bA]at h6;have hb:a5P ((4:Int),(W:Int),0,sh,(A:Int)+1,c,[x,y,z],[],wm,pr,re,u)=pb (A:Int) 10++(sB 8 [x,y,z]++a8q ((4:Int),(W:Int),0,sh,(A:Int)+1,c,[x,y,z],[],wm,pr,re,u)):=by
   show pb ((A:Int)+1-1) 10++_=_;rw[hA]
  rw[hb]at hok4⊢;simp only[aA]at hok4⊢;have e2:((4:Int)==2)=false:=rfl;have e4:((4:Int)==4)=true:=rfl;have g4:a0k (rdr X (pb (A:Int) 10++(sB 8 [x,y,z]++(a8q ((4:Int),(W:Int),0,sh,(A:Int)+1,c,[x,y,z],[],wm,pr,re,u)++R))),(10:Int))=_:=a4x (v:=A) (n:=10) (by omega) (by omega) hok4;have hok5:=hok4.shift;have wA:wrap .i64 (A:Int)=(A:Int):=a0f (by omega);have wA1:wrap .i64 ((A:Int)+1)=(A:Int)+1:=a0f (by omega);have g5:=d3R (wd:=a0l wm) (k:=4) (w:=(W:Int)) (g:=(A:Int)+1) h6.1 h6.2.1 h6.2.2 hok5;have g6:=c2g (s:=((4:Int),(W:Int),0,sh,(A:Int)+1,c,[x,y,z],[],wm,pr,re,u)) (s0:=((4:Int),(W:Int),0,0,(A:Int)+1,[],[x,y,z],[],[],(0,[],()),[],())) h1 rfl hok5.shift;simp only[e2,e4,cT,cF,g4,oB,wA,wA1]
  erw[g5]
  simp only[oB]
  erw[g6]
  simp only[oB,a4K,b7v,c5r,aA]
 simp only at h h1 h2;obtain rfl:=a1 (by omega);obtain rfl:=a2 (by omega);obtain rfl:=a3 (by omega);obtain rfl:=a4 (by omega);obtain rfl:=a5 (by omega);rw[h]at hok4⊢;simp only[b0x,bA,dT]at h2;have hb:a5P ((5:Int),(W:Int),0,0,0,[],[0,0,0],st,wm,pr,re,u)=pb ((st.length:Nat):Int) 2++a8N st:=rfl;rw[hb]at hok4⊢;simp only[aA]at hok4⊢;have e2:((5:Int)==2)=false:=rfl;have e4:((5:Int)==4)=false:=rfl;have e3:((5:Int)==3)=false:=rfl;have e5:((5:Int)==5)=true:=rfl;have g4:a0k (rdr X (pb ((st.length:Nat):Int) 2++(a8N st++R)),(2:Int))=_:=a4x (v:=st.length) (n:=2) (by omega) (by omega) hok4;have g5:=c2j (wd:=a0l wm) (ok:=true) (N:=st.length) (by omega) (5:Int) (W:Int) st [] _ R h2.2 (by simp) hok4.shift;simp only[a19,nZ,a06,a17]at g5;simp only[e2,e3,e4,e5,cT,cF,oB]
 erw[g4]
 simp only[oB]
 erw[g5]
 simp only[oB,a4K,aA]
end Go.Ab
namespace Go.Ab
open IntKind(wrap)
def a9z(s:Sub)(zn:List Nat):List Int:=
 (b6N s++a5P s)++(sB (a0l s.2.2.2.2.2.2.2.2.1) s.2.2.2.2.2.2.2.2.1++if s.1=0∨s.1=1 then[]else a7z s.2.2.2.2.2.2.2.2.2.1 zn s.2.2.2.2.2.2.2.2.2.2.1)
theorem c2k{s:Sub}{n:Int}(hs:a1G s n){zn:List Nat}(hz:s.1≠0∧s.1≠1→PartsOk s.2.2.2.2.2.2.2.2.2.1 n ((s.2.2.2.2.2.2.2.2.1.length:Nat):Int) s.2.2.2.2.2.2.2.2.2.2.1 zn)(L:List Int):
  a6c s zn L=L++a9z s zn:=by
 obtain⟨-,-,hf,-,h5,h6,-,-,hw,-⟩:=hs;have hwd:=a2B hw;have hh:=d3Q (b9d hf) ⟨h5,h6⟩ hw L;unfold a6c a9z
 by_cases hk:s.1=0∨s.1=1
 rw[if_pos hk,if_pos hk,b1w (by omega),c6q hf,hh]
 simp
 rw[if_neg hk,if_neg hk,c6T (hz (not_or.1 hk)),b1w (by omega),c6q hf,hh]
 simp
def a8O(s:Sub)(l:List Int):Sub:=(s.1,s.2.1,s.2.2.1,s.2.2.2.1,s.2.2.2.2.1,s.2.2.2.2.2.1,s.2.2.2.2.2.2.1,s.2.2.2.2.2.2.2.1,l,s.2.2.2.2.2.2.2.2.2)
theorem c6r{wd:Nat}(hn:wd≤62){N:Nat}(hN:N<1000000)(n:Int)(ok:Bool)(z s:Sub):∀(l done P R:List Int),(∀x∈l,b7u wd x)→done.length+l.length=N→OkR P (sB wd l++R)→
  a0h b2b (n,(wd:Int),ok,(N:Int),(done.length:Int),rdr P (sB wd l++R),z,a8O s done,())=some (n,(wd:Int),ok,rdr (P++sB wd l) R,z,a8O s (done++l),())
 | [],done,P,R,_,hl,_=>by
  have:done.length=N:=by simpa using hl
  subst this;have d:decide ((done.length:Int)<(done.length:Int))=false:=by simp
  rw[a0o (b:=(n,(wd:Int),ok,rdr P R,z,a8O s done,())) (by simp only[b2b,d,cF];simp[sB])];simp[sB]
 |x::l,done,P,R,h,hl,hok=>by
  rw[lC]at hl;rw[c5q]at hok⊢;have d:decide ((done.length:Int)<(N:Int))=true:=by simp;omega
  have h1:=b1v hn (h x (by simp)) hok;have hlm:lim (a46 done+1)=true:=a1q (by omega);have hw:wrap .i64 ((done.length:Int)+1)=(((done++[x]).length:Nat):Int):=by rw[a0f (by omega)];simp
  rw[a0q (s':=(n,(wd:Int),ok,(N:Int),(((done++[x]).length:Nat):Int),rdr (P++pb (a0H x wd) wd) (sB wd l++R),z,a8O s (done++[x]),())) (by
   simp only[b2b,d,cT,h1,oB,a8O,hlm,hw,a16])]
  rw[c6r hn hN n ok z s l (done++[x]) _ R (fun y hy=>h y (by simp[hy])) (by simp;omega) hok.shift];simp[sB]
theorem d2s{s:Sub}(h:SmallS s):SmallS (a4K s) where
 coefs:=h.coefs
 taps:=h.taps
 stages:=h.stages
 warm:=by show([]:List Int).length≤5000;simp
 rest:=by show([]:List Int).length≤5000;simp
 ks:=by show([]:List Int).length≤_;simp
theorem d7b{s:Sub}(h:SmallS s){n:Int}(ho:(a2Q s n).isSome=true){zn:List Nat}(hz:s.1≠0∧s.1≠1→PartsOk s.2.2.2.2.2.2.2.2.2.1 n ((s.2.2.2.2.2.2.2.2.1.length:Nat):Int) s.2.2.2.2.2.2.2.2.2.2.1 zn)
  {P R:List Int}(hok:OkR P (a9z s zn++R)):b4a (rdr P (a9z s zn++R),n)=some (s,(0:Int),rdr (P++a9z s zn) R):=by
 have hs:=b7t ho;have hhead:=@d2r s n hs h.taps P;have hs':=hs;obtain⟨h1,h2,hf,-,-,-,-,hwl,hww,-,hno,-⟩:=hs';have hwd:=a2B hww;have hwlen:=h.warm;have d1:decide (n<1)=false:=by simp;omega
 have d2:decide (n > 4096)=false:=by simp;omega
 have hzr:∀A B:List Int,(rdr A B).2.2.1=0:=fun _ _=>rfl;have hfit:a9o ((a4K s).1,a4K s,n)=some true:=by
  rw[b7Z (d2s h)];unfold b5Y
  have:a4I (a4K s).1 (a4K s) n:=hf
  simp only[this,decide_true]
 have hwarm:a5w (a4K s,n)=some ((s.2.2.2.2.2.2.2.2.1.length:Nat):Int):=by
  rw[b1t]
  have:a2F (a4K s) n=a2F s n:=rfl
  rw[this,←hwl]
 have hmay:=c3Q h n;rw[ho]at hmay;have hwidth:a1F s.2.2.2.2.2.2.2.2.1=some ((a0l s.2.2.2.2.2.2.2.2.1:Nat):Int):=a2U (by unfold short;omega);unfold b4a a0x;unfold a9z at hok⊢;simp only[aA]at hok⊢;have hok1:OkR (P++(b6N s++a5P s)) (sB (a0l s.2.2.2.2.2.2.2.2.1) s.2.2.2.2.2.2.2.2.1++((if s.1=0∨s.1=1 then[]else a7z s.2.2.2.2.2.2.2.2.2.1 zn s.2.2.2.2.2.2.2.2.2.2.1)++R)):=OkR.shift (by rw[aA];exact hok)
 have hW:=fun(ok:Bool) (z:Sub)=>c6r (wd:=a0l s.2.2.2.2.2.2.2.2.1) (by omega) (N:=s.2.2.2.2.2.2.2.2.1.length) (by omega) n ok z (a4K s) s.2.2.2.2.2.2.2.2.1 [] _ _ (b9f hww) (by simp) hok1;simp only[a19,nZ,a06,a17]at hW;simp only[d1,d2,cF,hzr,bne_self_eq_false,oB];rw[hhead hok];simp only[hzr,bne_self_eq_false,cF,oB,hfit,bT,hwarm];rw[show((a4K s:Sub))=a8O (a4K s) []from rfl]
 erw[hW]
 simp only[oB,hzr,bne_self_eq_false,cF];rw[show(a8O (a4K s) s.2.2.2.2.2.2.2.2.1).1=s.1 from rfl,a7w];simp only[oB]
 by_cases hk:s.1=0∨s.1=1
 have hd:decide (s.1≠0∧s.1≠1)=false:=by simp only[decide_eq_false_iff_not];omega
 have hsub:a8O (a4K s) s.2.2.2.2.2.2.2.2.1=s:=by
  obtain⟨e1,e2,e3⟩:=hno hk;obtain⟨k,w,o,sh,g,c,t,st,wm,⟨p1,p2,u1⟩,re,u⟩:=s;simp only at e1 e2 e3;subst e1 e2 e3;rfl
 rw[hsub];simp only[hd,cF,bT,hwidth,oB,bne_self_eq_false,hmay,if_pos hk,a06,a25]
 simp
 have hd:decide (s.1≠0∧s.1≠1)=true:=by simp only[dT];omega
 have hp:=hz (not_or.1 hk);have hok2:=hok1.shift;rw[if_neg hk]at hok2;have hget:=c8T hp hok2;simp only[hd,cT,if_neg hk];rw[show(a8O (a4K s) s.2.2.2.2.2.2.2.2.1).2.2.2.2.2.2.2.2.1=s.2.2.2.2.2.2.2.2.1 from rfl]
 erw[hget]
 have hz0:((0:Int) != 0)=false:=rfl;simp only[oB,hz0,cF,bT,hwidth,bne_self_eq_false];have hsub:((a8O (a4K s) s.2.2.2.2.2.2.2.2.1).1,(a8O (a4K s) s.2.2.2.2.2.2.2.2.1).2.1,(a8O (a4K s) s.2.2.2.2.2.2.2.2.1).2.2.1,(a8O (a4K s) s.2.2.2.2.2.2.2.2.1).2.2.2.1,(a8O (a4K s) s.2.2.2.2.2.2.2.2.1).2.2.2.2.1,(a8O (a4K s) s.2.2.2.2.2.2.2.2.1).2.2.2.2.2.1,(a8O (a4K s) s.2.2.2.2.2.2.2.2.1).2.2.2.2.2.2.1,(a8O (a4K s) s.2.2.2.2.2.2.2.2.1).2.2.2.2.2.2.2.1,s.2.2.2.2.2.2.2.2.1,s.2.2.2.2.2.2.2.2.2.1,s.2.2.2.2.2.2.2.2.2.2.1,(a8O (a4K s) s.2.2.2.2.2.2.2.2.1).2.2.2.2.2.2.2.2.2.2.2)=s:=rfl
 erw[hsub]
 simp only[hmay,oB,bT,cF]
 simp
end Go.Ab
namespace Go.Ab
open IntKind(wrap)
theorem d9y(y:Int):bits .u64 .and y 1=y%2:=by
 have h:((a04 64 y) &&& (a04 64 1)).toNat=(y%18446744073709551616).toNat%2:=by
  rw[a59,a31];have e:(a04 64 1).toNat=2^1-1:=by decide
  rw[e,a74];rfl
 show wrap .u64 ((((a04 64 y) &&& (a04 64 1)).toNat:Nat):Int)=_;rw[h,a0G (by omega)];omega
theorem a2G(v:Int):∀n,a1K (pb v n)
 |0=>fun b hb=>by cases hb
 |n+1=>fun b hb=>by
  rcases mC.1 hb with rfl|hb;unfold a7P;rw[d9y,b2j];omega;exact a2G v n b hb
theorem d0u(n:Nat):a1K (unB n):=fun b hb=>by
 rcases mA.1 hb with hb|hb;exact .inl (b04.1 hb).2;exact .inr (by simpa using hb)
theorem b6O{α:Type}{f:α→List Int}{l:List α}(h:∀x,a1K (f x)):a1K (l.flatMap f):=fun b hb=>by
 obtain⟨x,-,hx⟩:=b26.1 hb;exact h x b hx
theorem d3S(k:Nat)(x:Int):a1K (b0X k x):=by
 unfold b0X;split;exact(d0u _).app (a2G _ _);exact(d0u _).app (a2G _ _)
theorem c1n(n:Nat)(l:List Int):a1K (sB n l):=b6O fun _=>a2G _ _
theorem d3T(k:Int)(l:List Int):a1K (b2q k l):=by
 unfold b2q;split;exact(a2G _ _).app ((a2G _ _).app (c1n _ _));exact(a2G _ _).app (b6O fun _=>d3S _ _)
theorem b9g:a1K []:=fun b hb=>by cases hb
theorem c4n:∀(zs:List Nat)(ks l:List Int),a1K (a2h zs ks l)
 |z::zs,k::ks,l=>by
  simp only[a2h];exact(d3T _ _).app (c4n zs ks _)
 | [],_,_=>by simp only[a2h];exact b9g
 |_::_,[],_=>by simp only[a2h];exact b9g
theorem c4o(s:Sub):a1K (a8q s):=(a2G _ _).app ((a2G _ _).app ((a2G _ _).app (c1n _ _)))
theorem d3U(s:Sub):a1K (a5P s):=by
 unfold a5P;split;exact a2G _ _;split;exact c4o s;split;exact(a2G _ _).app ((c1n _ _).app (c4o s));split;exact(a2G _ _).app (b6O fun _=>(a2G _ _).app (a2G _ _));exact b9g
theorem d5q(s:Sub)(zn:List Nat):a1K (a9z s zn):=by
 refine(((a2G _ _).app ((a2G _ _).app (a2G _ _))).app (d3U s)).app ((c1n _ _).app ?_);split;exact b9g;exact(a2G _ _).app (c4n _ _ _)
theorem d5r{s:Sub}(h:SmallS s){n:Int}(ho:(a2Q s n).isSome=true){L:List Int}(hL:L.length<50000000):
  ∃zn,b1r (wL L,s,n)=some (0,wL (L++a9z s zn))∧a4X (s,n)=some (((a9z s zn).length:Nat):Int)∧(a9z s zn).length≤700000∧
   (s.1≠0∧s.1≠1→PartsOk s.2.2.2.2.2.2.2.2.2.1 n ((s.2.2.2.2.2.2.2.2.1.length:Nat):Int) s.2.2.2.2.2.2.2.2.2.2.1 zn):=by
 obtain⟨e,L',h1,-,h3,h4,-⟩:=b8P h (n:=n) (L:=L) (by omega);obtain⟨rfl,zn,rfl,hz⟩:=h4 ho;have hs:=b7t ho;rw[c2k hs hz]at h1 h3;refine⟨zn,h1,?_,by simp at h3;omega,hz⟩;rw[d0q h];unfold a4Z;rw[if_pos ho,←c5l hz,c2k hs hz]
 simp
theorem d7W{L:List Int}(hL:L.length<1000000000):b4M (wL L).1=some (rdr [] L):=by
 obtain⟨-,h⟩:=a6H L;unfold b4M;rw[a1q (by omega)];rfl
theorem d5s{L:List Int}(hL:L.length<1000000000):a5L (wL L)=some ((wL L).1,wL L):=by
 obtain⟨-,h⟩:=a6H L;unfold a5L;rw[a1q (by omega)];rfl
end Go.Ab
namespace Go.Ab
end Go.Ab
namespace Go.Ab
open IntKind(wrap)
def a0E(n:Nat):List Int:=if h:n<128 then[(n:Int)]else((n%128+128:Nat):Int)::a0E (n / 128)
termination_by n
decreasing_by omega
theorem b8m{n:Nat}(h:n<128):a0E n=[(n:Int)]:=by rw[a0E,dif_pos h]
theorem b8n{n:Nat}(h:¬ n<128):a0E n=((n%128+128:Nat):Int)::a0E (n / 128):=by rw[a0E,dif_neg h]
theorem c2N:∀(k n:Nat),n<128^(k+1)→1≤(a0E n).length∧(a0E n).length≤k+1
 |0,n,h=>by rw[b8m (by omega)];simp
 |k+1,n,h=>by
  by_cases hn:n<128
  rw[b8m hn];simp;rw[b8n hn]
  have:=c2N k (n / 128) (by rw[a73 (by omega)];rw[a58]at h;exact h)
  simp only[lC];omega
theorem d0v:∀(k n:Nat)(a:List Int)(b c:Int)(out:List Int),n<128^(k+1)→k≤8→out.length+k<1000000→
  ∃r pre,a0h a9P ((n:Int),a,b,c,out,())=some (((r:Nat):Int),a,b,c,out++pre,())∧a0E n=pre++[(r:Int)]∧r<128
 |k,n,a,b,c,out,h,hk,ho=>by
  by_cases hn:n<128
  refine⟨n,[],?_,by rw[b8m hn];rfl,hn⟩;rw[a0o (b:=((n:Int),a,b,c,out,())) (by
   have d:decide ((n:Int)≥128)=false:=by simp;omega
   simp only[a9P,d,cF])]
  simp
  ·cases k with
   |zero=>omega
   |succ k=>
    have hd:n / 128<128^(k+1):=by rw[a73 (by omega)];rw[a58]at h;exact h
    have hn64:n<18446744073709551616:=by
     have:128^(k+1+1)≤128^9:=a20 (by omega) (by omega)
     have e:(128:Nat)^9=9223372036854775808:=by decide
     omega
    obtain⟨r,pre,h1,h2,h3⟩:=d0v k (n / 128) a b c (out++[((n%128+128:Nat):Int)]) hd (by omega) (by simp;omega);refine⟨r,((n%128+128:Nat):Int)::pre,?_,by rw[b8n hn,h2];rfl,h3⟩;have d:decide ((n:Int)≥128)=true:=by simp;omega
    have e1:wrap .u64 (a68 (n:Int) 128)=((n / 128:Nat):Int):=by
     rw[show a68 (n:Int) 128=((n / 128:Nat):Int)from rfl];exact a0G (by omega)
    have e2:wrap .u8 (wrap .u8 (a43 (n:Int) 128)+128)=((n%128+128:Nat):Int):=by
     rw[show a43 (n:Int) 128=((n%128:Nat):Int)from rfl,b2j,b2j];omega
    rw[a0q (s':=(((n / 128:Nat):Int),a,b,c,out++[((n%128+128:Nat):Int)],())) (by
     simp only[a9P,d,cT,a1q (show out.length+1<2147483648 by omega),e1,e2,a16])]
    rw[h1]
    simp
theorem b6h{α β γ:Type}(f:α→List γ):∀(l:List α)(a:List γ),a3G (β:=β) (fun a x=>.inl (a++f x)) l a=.inl (a++l.flatMap f)
 | [],a=>by simp[a3G]
 |x::l,a=>by simp only[a3G];rw[b6h f l];simp
def asI(ns:List Nat):List Int:=ns.map fun n:Nat=>(n:Int)
theorem c8U{ns:List Nat}(h:∀n∈ns,n<9223372036854775808)(hl:ns.length≤1000):b3q (asI ns)=some (ns.flatMap a0E):=by
 have hlen:(asI ns).length=ns.length:=by simp[asI]
 have:=a2x (f:=a9Q) (asI ns) (fun i (a:List Int)=>(asI ns,((asI ns).length:Int),(i:Int),a,())) (fun a x=>.inl (a++a0E x.toNat)) (fun i a=>a.length≤10*i) (fun a=>(a,()))
  (fun i hi a ha=>⟨fun a' ha'=>by
   have hi':i<ns.length:=by omega
   have hx:(asI ns)[i]=((ns[i]:Nat):Int):=by simp[asI]
   have hb:=h ns[i] (a09 hi');have hb9:ns[i]<128^(8+1):=by rw[show(128:Nat)^(8+1)=9223372036854775808 from by decide];exact hb
   obtain⟨r,pre,h1,h2,h3⟩:=d0v 8 ns[i] (asI ns) ((asI ns).length:Int) (i:Int) a hb9 (a42 _) (by omega);have hv:=c2N 8 ns[i] hb9;rw[h2]at hv;simp only[lN,lC,a19]at hv;simp only[hx,tN,h2,Sum.inl.injEq]at ha';subst ha';have e:wrap .u8 (r:Int)=(r:Int):=by rw[b2j];omega
   refine⟨?_,by simp;omega⟩;simp only[a9Q,dlt hi,cT,a0c hi,hx,oB,h1,a1q (show(a++pre).length+1<2147483648 by simp;omega),a0d (show i<1000000 by omega),e,a16,aA],fun b hb=>by cases hb⟩)
  (fun a ha=>by simp only[a9Q,dge,cF]) (a:=[]) (by simp)
 unfold b3q;simp only[nZ]at this;rw[this,b6h];simp[b0i,asI,List.flatMap_map]
theorem orA{a b k:Nat}(ha:a<2^k)(hs:b*2^k+a<18446744073709551616):bits .u64 .or (a:Int) ((b*2^k:Nat):Int)=((a+b*2^k:Nat):Int):=by
 show wrap .u64 (((a04 64 (a:Int) ||| a04 64 ((b*2^k:Nat):Int)).toNat:Nat):Int)=_;have h1:(a04 64 (a:Int)).toNat=a:=by rw[a31];omega
 have h2':(a04 64 ((b*2^k:Nat):Int)).toNat=b*2^k:=by rw[a31];omega
 rw[a63,h1,h2'];have e:a ||| b*2^k=a+b*2^k:=by
  have:=a56 (i:=k) (b:=a) ha b
  rw[Nat.or_comm,a79 b,←this,Nat.add_comm]
 rw[e];exact a0G (by omega)
theorem c2l{rest:List Int}:∀(j m i acc:Nat)(P:List Int),m<128^(j+1)→P.length=i→(i=0∨1≤m)→acc<2^(7*i)→m*2^(7*i)+acc<9223372036854775808→(P++(a0E m++rest)).length<1000000→
  a0h a6R ((acc:Int),P++(a0E m++rest),((P++(a0E m++rest)).length:Nat),(i:Int),())=some (.inr (((acc+m*2^(7*i):Nat):Int),((i+(a0E m).length:Nat):Int),(0:Int),()))
 |j,m,i,acc,P,hj,hP,hm,ha,hs,hl=>by
  have hi8:i≤8:=by
   rcases hm with h0|h1;omega;apply Classical.byContradiction;intro hi;have h2:2^(7*9)≤2^(7*i):=a20 (by omega) (by omega);have h3:2^(7*i)≤m*2^(7*i):=Nat.le_mul_of_pos_left _ (by omega);have e:(2:Nat)^(7*9)=9223372036854775808:=by decide
   omega
  have hw7:wrap .i64 ((7:Int)*(i:Int))=((7*i:Nat):Int):=by rw[a0f (by omega)];omega
  have hwn:decide ((((7*i:Nat):Int))<0)=false:=by simp;omega
  have hwi:wrap .i64 ((i:Int)+1)=((i+1:Nat):Int):=a0d (by omega);have d9:∀c:Nat,c<256→(i=9→False):=fun _ _ h=>by omega
  have h9:((i:Int)==9)=false:=by simp;omega
  have step:∀(c:Nat)(tl:List Int),c<256→a0E m=(c:Int)::tl→(i=0∨c≠0)→
    a6R ((acc:Int),P++(a0E m++rest),((P++(a0E m++rest)).length:Nat),(i:Int),()) =
     bif decide ((c:Int)<128)then some (.inr (Sum.inr (bits .u64 .or (acc:Int) (a0z .u64 (wrap .u64 (a43 (c:Int) 128)) ((7*i:Nat):Int)),((i+1:Nat):Int),(0:Int),())))
     else some (.inl (bits .u64 .or (acc:Int) (a0z .u64 (wrap .u64 (a43 (c:Int) 128)) ((7*i:Nat):Int)),P++(a0E m++rest),((P++(a0E m++rest)).length:Nat),((i+1:Nat):Int),())):=fun c tl hc hv h0=>by
   have hlt:i<(P++(a0E m++rest)).length:=by rw[hv];simp;omega
   have hg:a0p (P++(a0E m++rest)) (i:Int)=some (c:Int):=by
    rw[a0c hlt];congr 1;subst hP;simp[hv]
   have hz:(decide ((i:Int) > 0)=true→((c:Int)==0)=false):=fun h=>by
    simp only[dT]at h;simp only[beq_eq_false_iff_ne,ne_eq];omega
   simp only[a6R,dlt hlt,cT,hg,oB,h9,cF];cases hd:decide ((i:Int) > 0)with
   |true=>simp only[cT,oB,hz hd,cF,hw7,hwn,hwi]
   |false=>simp only[oB,cF,hw7,hwn,hwi]
  have val:∀c:Nat,c%128*2^(7*i)+acc<9223372036854775808→bits .u64 .or (acc:Int) (a0z .u64 (wrap .u64 (a43 (c:Int) 128)) ((7*i:Nat):Int))=((acc+c%128*2^(7*i):Nat):Int):=fun c hc=>by
   rw[show a43 (c:Int) 128=((c%128:Nat):Int)from rfl,a0G (by omega),b4g (by omega) (by omega)];exact orA ha (by omega)
  by_cases hm128:m<128
  rw[a0o (step m [] (by omega) (b8m hm128) (by omega) |>.trans (by
   have d:decide ((m:Int)<128)=true:=by simp;omega
   simp only[d,cT];rfl))]
  rw[val m (by rw[a28 hm128];exact hs),a28 hm128,b8m hm128];rfl
  ·cases j with
   |zero=>omega
   |succ j=>
    have hd:m / 128<128^(j+1):=by rw[a73 (by omega)];rw[a58]at hj;exact hj
    have hp7:2^(7*(i+1))=128*2^(7*i):=by rw[show 7*(i+1)=7+7*i from by omega,Nat.pow_add]
    have hmm:m*2^(7*i)=m%128*2^(7*i)+m / 128*2^(7*(i+1)):=by
     rw[hp7,←a99,←Nat.add_mul];congr 1;omega
    have hb:m%128*2^(7*i)≤127*2^(7*i):=a39 _ (by omega);rw[a0q (step (m%128+128) (a0E (m / 128)) (by omega) (b8n hm128) (by omega) |>.trans (by
     have d:decide (((m%128+128:Nat):Int)<128)=false:=by simp;omega
     simp only[d,cF];rfl))]
    rw[val (m%128+128) (by rw[b17,Nat.mod_mod];omega),b17,Nat.mod_mod];have e:P++(a0E m++rest)=(P++[((m%128+128:Nat):Int)])++(a0E (m / 128)++rest):=by rw[b8n hm128];simp
    rw[e]at hl⊢;have ih:=c2l j (m / 128) (i+1) (acc+m%128*2^(7*i)) (P++[((m%128+128:Nat):Int)]) hd (by simp[hP]) (.inr (by omega)) (by rw[hp7];omega) (by omega) hl;rw[ih,hmm,b8n hm128];congr 3;omega
    simp;omega
theorem d3V{n:Nat}(h:n<9223372036854775808){rest:List Int}(hl:(a0E n++rest).length<1000000):a9T (a0E n++rest)=some ((n:Int),(((a0E n).length:Nat):Int),(0:Int)):=by
 have:=c2l (rest:=rest) 8 n 0 0 [] (by rw[show(128:Nat)^(8+1)=9223372036854775808 from by decide];exact h) rfl (.inl rfl) (by simp) (by simpa using h) hl
 simp only[a06,nZ,Nat.mul_zero,Nat.pow_zero,b23,Nat.zero_add,a17]at this;unfold a9T;rw[this];rfl
end Go.Ab
namespace Go.Ab
open IntKind(wrap)
def ord(P R:List Int):List Int×(Int×Int×Unit):=(P++R,(P.length:Int),(0:Int),())
theorem b0z{n:Nat}(hn:n<9223372036854775808){most:Int}(hm:(n:Int)≤most){P R:List Int}(hl:(P++(a0E n++R)).length<1000000):
  a0Y (ord P (a0E n++R),most)=some ((n:Int),ord (P++a0E n) R):=by
 have hd:b32 (a35 (P.length:Int)) (b18 (P++(a0E n++R)).length (P++(a0E n++R)))=a0E n++R:=by
  rw[a29,tN,List.drop_left]
 have h0:((0:Int) != 0)=false:=rfl;have d1:decide ((0:Int)≤(P.length:Int))=true:=by simp
 have d2:decide ((P.length:Int)≤((P++(a0E n++R)).length:Int))=true:=by simp;omega
 have d3:decide ((n:Int) > most)=false:=by simp;omega
 have hlv:(a0E n++R).length<1000000:=by rw[lN]at hl;omega
 have hw:wrap .i64 ((P.length:Int)+((a0E n).length:Int))=(((P++a0E n).length:Nat):Int):=by
  rw[a0f (by simp only[lN]at hl;omega)];simp
 unfold a0Y ord;simp only[h0,cF,d1,d2,a02,cT];rw[hd,d3V hn hlv];simp only[oB,beq_self_eq_true,cT,d3,cF,h0,hw,aA]
def b0m(g:Int):Nat:=if 0≤g then(2*g).toNat else(-2*g-1).toNat
theorem d7X{g:Int}(h:-100000≤g∧g≤100000):b3p g=some ((b0m g:Nat):Int):=by
 unfold b3p b0m
 by_cases hg:0≤g
 have d:decide (g≥0)=true:=by simpa using hg
 rw[d,cT,if_pos hg,a0G (n:=g) (by omega),a0G (by omega),a26 (by omega)];have d:decide (g≥0)=false:=by simp;omega
 rw[d,cF,if_neg hg,a0f (n:=g+1) (by omega),a0f (by omega),a0G (n:=0-(g+1)) (by omega),a0G (n:=2*(0-(g+1))) (by omega),a0G (by omega),a26 (by omega)];congr 1;omega
theorem c5t{g:Int}{m:Nat}(h:-(m:Int)≤g∧g≤(m:Int)):b0m g≤2*m:=by
 unfold b0m
 split<;>omega
theorem d7Y{g:Int}(h:-100000≤g∧g≤100000):b3t ((b0m g:Nat):Int)=some g:=by
 unfold b3t;have e1:a43 ((b0m g:Nat):Int) 2=((b0m g%2:Nat):Int):=rfl;have e2:a68 ((b0m g:Nat):Int) 2=((b0m g / 2:Nat):Int):=rfl;rw[e1,e2];unfold b0m
 by_cases hg:0≤g
 rw[if_pos hg];have d:((((2*g).toNat%2:Nat):Int)==0)=true:=by simp;omega
 rw[d,cT,a0G (by omega),a0f (by omega)];congr 1;omega;rw[if_neg hg];have d:((((-2*g-1).toNat%2:Nat):Int)==0)=false:=by simp;omega
 rw[d,cF,a0G (by omega),a0f (n:=(((-2*g-1).toNat / 2:Nat):Int)) (by omega),a0f (n:=0-(((-2*g-1).toNat / 2:Nat):Int)) (by omega),a0f (by omega)];congr 1;omega
def e8(s:Int):Int:=bif (a0C .u8 s 7)==(1:Int)then bits .u8 .xor (a0z .u8 s 1) 7 else a0z .u8 s 1
def e16(s:Int):Int:=bif (a0C .u16 s 15)==(1:Int)then bits .u16 .xor (a0z .u16 s 1) 32773 else a0z .u16 s 1
def rep{α:Type}(f:α→α):Nat→α→α
 |0,s=>s
 |n+1,s=>rep f n (f s)
def g8(s c:Int):Int:=rep e8 8 (bits .u8 .xor s c)
def g16(s c:Int):Int:=rep e16 8 (bits .u16 .xor s (a0z .u16 (wrap .u16 c) 8))
theorem c4p(l:List Int)(n i:Int):∀(j k:Nat)(s:Int),k+j=8→a0h b1Y (s,l,n,i,(k:Int),())=some (rep e8 j s,l,n,i,())
 |0,k,s,h=>by
  obtain rfl:k=8:=by omega
  exact a0o rfl
 |j+1,k,s,h=>by
  have d:decide ((k:Int)<8)=true:=by simp;omega
  rw[a0q (s':=(e8 s,l,n,i,((k+1:Nat):Int),())) (by
   simp only[b1Y,d,cT,a0d (show k<1000000 by omega),e8];cases (a0C .u8 s 7==1:Bool)<;>rfl)]
  exact c4p l n i j (k+1) (e8 s) (by omega)
theorem c0W(l:List Int)(n i:Int):∀(j k:Nat)(s:Int),k+j=8→a0h b0f (s,l,n,i,(k:Int),())=some (rep e16 j s,l,n,i,())
 |0,k,s,h=>by
  obtain rfl:k=8:=by omega
  exact a0o rfl
 |j+1,k,s,h=>by
  have d:decide ((k:Int)<8)=true:=by simp;omega
  rw[a0q (s':=(e16 s,l,n,i,((k+1:Nat):Int),())) (by
   simp only[b0f,d,cT,a0d (show k<1000000 by omega),e16];cases (a0C .u16 s 15==1:Bool)<;>rfl)]
  exact c0W l n i j (k+1) (e16 s) (by omega)
def b9h(l:List Int):Int:=l.foldl g8 0
def a3H(l:List Int):Int:=l.foldl g16 0
theorem c8V{l:List Int}(h:short l):a9r l=some (b9h l):=by
 have:=a2x (f:=a8U) (β:=Int×Unit) l (fun i (a:Int)=>(a,l,(l.length:Int),(i:Int),())) (fun a x=>.inl (g8 a x)) (fun _ _=>True) (fun a=>(a,()))
  (fun i hi a _=>⟨fun a' ha'=>by
   simp only[Sum.inl.injEq]at ha';subst ha'
   have:=c4p l (l.length:Int) (i:Int) 8 0 (bits .u8 .xor a l[i]) rfl
   simp only[nZ]at this;refine⟨?_,trivial⟩;simp only[a8U,dlt hi,cT,a0c hi,oB,this,a0d (a57 hi h),g8],fun b hb=>by cases hb⟩)
  (fun a ha=>by simp only[a8U,dge,cF]) (a:=0) trivial
 unfold a9r;simp only[nZ]at this;rw[this,b9b];rfl
theorem c4q{l:List Int}(h:short l):a7d l=some (a3H l):=by
 have:=a2x (f:=a6P) (β:=Int×Unit) l (fun i (a:Int)=>(a,l,(l.length:Int),(i:Int),())) (fun a x=>.inl (g16 a x)) (fun _ _=>True) (fun a=>(a,()))
  (fun i hi a _=>⟨fun a' ha'=>by
   simp only[Sum.inl.injEq]at ha';subst ha'
   have:=c0W l (l.length:Int) (i:Int) 8 0 (bits .u16 .xor a (a0z .u16 (wrap .u16 l[i]) 8)) rfl
   simp only[nZ]at this;refine⟨?_,trivial⟩;simp only[a6P,dlt hi,cT,a0c hi,oB,this,a0d (a57 hi h),g16],fun b hb=>by cases hb⟩)
  (fun a ha=>by simp only[a6P,dge,cF]) (a:=0) trivial
 unfold a7d;simp only[nZ]at this;rw[this,b9b];rfl
theorem b5g(n:Int):wrap .u16 n=n%65536:=by simp[wrap,IntKind.bits,IntKind.signed]
theorem d3W(s:Int):0≤e16 s∧e16 s<65536:=by
 unfold e16;cases (a0C .u16 s 15==1:Bool);simp only[cF,a0z,b5g];omega;simp only[cT,bits,b5g];omega
theorem c2m(l:List Int):0≤a3H l∧a3H l<65536:=by
 unfold a3H;rcases a93 l with rfl|⟨L,b,rfl⟩
 simp
 rw[a94,List.foldl_append];exact d3W _
theorem e2z{v:Int}(h:0≤v∧v<65536):b3r (v,2)=some [v / 256,v%256]:=by
 have e1:wrap .u64 (a68 v 256)=v / 256:=by rw[a60 h.1];exact a0G (by omega)
 have e2:wrap .u8 (a43 v 256)=v%256:=by rw[a44 h.1,b2j];omega
 have e3:wrap .u8 (a43 (v / 256) 256)=v / 256:=by rw[a44 (by omega),b2j];omega
 have s0:a5A (v,(2:Int),(0:Int),([]:List Int),())=some (.inl (v / 256,(2:Int),(1:Int),[v%256],())):=by
  simp only[a5A,show decide ((0:Int)<2)=true from rfl,cT,a1q (show([]:List Int).length+1<2147483648 by simp),e1,e2];rfl
 have s1:a5A (v / 256,(2:Int),(1:Int),[v%256],())=some (.inl (wrap .u64 (a68 (v / 256) 256),(2:Int),(2:Int),[v%256,v / 256],())):=by
  simp only[a5A,show decide ((1:Int)<2)=true from rfl,cT,a1q (show([v%256]:List Int).length+1<2147483648 by simp),e3];rfl
 have hs:b0P (v,2)=some [v%256,v / 256]:=by
  unfold b0P b4u;simp only[oB];rw[show a3s (a2q (2:Int) 0) 8=2 from rfl,a0q s0,a0q s1,a0o (b:=([v%256,v / 256],())) rfl];rfl
 unfold b3r a3R;simp only[hs,oB];rfl
end Go.Ab
namespace Go.Ab
open IntKind(wrap)
@[reducible] def a0W:Type:=Int×(Int×(Int×Unit))
@[reducible] def a1L:Type:=Int×(Int×(a0W×(List a0W×(List Sub×Unit))))
@[reducible] def a1V:Type:=Int×(List (List Int)×Unit)
def a2t(n:Int)(s:a0W):Bool:=!(decide (s.1<0) || decide (s.1≥n) || decide (s.2.1<0) || decide (s.2.1≥n) || s.1==s.2.1)&&!(decide (s.2.2.1 < -1024) || decide (s.2.2.1 > 1024))
theorem a3Q{n:Int}{s:a0W}:a2t n s=true↔0≤s.1∧s.1<n∧0≤s.2.1∧s.2.1<n∧s.1≠s.2.1∧-1024≤s.2.2.1∧s.2.2.1≤1024:=by
 simp only[a2t,bA,a34,a97,decide_eq_false_iff_not,beq_eq_false_iff_ne];omega
def a5R(l:List a0W)(n:Int):Prop:=1≤n∧n≤8∧l.length≤16∧l.all (a2t n)=true
instance (l:List a0W) (n:Int):Decidable (a5R l n):=by unfold a5R;infer_instance
theorem b7w(l:List a0W)(n:Int):a9I (l,n)=some (decide (a5R l n)):=by
 unfold a9I a5R
 by_cases h1:n<1
 have:¬ 1≤n:=by omega
 simp[h1,this]
 by_cases h2:n > 8
 have:¬ n≤8:=by omega
 simp[h1,h2,this]
 by_cases h3:((l.length:Nat):Int) > 16
 have:¬ l.length≤16:=by omega
 simp[h1,h2,h3,this];have hall:=a1N (f:=a8b) (β:=Unit ⊕ (Bool×Unit)) l (fun i=>(n,l,(l.length:Int),(i:Int),())) (a2t n) (bt:=Sum.inl ()) (bf:=Sum.inr (false,()))
  (fun i h hp=>by
   obtain⟨a1,a2,a3,a4,a5,a6,a7⟩:=a3Q.1 hp;have e1:decide (l[i].1<0)=false:=by simp;omega
   have e2:decide (l[i].1≥n)=false:=by simp;omega
   have e3:decide (l[i].2.1<0)=false:=by simp;omega
   have e4:decide (l[i].2.1≥n)=false:=by simp;omega
   have e5:(l[i].1==l[i].2.1)=false:=by simpa using a5
   have e6:decide (l[i].2.2.1 < -1024)=false:=by simp;omega
   have e7:decide (l[i].2.2.1 > 1024)=false:=by simp;omega
   simp only[a8b,dlt h,cT,a0c h,oB,e1,e2,e3,e4,e5,e6,e7,cF,a0d (show i<1000000 by omega)])
  (fun i h hp=>by
   simp only[a8b,dlt h,cT,a0c h,oB];unfold a2t at hp;generalize decide (l[i].1<0)=b1 at *;generalize decide (l[i].1≥n)=b2 at *;generalize decide (l[i].2.1<0)=b3 at *;generalize decide (l[i].2.1≥n)=b4 at *;generalize (l[i].1==l[i].2.1)=b5 at *;cases b1<;>cases b2<;>cases b3<;>cases b4<;>cases b5<;>simp at hp⊢;generalize hb6:decide (l[i].2.2.1 < -1024)=b6;cases b6;simp only[decide_eq_false_iff_not]at hb6
   have:1024<l[i].2.2.1:=hp (by omega)
   simp[this]
   simp)
  (by simp[a8b])
 simp only[nZ]at hall;have d3:decide (((l.length:Nat):Int) > 16)=false:=by simpa using h3
 have d1:decide (n<1)=false:=by simpa using h1
 have d2:decide (n > 8)=false:=by simpa using h2
 simp only[d1,d2,d3,cF,oB,hall];have e1:1≤n:=by omega
 have e2:n≤8:=by omega
 have e3:l.length≤16:=by omega
 by_cases hA:l.all (a2t n)=true
 rw[decide_eq_true (p:=1≤n∧n≤8∧l.length≤16∧l.all (a2t n)=true) ⟨e1,e2,e3,hA⟩,hA];rfl;rw[decide_eq_false (p:=1≤n∧n≤8∧l.length≤16∧l.all (a2t n)=true) (fun h=>hA h.2.2.2),b19.2 hA];rfl
def c2O(f:a0W):Prop:=1≤f.1∧f.1≤1048576∧1≤f.2.1∧f.2.1≤8∧4≤f.2.2.1∧f.2.2.1≤24
instance (f:a0W):Decidable (c2O f):=by unfold c2O;infer_instance
theorem b8o(f:a0W):a8a f=some (decide (c2O f)):=by
 unfold a8a a7Z c2O
 by_cases h1:1≤f.1<;>by_cases h2:f.1≤1048576<;>by_cases h3:1≤f.2.1<;>by_cases h4:f.2.1≤8<;>by_cases h5:4≤f.2.2.1<;>simp[h1,h2,h3,h4,h5]
def frP(f:a1L):Prop:=c2O f.2.2.1∧1≤f.2.1∧f.2.1≤4096∧0≤f.1∧f.1≤4194304-f.2.1∧a5R f.2.2.2.1 f.2.2.1.2.1
instance (f:a1L):Decidable (frP f):=by unfold frP;infer_instance
theorem b8p(f:a1L):a8c f=some (decide (frP f)):=by
 unfold a8c frP;rw[b8o,b7w]
 by_cases h1:c2O f.2.2.1<;>by_cases h2:1≤f.2.1<;>by_cases h3:f.2.1≤4096<;>by_cases h4:0≤f.1<;>simp[h1,h2,h3,h4]
 have hw:wrap .i64 ((4194304:Int)-f.2.1)=4194304-f.2.1:=a0f (by omega);rw[hw]
 by_cases h5:f.1≤4194304-f.2.1<;>simp[h5]
def a8r(s:a0W):List Nat:=[s.1.toNat,s.2.1.toNat,b0m s.2.2.1]
def a6B(s:a0W):List Int:=a0E s.1.toNat++(a0E s.2.1.toNat++a0E (b0m s.2.2.1))
def hb(f:a1L)(body:Nat):List Int:=
 [245,75]++(a0E f.1.toNat++(a0E f.2.1.toNat++(a0E f.2.2.1.1.toNat++(a0E f.2.2.1.2.1.toNat++(a0E f.2.2.1.2.2.1.toNat++(a0E f.2.2.2.1.length++(f.2.2.2.1.flatMap a6B++a0E body)))))))
def a2c(f:a1L)(body:Nat):List Int:=hb f body++[b9h (hb f body)]
theorem a8H{n:Nat}(h:n<9223372036854775808):1≤(a0E n).length∧(a0E n).length≤9:=c2N 8 n (by rw[show(128:Nat)^(8+1)=9223372036854775808 from by decide];exact h)
theorem d3X{n:Int}(hn:n≤8){s:a0W}(h:a2t n s=true):(a6B s).length≤27:=by
 obtain⟨a1,a2,a3,a4,a5,a6,a7⟩:=a3Q.1 h
 have:=c5t (m:=1024) ⟨a6,a7⟩
 have h1:=a8H (n:=s.1.toNat) (by omega);have h2:=a8H (n:=s.2.1.toNat) (by omega);have h3:=a8H (n:=b0m s.2.2.1) (by omega);simp only[a6B,lN];omega
theorem c6s{n:Int}(hn:n≤8):∀(l:List a0W),l.all (a2t n)=true→(l.flatMap a6B).length≤27*l.length
 | [],_=>by simp
 |s::l,h=>by
  simp only[a08,bA]at h
  have:=d3X hn h.1
  have:=c6s hn l h.2
  simp only[a67,lN,lC];omega
theorem c8W{f:a1L}(hf:frP f){body:Nat}(hb':body≤1048576):2≤(hb f body).length∧(hb f body).length≤600:=by
 obtain⟨⟨r1,r2,c1,c2,d1,d2⟩,l1,l2,s1,s2,m1,m2,m3,m4⟩:=hf;have h1:=a8H (n:=f.1.toNat) (by omega);have h2:=a8H (n:=f.2.1.toNat) (by omega);have h3:=a8H (n:=f.2.2.1.1.toNat) (by omega);have h4:=a8H (n:=f.2.2.1.2.1.toNat) (by omega);have h5:=a8H (n:=f.2.2.1.2.2.1.toNat) (by omega);have h6:=a8H (n:=f.2.2.2.1.length) (by omega);have h7:=a8H (n:=body) (by omega);have h8:=c6s m2 _ m4;simp only[hb,lN,lC,a19];omega
theorem d0w:∀l:List a0W,(l.flatMap a8r).length=3*l.length
 | []=>rfl
 |s::l=>by simp only[a67,lN,lC,d0w l];simp only[a8r,lC,a19];omega
theorem d0x(a b:List Nat):asI (a++b)=asI a++asI b:=by simp[asI]
theorem d2t{f:a1L}(hf:frP f){body:Nat}(hb':body≤1048576):a8V (f,(body:Int))=some (a2c f body):=by
 have hf':=hf;obtain⟨⟨r1,r2,c1,c2,d1,d2⟩,l1,l2,s1,s2,m1,m2,m3,m4⟩:=hf';have hall:∀s∈f.2.2.2.1,a2t f.2.2.1.2.1 s=true:=fun s hs=>lA.1 m4 s hs;have hloop:=a2x (f:=a6m) (β:=Int×(List Int×Unit)) f.2.2.2.1 (fun i (a:List Int)=>((body:Int),f.2.2.2.1,((f.2.2.2.1.length:Nat):Int),(i:Int),a,())) (fun a x=>.inl (a++asI (a8r x))) (fun i a=>a.length=6+3*i) (fun a=>((body:Int),a,()))
  (fun i hi a ha=>⟨fun a' ha'=>by
   simp only[Sum.inl.injEq]at ha';subst ha';obtain⟨a1,a2,a3,a4,a5,a6,a7⟩:=a3Q.1 (hall _ (a09 hi));refine⟨?_,by simp[ha,asI,a8r];omega⟩;simp only[a6m,dlt hi,cT,a0c hi,oB,d7X (g:=f.2.2.2.1[i].2.2.1) (by omega),a1q (show a.length+3<2147483648 by omega),a0d (show i<1000000 by omega),a16];rw[a0G (n:=f.2.2.2.1[i].1) (by omega),a0G (n:=f.2.2.2.1[i].2.1) (by omega)];simp only[asI,a8r,a61,b06,a26 a1,a26 a3],fun b hb=>by cases hb⟩)
  (fun a ha=>by simp only[a6m,dge,cF]) (a:=asI [f.1.toNat,f.2.1.toNat,f.2.2.1.1.toNat,f.2.2.1.2.1.toNat,f.2.2.1.2.2.1.toNat,f.2.2.2.1.length]) (by simp[asI])
 rw[b6h]at hloop;simp only[b0i,nZ]at hloop;have hinit:([wrap .u64 f.1,wrap .u64 f.2.1,wrap .u64 f.2.2.1.1,wrap .u64 f.2.2.1.2.1,wrap .u64 f.2.2.1.2.2.1,wrap .u64 ((f.2.2.2.1.length:Nat):Int)]:List Int)=asI [f.1.toNat,f.2.1.toNat,f.2.2.1.1.toNat,f.2.2.1.2.1.toNat,f.2.2.1.2.2.1.toNat,f.2.2.2.1.length]:=by
  rw[a0G (n:=f.1) (by omega),a0G (n:=f.2.1) (by omega),a0G (n:=f.2.2.1.1) (by omega),a0G (n:=f.2.2.1.2.1) (by omega),a0G (n:=f.2.2.1.2.2.1) (by omega),a0G (by omega)];simp only[asI,a61,b06,a26 (show 0≤f.1 by omega),a26 (show 0≤f.2.1 by omega),a26 (show 0≤f.2.2.1.1 by omega),a26 (show 0≤f.2.2.1.2.1 by omega),a26 (show 0≤f.2.2.1.2.2.1 by omega)]
 have hns:asI [f.1.toNat,f.2.1.toNat,f.2.2.1.1.toNat,f.2.2.1.2.1.toNat,f.2.2.1.2.2.1.toNat,f.2.2.2.1.length]++f.2.2.2.1.flatMap (fun x=>asI (a8r x))++[((body:Nat):Int)]=asI ([f.1.toNat,f.2.1.toNat,f.2.2.1.1.toNat,f.2.2.1.2.1.toNat,f.2.2.1.2.2.1.toNat,f.2.2.2.1.length]++f.2.2.2.1.flatMap a8r++[body]):=by
  rw[d0x,d0x];congr 2;simp only[asI,List.map_flatMap]
 have hlt:∀n∈[f.1.toNat,f.2.1.toNat,f.2.2.1.1.toNat,f.2.2.1.2.1.toNat,f.2.2.1.2.2.1.toNat,f.2.2.2.1.length]++f.2.2.2.1.flatMap a8r++[body],n<9223372036854775808:=fun n hn=>by
  simp only[mA,mC,a71,or_false,b26]at hn;rcases hn with(hn|⟨s,hs,hn⟩)|hn;omega;obtain⟨a1,a2,a3,a4,a5,a6,a7⟩:=a3Q.1 (hall _ hs)
  have:=c5t (m:=1024) ⟨a6,a7⟩
  simp only[a8r,mC,a71,or_false]at hn;omega;omega
 have hlen:=d0w f.2.2.2.1;have hput:=c8U hlt (by simp[hlen];omega);have hflat:(([f.1.toNat,f.2.1.toNat,f.2.2.1.1.toNat,f.2.2.1.2.1.toNat,f.2.2.1.2.2.1.toNat,f.2.2.2.1.length]++f.2.2.2.1.flatMap a8r++[body]).flatMap a0E)=(hb f body).drop 2:=by
  simp only[hb,List.flatMap_append,a67,List.flatMap_nil,a25,aA,List.flatMap_assoc,a85,a06,List.drop_succ_cons,a18];congr 7;exact congrArg (fun g=>List.flatMap g f.2.2.2.1) (funext fun s=>by simp[a6B,a8r])
 have hbe:[245,75]++(hb f body).drop 2=hb f body:=by simp[hb]
 have hbl:=c8W hf hb';unfold a8V;simp only[hinit];rw[hloop];simp only[oB,a16];have hl2:=congrArg a46 hns;rw[show(asI ([f.1.toNat,f.2.1.toNat,f.2.2.1.1.toNat,f.2.2.1.2.1.toNat,f.2.2.1.2.2.1.toNat,f.2.2.2.1.length]++f.2.2.2.1.flatMap a8r++[body])).length=7+3*f.2.2.2.1.length from by simp only[asI,List.length_map,lN,hlen,lC,a19];omega]at hl2;rw[lN,a54]at hl2;rw[a0G (n:=(body:Int)) (by omega),a1q (by omega),cT,hns,hput];simp only[oB,hflat,a16,hbe];rw[a1q (by simp;omega),cT,c8V (show short (hb f body)by unfold short;omega)];simp only[oB];rw[a1q (by omega),cT];rfl
end Go.Ab
namespace Go.Ab
open IntKind(wrap)
def d2u(f:a1L):a1L:=(f.1,f.2.1,f.2.2.1,f.2.2.2.1,[],())
theorem a5h{P A R:List Int}{k:Nat}(h:(P++(A++R)).length<k):((P++A)++R).length<k:=by rw[aA];exact h
theorem c4r{x:List Int}{ch:Int}(hch:ch≤8)(s l:Int)(fm:a0W)(u:List Sub×Unit){N:Nat}(hN:N≤16){R:List Int}:∀(rest done:List a0W)(P:List Int),rest.all (a2t ch)=true→done.length+rest.length=N→
  (P++(rest.flatMap a6B++R)).length<1000000→
  a0h a6o (x,(N:Int),(done.length:Int),(s,l,fm,done,u),ord P (rest.flatMap a6B++R),())=some (x,(s,l,fm,done++rest,u),ord (P++rest.flatMap a6B) R,())
 | [],done,P,_,hl,_=>by
  have e:done.length=N:=by simpa using hl
  rw[e,a0o (b:=(x,(s,l,fm,done,u),ord P R,())) (by simp only[a6o,dge,cF];rfl)]
  simp
 |g::rest,done,P,h,hl,hlen=>by
  simp only[a08,bA]at h;rw[lC]at hl;obtain⟨a1,a2,a3,a4,a5,a6,a7⟩:=a3Q.1 h.1;have hz:=c5t (m:=1024) ⟨a6,a7⟩;have eT:(g::rest).flatMap a6B++R=a0E g.1.toNat++(a0E g.2.1.toNat++(a0E (b0m g.2.2.1)++(rest.flatMap a6B++R))):=by simp[a6B]
  rw[eT]at hlen⊢;have n1:=b0z (n:=g.1.toNat) (most:=7) (by omega) (by omega) hlen;have hlen2:=a5h hlen;have n2:=b0z (n:=g.2.1.toNat) (most:=7) (by omega) (by omega) hlen2;have hlen3:=a5h hlen2;have n3:=b0z (n:=b0m g.2.2.1) (most:=2048) (by omega) (by omega) hlen3;have hlen4:=a5h hlen3;have hw:wrap .u64 ((done.length:Int)+1)=(((done++[g]).length:Nat):Int):=by rw[a0G (by omega)];simp
  have w1:wrap .i64 ((g.1.toNat:Nat):Int)=g.1:=by rw[a0f (by omega)];omega
  have w2:wrap .i64 ((g.2.1.toNat:Nat):Int)=g.2.1:=by rw[a0f (by omega)];omega
  have hd:decide ((done.length:Int)<(N:Int))=true:=by simp;omega
  rw[a0q (s':=(x,(N:Int),(((done++[g]).length:Nat):Int),(s,l,fm,done++[g],u),ord (P++a0E g.1.toNat++a0E g.2.1.toNat++a0E (b0m g.2.2.1)) (rest.flatMap a6B++R),())) (by
   simp only[a6o,hd,cT,n1,n2,n3,oB,d7Y (g:=g.2.2.1) (by omega),a1q (show done.length+1<2147483648 by omega),w1,w2,hw,a16])]
  rw[c4r hch s l fm u hN rest (done++[g]) _ h.2 (by simp;omega) hlen4];simp[a6B]
theorem c4s{f:a1L}(hf:frP f){body:Nat}(hb':body≤1048576){R:List Int}(hl:(a2c f body++R).length<1000000):
  a6p (a2c f body++R)=some (d2u f,((a2c f body).length:Int),(body:Int),(0:Int)):=by
 have hf':=hf;obtain⟨⟨r1,r2,c1,c2,d1,d2⟩,l1,l2,s1,s2,m1,m2,m3,m4⟩:=hf';have hbl:=c8W hf hb'

 have hT:a2c f body++R=[245,75]++(a0E f.1.toNat++(a0E f.2.1.toNat++(a0E f.2.2.1.1.toNat++(a0E f.2.2.1.2.1.toNat++(a0E f.2.2.1.2.2.1.toNat++(a0E f.2.2.2.1.length++(f.2.2.2.1.flatMap a6B++(a0E body++([b9h (hb f body)]++R))))))))):=by
  simp[a2c,hb]
 generalize hx:a2c f body++R=x at *;have hxl:2≤x.length:=by rw[hT];simp
 have g0:a0p x 0=some 245:=by rw[hT];rfl
 have g1:a0p x 1=some 75:=by rw[hT];rfl
 have hdrop:b32 2 (b18 x.length x)=a0E f.1.toNat++(a0E f.2.1.toNat++(a0E f.2.2.1.1.toNat++(a0E f.2.2.1.2.1.toNat++(a0E f.2.2.1.2.2.1.toNat++(a0E f.2.2.2.1.length++(f.2.2.2.1.flatMap a6B++(a0E body++([b9h (hb f body)]++R)))))))):=by
  rw[a29,hT];rfl
 have hlen0:([]++(a0E f.1.toNat++(a0E f.2.1.toNat++(a0E f.2.2.1.1.toNat++(a0E f.2.2.1.2.1.toNat++(a0E f.2.2.1.2.2.1.toNat++(a0E f.2.2.2.1.length++(f.2.2.2.1.flatMap a6B++(a0E body++([b9h (hb f body)]++R))))))))):List Int).length<1000000:=by
  rw[←hdrop];simp;omega
 have n1:=b0z (n:=f.1.toNat) (most:=4194304) (by omega) (by omega) hlen0;have h1:=a5h hlen0;have n2:=b0z (n:=f.2.1.toNat) (most:=4096) (by omega) (by omega) h1;have h2:=a5h h1;have n3:=b0z (n:=f.2.2.1.1.toNat) (most:=1048576) (by omega) (by omega) h2;have h3:=a5h h2;have n4:=b0z (n:=f.2.2.1.2.1.toNat) (most:=8) (by omega) (by omega) h3;have h4:=a5h h3;have n5:=b0z (n:=f.2.2.1.2.2.1.toNat) (most:=24) (by omega) (by omega) h4;have h5:=a5h h4;have n6:=b0z (n:=f.2.2.2.1.length) (most:=16) (by omega) (by omega) h5;have h6:=a5h h5;have hloop:=c4r (x:=x) m2 f.1 f.2.1 f.2.2.1 ([],()) m3 f.2.2.2.1 [] _ m4 (by simp) h6;have h7:=a5h h6;have n7:=b0z (n:=body) (most:=1048576) (by omega) (by omega) h7;simp only[a19,nZ,a06,a17]at n1 n2 n3 n4 n5 n6 n7 hloop;have w1:wrap .i64 ((f.1.toNat:Nat):Int)=f.1:=by rw[a0f (by omega)];omega
 have w2:wrap .i64 ((f.2.1.toNat:Nat):Int)=f.2.1:=by rw[a0f (by omega)];omega
 have w3:wrap .i64 ((f.2.2.1.1.toNat:Nat):Int)=f.2.2.1.1:=by rw[a0f (by omega)];omega
 have w4:wrap .i64 ((f.2.2.1.2.1.toNat:Nat):Int)=f.2.2.1.2.1:=by rw[a0f (by omega)];omega
 have w5:wrap .i64 ((f.2.2.1.2.2.1.toNat:Nat):Int)=f.2.2.1.2.2.1:=by rw[a0f (by omega)];omega
 have hPq:a0E f.1.toNat++a0E f.2.1.toNat++a0E f.2.2.1.1.toNat++a0E f.2.2.1.2.1.toNat++a0E f.2.2.1.2.2.1.toNat++a0E f.2.2.2.1.length++f.2.2.2.1.flatMap a6B++a0E body=(hb f body).drop 2:=by simp[hb]
 rw[hPq]at n7;have hor:ord ((hb f body).drop 2) ([b9h (hb f body)]++R)=(x.drop 2,(((hb f body).length-2:Nat):Int),(0:Int),()):=by
  unfold ord;rw[a07,←hx];congr 1;unfold a2c;rw[aA,List.drop_append_of_le_length (by omega)]
 rw[hor]at n7;have hleft:wrap .i64 (((x.drop 2).length:Int)-(((hb f body).length-2:Nat):Int))=((1+R.length:Nat):Int):=by
  have:x.length=(hb f body).length+(1+R.length):=by rw[←hx];simp[a2c];omega
  rw[a07,a0f (by omega)];omega
 have hat:wrap .i64 ((2:Int)+(((hb f body).length-2:Nat):Int))=(((hb f body).length:Nat):Int):=by rw[a0f (by omega)];omega
 have hlx:(hb f body).length<x.length:=by rw[←hx];simp[a2c]
 have htake:b18 (hb f body).length x=hb f body:=by rw[←hx];simp[a2c]
 have hgs:a0p x (((hb f body).length:Nat):Int)=some (b9h (hb f body)):=by rw[a0c hlx];congr 1;subst hx;simp[a2c]
 have dl:decide (((x.length:Nat):Int)<2)=false:=by simp;omega
 have dl2:decide ((2:Int)≤((x.length:Nat):Int))=true:=by simp;omega
 have b0:((245:Int) != 245)=false:=rfl;have b1:((75:Int) != 75)=false:=rfl;have hnew:∀T:List Int,T.length<1000000→b3s T=some (ord [] T):=fun T hT=>by unfold b3s;rw[a1q (by omega)];rfl
 have hlen0':=hlen0;rw[a06]at hlen0';have z0:((0:Int) != 0)=false:=rfl;have dR:decide (((1+R.length:Nat):Int)<1)=false:=by simp;omega
 have da:decide ((0:Int)≤(((hb f body).length:Nat):Int))=true:=by simp
 have db:decide ((((hb f body).length:Nat):Int)≤((x.length:Nat):Int))=true:=by simp;omega
 have ss:(b9h (hb f body) != b9h (hb f body))=false:=bne_self_eq_false _;have hfb:frP (f.1,f.2.1,f.2.2.1,f.2.2.2.1,([]:List Sub),()):=hf;have hwe:wrap .i64 ((((hb f body).length:Nat):Int)+1)=(((a2c f body).length:Nat):Int):=by rw[a0f (by omega)];simp[a2c]
 have hwb:wrap .i64 ((body:Nat):Int)=(body:Int):=a0f (by omega);unfold a6p;simp only[dl,cF,g0,g1,oB,b0,b1,dl2,cT];rw[hdrop,hnew _ hlen0'];simp only[oB,n1,n2,n3,n4,n5,n6,w1,w2,w3,w4,w5]
 erw[hloop]
 simp only[oB,n7,a9s,z0,cF,a8M,b0g,hleft,dR,hat,da,db,a02,cT,tN,htake,c8V (show short (hb f body)by unfold short;omega),hgs,ss];rw[b8p,decide_eq_true hfb];simp only[oB,bT,cF,hwe,hwb];rfl
end Go.Ab
namespace Go.Ab
@[reducible] def PZ:Type:=Sub×List Nat
def d2v(n:Int)(p:PZ):Prop:=SmallS p.1∧(a2Q p.1 n).isSome=true∧(p.1.1≠0∧p.1.1≠1→PartsOk p.1.2.2.2.2.2.2.2.2.2.1 n ((p.1.2.2.2.2.2.2.2.2.1.length:Nat):Int) p.1.2.2.2.2.2.2.2.2.2.2.1 p.2)
def a0s(l:List PZ):List Int:=l.flatMap fun p=>a9z p.1 p.2
theorem c6t(l:List PZ):a1K (a0s l):=b6O fun _=>d5q _ _
theorem c6u(x:a1L)(all:List Sub)(h8:all.length≤8):∀(rest done:List Sub)(L:List Int),done++rest=all→(∀s∈rest,SmallS s∧(a2Q s x.2.1).isSome=true)→L.length+700000*rest.length<40000000→
  ∃zs:List PZ,zs.map (·.1)=rest∧(∀p∈zs,d2v x.2.1 p)∧(a0s zs).length≤700000*rest.length∧((∀s∈rest,∃c,a4X (s,x.2.1)=some (c:Int))∧some (((a0s zs).length:Nat):Int)=rest.foldr (fun s a=>a.bind fun a=>(a4X (s,x.2.1)).bind fun c=>some (c+a)) (some 0))∧
   a0h a9R (all,(all.length:Int),(done.length:Int),wL L,x,())=some (.inl (wL (L++a0s zs),x,()))
 | [],done,L,hd,_,_=>by
  have e:done=all:=by simpa using hd
  subst e;refine⟨[],rfl,by simp,by simp[a0s],⟨by simp,by simp[a0s]⟩,?_⟩;rw[a0o (b:=Sum.inl (wL L,x,())) (by simp only[a9R,dge,cF])];simp[a0s]
 |s::rest,done,L,hd,h,hL=>by
  obtain⟨hs,ho⟩:=h s (by simp);rw[lC]at hL;obtain⟨zn,h1,h2,h3,h4⟩:=d5r hs ho (L:=L) (by omega);obtain⟨zs,k1,k2,k3,⟨k4,k5⟩,k6⟩:=c6u x all h8 rest (done++[s]) (L++a9z s zn) (by simpa using hd) (fun t ht=>h t (by simp[ht])) (by rw[lN];omega);have hlt:done.length<all.length:=by rw[←hd];simp
  have hg:a0p all (done.length:Int)=some s:=by rw[a0c hlt];subst hd;simp
  refine⟨(s,zn)::zs,by simp[k1],fun p hp=>?_,?_,⟨fun t ht=>?_,?_⟩,?_⟩;rcases mC.1 hp with rfl|hp;exact⟨hs,ho,h4⟩;exact k2 p hp;simp only[a0s,a67,lN,lC];simp only[a0s]at k3;omega;rcases mC.1 ht with rfl|ht;exact⟨_,h2⟩;exact k4 t ht;simp only[List.foldr_cons,←k5,oB,h2];simp[a0s];have z0:((0:Int) != 0)=false:=rfl;rw[a0q (s':=(all,(all.length:Int),(((done++[s]).length:Nat):Int),wL (L++a9z s zn),x,())) (by
   simp only[a9R,dlt hlt,cT,hg,oB,h1,z0,cF,a0d (show done.length<1000000 by omega)]
   simp)]
  rw[k6];simp[a0s]
def a5H(k:Nat):Nat:=(8-k%8)%8
def a3d(L:List Int):List Int:=L++a01 (a5H L.length) 0
theorem c4t:∀(k:Nat)(L:List Int),a5H L.length=k→L.length+k<900000000→a0h a4m (wL L,())=some (wL (L++a01 k 0),())
 |k,L,hk,hL=>by
  have f:=(a6H L).1;have ht:a43 (wL L).2.1 8=((L.length%8:Nat):Int):=by rw[f];rfl
  unfold a5H at hk;cases k with
  |zero=>
   have:L.length%8=0:=by omega
   rw[a0o (b:=(wL L,())) (by
    simp only[a4m,ht,this];rfl)]
   simp
  |succ k=>
   have hb:(((L.length%8:Nat):Int) != 0)=true:=by simp;omega
   rw[a0q (s':=(wL (L++[0]),())) (by
    simp only[a4m,ht,hb,cT,c3S (show L.length<1000000000 by omega),oB])]
   rw[c4t k (L++[0]) (by unfold a5H;rw[lN,a54];omega) (by rw[lN,a54];omega)];rw[aA];rfl
theorem d5t{L:List Int}(hL:L.length<800000000):a5K (wL L)=some (wL (a3d L)):=by
 unfold a5K;rw[c4t _ L rfl (by unfold a5H;omega)];rfl
def a5Q(L:List Int):List Int:=(wL (a3d L)).1
theorem c0X(L:List Int):(a5Q L).length=(L.length+7) / 8∧8*(a5Q L).length=(a3d L).length:=by
 have:=(a6H (a3d L)).2
 unfold a5Q;rw[this];unfold a3d a5H;simp only[lN,List.length_replicate];omega
def a6J(f:a1L)(L:List Int):List Int:=a2c f (a5Q L).length++a5Q L
def a4e(f:a1L)(L:List Int):List Int:=a6J f L++[a3H (a6J f L) / 256,a3H (a6J f L)%256]
theorem b9i{f:a1L}(hf:frP f){L:List Int}(hL:L.length≤5600000):(a6J f L).length≤700700∧(a5Q L).length≤700000:=by
 have h1:=(c0X L).1;have h2:=c8W hf (body:=(a5Q L).length) (by omega);simp only[a6J,a2c,lN,a54];omega
theorem c8X{f:a1L}(hm:a5f f=some true)(hf:frP f)(h8:f.2.2.2.2.1.length≤8)(hs:∀s∈f.2.2.2.2.1,SmallS s∧(a2Q s f.2.1).isSome=true):
  ∃zs:List PZ,zs.map (·.1)=f.2.2.2.2.1∧(∀p∈zs,d2v f.2.1 p)∧(a0s zs).length≤5600000∧
   some (((a0s zs).length:Nat):Int)=f.2.2.2.2.1.foldr (fun s a=>a.bind fun a=>(a4X (s,f.2.1)).bind fun c=>some (c+a)) (some 0)∧a8D f=some (a4e f (a0s zs),0):=by
 obtain⟨zs,k1,k2,k3,⟨-,k5⟩,k6⟩:=c6u f f.2.2.2.2.1 h8 f.2.2.2.2.1 [] [] rfl hs (by simp;omega);have hL:(a0s zs).length≤5600000:=by omega
 refine⟨zs,k1,k2,hL,k5,?_⟩;rw[a06,a19]at k6;have hp:=b9i hf hL;have hw0:wL []=(([]:List Int),(0:Int),()):=rfl;rw[hw0]at k6;have hpl:(a3d (a0s zs)).length<1000000000:=by
  have:=(c0X (a0s zs)).2
  omega
 have hr:=c2m (a6J f (a0s zs));have hpre:a2c f (a5Q (a0s zs)).length++a5Q (a0s zs)=a6J f (a0s zs):=rfl;have hhl:(a2c f (a5Q (a0s zs)).length).length+(a5Q (a0s zs)).length=(a6J f (a0s zs)).length:=by rw[←hpre,lN]
 unfold a8D;simp only[hm,oB,bT,cF]
 erw[k6]
 simp only[oB,d5t (show(a0s zs).length<800000000 by omega),d5s hpl]
 erw[d2t hf (show(a5Q (a0s zs)).length≤1048576 by omega)]
 simp only[oB,a16];rw[show(wL (a3d (a0s zs))).1=a5Q (a0s zs)from rfl];rw[hpre,a1q (by omega),cT,c4q (show short (a6J f (a0s zs))by unfold short;omega)];simp only[oB];rw[a0G (by omega),e2z hr];simp only[oB];rw[a1q (by simp;omega),cT];rfl
end Go.Ab
namespace Go.Ab
open IntKind(wrap)
def b0d(f:a1L)(l:List Sub):a1L:=(f.1,f.2.1,f.2.2.1,f.2.2.2.1,l,())
theorem d2w(f:a1L):b0d f f.2.2.2.2.1=f:=rfl
theorem c4u(f zf:a1L)(e:Int){N:Nat}(hN:N≤8){Z:List Int}:∀(rest:List PZ)(done:List Sub)(P:List Int),done.length+rest.length=N→(∀p∈rest,d2v f.2.1 p)→OkR P (a0s rest++Z)→
  a0h a8W (e,(N:Int),(done.length:Int),zf,b0d f done,rdr P (a0s rest++Z),())=some (.inl (e,zf,b0d f (done++rest.map (·.1)),rdr (P++a0s rest) Z,()))
 | [],done,P,hl,_,_=>by
  have e1:done.length=N:=by simpa using hl
  rw[e1,a0o (b:=Sum.inl (e,zf,b0d f done,rdr P Z,())) (by simp only[a8W,dge,cF];rfl)];simp[a0s]
 |p::rest,done,P,hl,h,hok=>by
  rw[lC]at hl;obtain⟨hs,ho,hz⟩:=h p (by simp);have eb:a0s (p::rest)++Z=a9z p.1 p.2++(a0s rest++Z):=by simp[a0s]
  rw[eb]at hok⊢;have hg:=d7b hs ho hz hok;have hd:decide ((done.length:Int)<(N:Int))=true:=by simp;omega
  have z0:((0:Int) != 0)=false:=rfl;rw[a0q (s':=(e,(N:Int),(((done++[p.1]).length:Nat):Int),zf,b0d f (done++[p.1]),rdr (P++a9z p.1 p.2) (a0s rest++Z),())) (by
   have hg':b4a (rdr P (a9z p.1 p.2++(a0s rest++Z)),(b0d f done).2.1)=some (p.1,(0:Int),rdr (P++a9z p.1 p.2) (a0s rest++Z)):=hg;simp only[a8W,hd,cT,hg',oB,z0,cF];rw[show(b0d f done).2.2.2.2.1=done from rfl,a1q (show done.length+1<2147483648 by omega),cT,a0d (show done.length<1000000 by omega)];rw[show(((done++[p.1]).length:Nat):Int)=((done.length+1:Nat):Int)from by simp];rfl)]
  rw[c4u f zf e hN rest (done++[p.1]) _ (by simp;omega) (fun q hq=>h q (by simp[hq])) hok.shift];simp[a0s]
theorem c2n{L:List Int}(hL:a1K L)(hl:L.length<500000000)(t:Int×(Int×Unit)):∀(k i:Nat),i+k=L.length→(∀j,i≤j→L.getD j 0=0)→
  a0h a4o ((L.length:Int),(i:Int),((wL L).1,t),())=some (.inl ((L.length:Int),((wL L).1,t),()))
 |0,i,h,_=>by
  obtain rfl:i=L.length:=by omega
  exact a0o (by simp only[a4o,dge,cF])
 |k+1,i,h,h0=>by
  have hlt:i<L.length:=by omega
  have z:((0:Int)==1)=false:=rfl;have hw:wrap .i64 ((i:Int)+1)=((i+1:Nat):Int):=by rw[a0f (by omega)];omega
  rw[a0q (s':=((L.length:Int),((i+1:Nat):Int),((wL L).1,t),())) (by
   simp only[a4o,dlt hlt,cT];rw[c5p hL (by omega) hlt t,h0 i (a42 _)];simp only[oB,z,cF,hw])]
  exact c2n hL hl t k (i+1) (by omega) (fun j hj=>h0 j (by omega))
theorem d5u(L:List Int)(k j:Nat)(hj:L.length≤j):(L++a01 k 0).getD j 0=0:=by
 rw[lD,a23 hj,List.getElem?_replicate]
 split<;>rfl
theorem c6v{L:List Int}(h:a1K L):a1K (a3d L):=h.app fun _ hb=>.inl (b04.1 hb).2
theorem d3Y{L:List Int}(hL:a1K L)(hl:L.length≤5600000):∃r,a5M (rdr L (a01 (a5H L.length) 0))=some r∧r.2.2.1=0:=by
 have hp:(a3d L).length=L.length+a5H L.length:=by simp[a3d]
 have hpn:a5H L.length<8:=by unfold a5H;omega
 have h8:(a3d L).length%8=0:=by rw[hp];unfold a5H;omega
 have z0:((0:Int) != 0)=false:=rfl;have h7:wrap .i64 (wrap .i64 (a68 (wrap .i64 ((L.length:Int)+7)) 8)*8)=((a3d L).length:Int):=by
  rw[a0f (n:=(L.length:Int)+7) (by omega),show a68 ((L.length:Int)+7) 8=(((L.length+7) / 8:Nat):Int)from by
   rw[show((L.length:Int)+7)=((L.length+7:Nat):Int)from by omega];rfl,a0f (n:=(((L.length+7) / 8:Nat):Int)) (by omega),a0f (by omega),hp]
  unfold a5H;omega
 have hloop:=c2n (c6v hL) (by omega) ((L.length:Int),(0:Int),()) (a5H L.length) L.length (by omega) (fun j hj=>d5u L _ j hj);refine⟨((wL (a3d L)).1,((a3d L).length:Int),(0:Int),()),?_,rfl⟩;unfold a5M rdr;simp only[z0,cF,h7];rw[show L++a01 (a5H L.length) 0=a3d L from rfl,hloop];rfl
theorem e2A{v:Int}(h:0≤v∧v<65536):bits .u16 .or (a0z .u16 (wrap .u16 (v / 256)) 8) (wrap .u16 (v%256))=v:=by
 rw[b5g,b5g];have e:a0z .u16 (v / 256%65536) 8=((v.toNat / 256*256:Nat):Int):=by
  show wrap .u16 (v / 256%65536*256)=_;rw[b5g];omega
 rw[e];have e2:v%256%65536=((v.toNat%256:Nat):Int):=by omega
 rw[e2];show wrap .u16 (((a04 16 ((v.toNat / 256*256:Nat):Int) ||| a04 16 ((v.toNat%256:Nat):Int)).toNat:Nat):Int)=_;have h1:(a04 16 ((v.toNat / 256*256:Nat):Int)).toNat=v.toNat / 256*256:=by rw[a31];omega
 have h2:(a04 16 ((v.toNat%256:Nat):Int)).toNat=v.toNat%256:=by rw[a31];omega
 rw[a63,h1,h2];have e:v.toNat / 256*256 ||| v.toNat%256=v.toNat / 256*256+v.toNat%256:=by
  have:=a56 (i:=8) (b:=v.toNat%256) (by omega) (v.toNat / 256)
  rw[show 2^8*(v.toNat / 256)=v.toNat / 256*256 from by omega]at this;exact this.symm
 rw[e,b5g];omega
theorem c6U{f:a1L}(hm:a5f f=some true)(hf:frP f)(hch:((f.2.2.2.2.1.length:Nat):Int)=f.2.2.1.2.1){zs:List PZ}(hz:zs.map (·.1)=f.2.2.2.2.1)(hp:∀p∈zs,d2v f.2.1 p)(hL:(a0s zs).length≤5600000)
  {R:List Int}(hR:R.length≤1000):a5C (a4e f (a0s zs)++R)=some (f,((a4e f (a0s zs)).length:Int),(0:Int)):=by
 have hpl:=b9i hf hL;have hr:=c2m (a6J f (a0s zs));have h8:f.2.2.2.2.1.length≤8:=by have:=hf.1.2.2.2.1;omega
 have hbb:=c0X (a0s zs);generalize hbd:a5Q (a0s zs)=body at *;have hfb:a4e f (a0s zs)=a6J f (a0s zs)++[a3H (a6J f (a0s zs)) / 256,a3H (a6J f (a0s zs))%256]:=rfl;have hpre:a6J f (a0s zs)=a2c f body.length++body:=by unfold a6J;rw[hbd]
 generalize hpb:a6J f (a0s zs)=pre at *;have hxe:a4e f (a0s zs)++R=a2c f body.length++(body++([a3H pre / 256,a3H pre%256]++R)):=by rw[hfb,hpre];simp
 have hfl:(a4e f (a0s zs)).length=pre.length+2:=by rw[hfb];simp
 have hprl:pre.length=(a2c f body.length).length+body.length:=by rw[hpre];simp
 have hxl:(a4e f (a0s zs)++R).length=pre.length+2+R.length:=by rw[lN,hfl]
 have hget:=c4s hf (body:=body.length) (by omega) (R:=body++([a3H pre / 256,a3H pre%256]++R)) (by rw[←hxe,hxl];omega);rw[←hxe]at hget;generalize hx:a4e f (a0s zs)++R=x at *;have z0:((0:Int) != 0)=false:=rfl;have w1:wrap .i64 (((a2c f body.length).length:Int)+(body.length:Int))=(pre.length:Int):=by rw[a0f (by omega)];omega
 have w2:wrap .i64 ((pre.length:Int)+2)=((pre.length+2:Nat):Int):=by rw[a0f (by omega)];omega
 have w3:wrap .i64 ((pre.length:Int)+1)=((pre.length+1:Nat):Int):=by rw[a0f (by omega)];omega
 have d1:decide ((x.length:Int)<((pre.length+2:Nat):Int))=false:=by simp;omega
 have d2:decide ((0:Int)≤(pre.length:Int))=true:=by simp
 have d3:decide ((pre.length:Int)≤(x.length:Int))=true:=by simp;omega
 have d4:decide ((0:Int)≤((a2c f body.length).length:Int))=true:=by simp
 have d5:decide (((a2c f body.length).length:Int)≤(pre.length:Int))=true:=by simp;omega
 have hxp:x=pre++([a3H pre / 256,a3H pre%256]++R):=by rw[←hx,hfb];simp
 have htake:b18 pre.length x=pre:=by rw[hxp];simp
 have hdrop:b32 (a2c f body.length).length pre=body:=by rw[hpre];simp
 have g1:a0p x (pre.length:Int)=some (a3H pre / 256):=by rw[a0c (by omega)];congr 1;subst hxp;simp
 have g2:a0p x ((pre.length+1:Nat):Int)=some (a3H pre%256):=by rw[a0c (by omega)];congr 1;subst hxp;simp
 have ss:(a3H pre != bits .u16 .or (a0z .u16 (wrap .u16 (a3H pre / 256)) 8) (wrap .u16 (a3H pre%256)))=false:=by rw[e2A hr];exact bne_self_eq_false _
 have hpadl:(a3d (a0s zs)).length<1000000000:=by omega
 have hnew:=d7W hpadl;rw[show(wL (a3d (a0s zs))).1=body from hbd]at hnew;have hok:OkR [] (a0s zs++a01 (a5H (a0s zs).length) 0):=⟨by rw[a06];exact c6v (c6t zs),by
  rw[a06];show(a3d (a0s zs)).length<_;omega⟩
 have hloop:=c4u f ((0:Int),(0:Int),((0:Int),(0:Int),(0:Int),()),([]:List a0W),([]:List Sub),()) (pre.length:Int) h8 zs [] [] (by rw[←hz];simp) hp hok;simp only[a06,a19,hz,d2w]at hloop;have hrd:rdr [] (a3d (a0s zs))=rdr [] (a0s zs++a01 (a5H (a0s zs).length) 0):=rfl;obtain⟨r,ha1,ha2⟩:=d3Y (c6t zs) hL;have hleft:a3o (rdr (a0s zs) (a01 (a5H (a0s zs).length) 0))=some ((a5H (a0s zs).length:Int),rdr (a0s zs) (a01 (a5H (a0s zs).length) 0)):=by
  unfold a3o rdr
  have:(wL (a0s zs++a01 (a5H (a0s zs).length) 0)).1=body:=hbd
  simp only[this];have hp:(a3d (a0s zs)).length=(a0s zs).length+a5H (a0s zs).length:=by simp[a3d]
  rw[a0f (n:=8*(body.length:Int)) (by omega),a0f (by omega)];congr 2;omega
 have d8:decide (((a5H (a0s zs).length:Nat):Int)≥8)=false:=by unfold a5H;simp;omega
 have hb0:b0d f []=d2u f:=rfl;have hch':f.2.2.1.2.1=((f.2.2.2.2.1.length:Nat):Int):=hch.symm;unfold a5C;rw[hget];simp only[oB,z0,cF,w1,w2,d1,d2,d3,d4,a02,cT,tN,htake,c4q (show short pre by unfold short;omega),g1,w3,g2,ss,d5,hdrop,hnew,hrd];rw[show(d2u f).2.2.1.2.1=((f.2.2.2.2.1.length:Nat):Int)from hch']
 erw[hloop]
 simp only[oB,hleft,d8,cF,ha1,a0x,ha2,z0,hm,bT,w2,hfl]
theorem c6V{f:a1L}(hf:frP f){L:List Int}(hL:L.length≤5600000){R:List Int}(hR:R.length≤1000):a7e (a4e f L++R)=some (f.2.2.1,f.1,f.2.1,(0:Int)):=by
 have hpl:=b9i hf hL;have hxe:a4e f L++R=a2c f (a5Q L).length++(a5Q L++([a3H (a6J f L) / 256,a3H (a6J f L)%256]++R)):=by simp[a4e,a6J]
 have hget:=c4s hf (body:=(a5Q L).length) (by omega) (R:=a5Q L++([a3H (a6J f L) / 256,a3H (a6J f L)%256]++R)) (by
  rw[←hxe];simp only[a4e,lN,lC,a19];omega)
 rw[←hxe]at hget;unfold a7e;rw[hget];rfl
end Go.Ab
namespace Go.Ab
open IntKind(wrap)
theorem b6i(x:Int):b0u x=some (a0b x):=by
 unfold b0u a0b
 by_cases h:-1073741824≤x<;>simp[h]
def a3r(c:List (List Int)):Prop:=1≤c.length∧c.length≤8∧(c.headD []).length≤4096∧c.all (fun r=>decide (r.length=(c.headD []).length)&&r.all a0b)=true
instance (c:List (List Int)):Decidable (a3r c):=by unfold a3r;infer_instance
theorem b4h{α:Type}{l:List α}{d:α}(h:0<l.length):l[0]=l.headD d:=by
 cases l with
 |nil=>simp at h
 |cons a l=>rfl
theorem c5u(c:List (List Int)):a8z c=some (decide (a3r c)):=by
 unfold a8z
 by_cases h1:((c.length:Nat):Int)<1
 have:¬ a3r c:=fun h=>by have:=h.1;omega
 simp[h1,this]
 by_cases h2:((c.length:Nat):Int) > 8
 have:¬ a3r c:=fun h=>by have:=h.2.1;omega
 simp[h1,h2,this];have hc:0<c.length:=by omega
 have hg:a0p c 0=some (c.headD []):=by rw[show(0:Int)=((0:Nat):Int)from rfl,a0c hc,b4h (d:=[]) hc]
 have d1:decide (((c.length:Nat):Int)<1)=false:=by simpa using h1
 have d2:decide (((c.length:Nat):Int) > 8)=false:=by simpa using h2
 simp only[d1,d2,cF,hg,oB]
 by_cases h3:(((c.headD []).length:Nat):Int) > 4096
 rw[decide_eq_true h3,decide_eq_false (show ¬ a3r c from fun h=>by have:=h.2.2.1;omega)];rfl;have d3:decide ((((c.headD []).length:Nat):Int) > 4096)=false:=by simpa using h3
 simp only[d3,cF];have inner:∀(i:Nat)(r:List Int),short r→a0h a5o (c,c,(c.length:Int),(i:Int),r,(r.length:Int),(0:Int),())=some (bif r.all a0b then Sum.inl (c,c,(c.length:Int),(i:Int),())else Sum.inr (false,())):=fun i r hr=>by
  have:=a1N (f:=a5o) r (fun j=>(c,c,(c.length:Int),(i:Int),r,(r.length:Int),(j:Int),())) a0b (bt:=Sum.inl (c,c,(c.length:Int),(i:Int),())) (bf:=Sum.inr (false,()))
   (fun j h hp=>by simp only[a5o,dlt h,cT,a0c h,oB,b6i,hp,bT,cF,a0d (a57 h hr)])
   (fun j h hp=>by simp only[a5o,dlt h,cT,a0c h,oB,b6i,hp,a38])
   (by simp only[a5o,dge,cF])
  exact this
 have hall:=a1N (f:=a5p) c (fun i=>(c,c,(c.length:Int),(i:Int),())) (fun r=>decide (r.length=(c.headD []).length)&&r.all a0b) (bt:=Sum.inl ()) (bf:=Sum.inr (false,()))
  (fun i h hp=>by
   simp only[bA,dT]at hp;have e:((((c[i]).length:Nat):Int) != (((c.headD []).length:Nat):Int))=false:=by rw[hp.1];exact bne_self_eq_false _
   have hi:=inner i c[i] (by unfold short;omega);rw[hp.2,cT]at hi;simp only[a5p,dlt h,cT,a0c h,oB,hg,e,cF,hi,a0d (show i<1000000 by omega)])
  (fun i h hp=>by
   by_cases hl:(c[i]).length=(c.headD []).length
   have e:((((c[i]).length:Nat):Int) != (((c.headD []).length:Nat):Int))=false:=by rw[hl];exact bne_self_eq_false _
   have hi:=inner i c[i] (by unfold short;omega);rw[decide_eq_true hl,a32]at hp;rw[hp,cF]at hi;simp only[a5p,dlt h,cT,a0c h,oB,hg,e,cF,hi];have e:((((c[i]).length:Nat):Int) != (((c.headD []).length:Nat):Int))=true:=by simp only[bne_iff_ne,ne_eq,Int.natCast_inj];exact hl
   simp only[a5p,dlt h,cT,a0c h,oB,hg,e])
  (by simp only[a5p,dge,cF])
 simp only[nZ]at hall;rw[hall];have e1:1≤c.length:=by omega
 have e2:c.length≤8:=by omega
 have e3:(c.headD []).length≤4096:=by omega
 by_cases hA:c.all (fun r=>decide (r.length=(c.headD []).length)&&r.all a0b)=true
 rw[hA,decide_eq_true (show a3r c from⟨e1,e2,e3,hA⟩)];rfl;rw[b19.2 hA,decide_eq_false (show ¬ a3r c from fun h=>hA h.2.2.2)];rfl
def a4r(c:List (List Int))(n:Nat):Prop:=∀r∈c,r.length=n∧r.all a0b=true
theorem d0y{c:List (List Int)}(h:a3r c):a4r c (c.headD []).length:=fun r hr=>by
 have:=lA.1 h.2.2.2 r hr
 simpa using this
theorem c2P{c:List (List Int)}{n:Nat}(h:a4r c n)(h1:1≤c.length)(h8:c.length≤8)(hn:n≤4096):a3r c:=by
 have hd:(c.headD []).length=n:=by
  rw[←b4h (d:=[]) (show 0<c.length by omega)];exact(h _ (a09 _)).1
 refine⟨h1,h8,by omega,lA.2 fun r hr=>?_⟩
 have:=h r hr
 rw[decide_eq_true (show r.length=(c.headD []).length from by rw[hd];exact this.1),this.2];rfl
theorem c6w{c:List (List Int)}{n:Nat}(h:a4r c n)(hn:n≤5000)(h8:c.length≤100):a8g c=some c:=by
 have:=a2x (f:=a7G) (β:=List (List Int)×Unit) c (fun i (a:List (List Int))=>(c,(c.length:Int),(i:Int),a,())) (fun a x=>.inl (a++[x])) (fun i a=>a.length=i) (fun a=>(a,()))
  (fun i hi a ha=>⟨fun a' ha'=>by
   simp only[Sum.inl.injEq]at ha';subst ha';have hr:=(h _ (a09 hi)).1;have hs:∀y:List Int,List.set ([([]:List Int)]:List (List Int)) 0 y=[y]:=fun _=>rfl;refine⟨?_,by simp[ha]⟩;simp only[a7G,dlt hi,cT,a0c hi,oB,a7O (show short c[i]by unfold short;omega),hs];rw[a1q (by simp;omega),cT,a0d (show i<1000000 by omega)];rfl,fun b hb=>by cases hb⟩)
  (fun a ha=>by simp only[a7G,dge,cF]) (a:=[]) rfl
 rw[b6h (fun x:List Int=>[x])]at this;unfold a8g;simp only[nZ]at this;rw[this];simp[b0i]
def a7T(sign g:Int)(x y:Int):Int:=y+sign*(g*x / 256)
def b1j(sign g:Int)(xs ys:List Int):List Int:=List.zipWith (a7T sign g) xs ys
theorem d5v(sign g:Int){xs ys:List Int}(h:xs.length=ys.length):(b1j sign g xs ys).length=ys.length:=by simp[b1j,h]
theorem d5w{sign g x y:Int}(hs:sign=1∨sign=-1)(hg:-1024≤g∧g≤1024)(hx:a0b x=true)(hy:a0b y=true):
  wrap .i64 (y+wrap .i64 (sign*a0C .i64 (wrap .i64 (g*x)) 8))=a7T sign g x y:=by
 have hx:=a2j.1 hx;have hy:=a2j.1 hy;have h1:-1099511627776≤g*x∧g*x≤1099511627776:=by
  have h1:g.natAbs≤1024:=by omega
  have h2:x.natAbs≤1073741824:=by omega
  have:=a95 h1 h2
  rw[←Int.natAbs_mul]at this;omega
 rw[a0f (n:=g*x) (by omega)];have h2:a0C .i64 (g*x) 8=g*x / 256:=by
  unfold a0C;show(g*x).fdiv (2^8)=_;rw[a37 _ (by omega)];rfl
 rw[h2];unfold a7T;rcases hs with rfl|rfl;rw[a0f (n:=1*(g*x / 256)) (by omega),a0f (by omega)];rw[a0f (n:=-1*(g*x / 256)) (by omega),a0f (by omega)]
end Go.Ab
namespace Go.Ab
open IntKind(wrap)
theorem a6K{α:Type}(c:List α){a b:Nat}(h:a≠b)(y d:α):(c.set b y).getD a d=c.getD a d:=by
 rw[lD,lD,a75 (Ne.symm h)]
theorem a8I{α:Type}(c:List α){b:Nat}(h:b<c.length)(y d:α):(c.set b y).getD b d=y:=by
 rw[lD,a69 h];rfl
theorem d6n{α:Type}(p:List α)(x:α)(s:List α)(d:α):(p++x::s).getD p.length d=x:=by
 rw[lD];simp
theorem d7c{α:Type}(p:List α)(x y:α)(s:List α):(p++x::s).set p.length y=p++y::s:=by simp
theorem c4v{c:List (List Int)}{s:a0W}{sign:Int}(hsg:sign=1∨sign=-1)(hg:-1024≤s.2.2.1∧s.2.2.1≤1024)(a0:0≤s.1)(b0:0≤s.2.1)(hab:s.1.toNat≠s.2.1.toNat)(hb:s.2.1.toNat<c.length)(hb':s.2.1<(c.length:Int))
  {xs:List Int}(hxs:c.getD s.1.toNat []=xs)(hn:xs.length≤5000):∀(sx suf px pre:List Int),px++sx=xs→px.length=pre.length→sx.length=suf.length→sx.all a0b=true→suf.all a0b=true→
  if(b1j sign s.2.2.1 sx suf).all a0b=true then
   a0h a4z (sign,(xs.length:Int),(pre.length:Int),c.set s.2.1.toNat (pre++suf),s,((s.1.toNat:Nat):Int),())=some (.inl (c.set s.2.1.toNat (pre++b1j sign s.2.2.1 sx suf),()))
  else ∃c',a0h a4z (sign,(xs.length:Int),(pre.length:Int),c.set s.2.1.toNat (pre++suf),s,((s.1.toNat:Nat):Int),())=some (.inr (false,c',()))
 | [],suf,px,pre,hx,hp,hl,_,_=>by
  have e:suf=[]:=a48.1 hl.symm;subst e;have e2:pre.length=xs.length:=by rw[←hx,←hp];simp
  rw[if_pos (by rfl),e2];exact a0o (by simp only[a4z,dge,cF];rfl)
 |x::sx,[],px,pre,_,_,hl,_,_=>by simp at hl
 |x::sx,y::suf,px,pre,hx,hp,hl,hwx,hwy=>by
  simp only[a08,bA]at hwx hwy;have hlt:pre.length<xs.length:=by rw[←hx,←hp];simp
  have h1:(c.set s.2.1.toNat (pre++y::suf)).getD (a35 ((s.1.toNat:Nat):Int)) []=xs:=by rw[tN,a6K _ hab];exact hxs
  have h2:(c.set s.2.1.toNat (pre++y::suf)).getD s.2.1.toNat []=pre++y::suf:=a8I _ hb _ _;have h3:b31 xs (a35 (pre.length:Int)) 0=x:=by rw[tN,←hp,←hx];exact d6n _ _ _ _
  have h4:b31 (pre++y::suf) (a35 (pre.length:Int)) 0=y:=by rw[tN];exact d6n _ _ _ _
  have d0:decide ((0:Int)≤(pre.length:Int))=true:=by simp
  have d1:decide ((pre.length:Int)<(xs.length:Int))=true:=by simp;omega
  have d2:decide ((0:Int)≤s.2.1)=true:=by simpa using b0
  have d3:decide (s.2.1<(((c.set s.2.1.toNat (pre++y::suf)).length:Nat):Int))=true:=by rw[List.length_set];simpa using hb'
  have d4:decide ((pre.length:Int)<(((pre++y::suf).length:Nat):Int))=true:=by simp;omega
  have hv:=d5w hsg hg hwx.1 hwy.1;have hw:wrap .i64 ((pre.length:Int)+1)=((pre.length+1:Nat):Int):=a0d (by omega);have hz:b1j sign s.2.2.1 (x::sx) (y::suf)=a7T sign s.2.2.1 x y::b1j sign s.2.2.1 sx suf:=rfl;have hset:List.set (c.set s.2.1.toNat (pre++y::suf)) s.2.1.toNat (List.set (pre++y::suf) (a35 (pre.length:Int)) (a7T sign s.2.2.1 x y))=c.set s.2.1.toNat ((pre++[a7T sign s.2.2.1 x y])++suf):=by
   rw[tN,List.set_set,d7c];simp
  have hround:a4z (sign,(xs.length:Int),(pre.length:Int),c.set s.2.1.toNat (pre++y::suf),s,((s.1.toNat:Nat):Int),()) =
    bif !(a0b (a7T sign s.2.2.1 x y))then some (.inr (Sum.inr (false,c.set s.2.1.toNat (pre++y::suf),())))
    else some (.inl (sign,(xs.length:Int),((pre.length+1:Nat):Int),c.set s.2.1.toNat ((pre++[a7T sign s.2.2.1 x y])++suf),s,((s.1.toNat:Nat):Int),())):=by
   simp only[a4z,d1,cT,h1,h2,d0,a02,d2,d3,d4,h3,h4,b6i,hv,oB,hw];cases hwv:a0b (a7T sign s.2.2.1 x y);rfl;simp only[bT,cF];rw[hset,tN]
  cases hwv:a0b (a7T sign s.2.2.1 x y)with
  |false=>
   rw[hz,if_neg (by simp[hwv])];rw[hwv]at hround;exact⟨_,a0o hround⟩
  |true=>
   rw[hwv]at hround;have ih:=c4v hsg hg a0 b0 hab hb hb' hxs hn sx suf (px++[x]) (pre++[a7T sign s.2.2.1 x y]) (by simpa using hx) (by simp[hp]) (by simpa using hl) hwx.2 hwy.2;rw[a0q hround,hz];simp only[a08,hwv,a32];rw[show((pre++[a7T sign s.2.2.1 x y]).length)=pre.length+1 from by simp]at ih;split;rename_i hA;rw[if_pos hA]at ih;rw[ih]
   simp
   rename_i hA;rw[if_neg hA]at ih;exact ih
def a4C(sign:Int)(s:a0W)(c:List (List Int)):Option (List (List Int)):=
 let r:=b1j sign s.2.2.1 (c.getD s.1.toNat []) (c.getD s.2.1.toNat [])
 if r.all a0b=true then some (c.set s.2.1.toNat r)else none
theorem a7A{c:List (List Int)}{n:Nat}(h:a4r c n){i:Nat}(hi:i<c.length):(c.getD i []).length=n∧(c.getD i []).all a0b=true:=by
 rw[lD,lG hi];exact h _ (a09 hi)
theorem c8Y{c:List (List Int)}{n:Nat}(hc:a4r c n)(hn:n≤5000){s:a0W}(hs:a2t (c.length:Int) s=true){sign:Int}(hsg:sign=1∨sign=-1):
  ∃b c',a9q (c,s,sign)=some (b,c')∧match a4C sign s c with|some r=>b=true∧c'=r|none=>b=false:=by
 obtain⟨a1,a2,a3,a4,a5,a6,a7⟩:=a3Q.1 hs;have hx:=a7A hc (i:=s.1.toNat) (by omega);have hy:=a7A hc (i:=s.2.1.toNat) (by omega);have hb:s.2.1.toNat<c.length:=by omega
 have hset:c.set s.2.1.toNat (c.getD s.2.1.toNat [])=c:=by
  apply b20;intro i
  by_cases hi:s.2.1.toNat=i
  subst hi;rw[a69 hb,lD,lG hb];rfl;rw[a75 hi]
 have:=c4v hsg ⟨a6,a7⟩ a1 a3 (by omega) hb a4 (rfl:c.getD s.1.toNat []=_) (by omega) (c.getD s.1.toNat []) (c.getD s.2.1.toNat []) [] [] rfl rfl (by omega) hx.2 hy.2
 rw[a06,hset]at this;simp only[a19,nZ,a06,a17]at this;have d1:decide ((0:Int)≤s.1)=true:=by simpa using a1
 have d2:decide (s.1<(c.length:Int))=true:=by simpa using a2
 unfold a9q a4C;simp only[d1,d2,a02,cT]
 by_cases hA:(b1j sign s.2.2.1 (c.getD s.1.toNat []) (c.getD s.2.1.toNat [])).all a0b=true
 rw[if_pos hA]at this⊢;refine⟨true,_,?_,rfl,rfl⟩
 erw[this]
 rfl;rw[if_neg hA]at this⊢;obtain⟨c',h⟩:=this;refine⟨false,c',?_,rfl⟩
 erw[h]
 rfl
theorem b4Y{c c':List (List Int)}{n:Nat}(hc:a4r c n){s:a0W}(hs:a2t (c.length:Int) s=true){sign:Int}(h:a4C sign s c=some c'):a4r c' n∧c'.length=c.length:=by
 obtain⟨a1,a2,a3,a4,a5,a6,a7⟩:=a3Q.1 hs;have hx:=a7A hc (i:=s.1.toNat) (by omega);have hy:=a7A hc (i:=s.2.1.toNat) (by omega);unfold a4C at h;simp only at h
 split at h
 rename_i hA;cases h;refine⟨fun r hr=>?_,by simp⟩;rcases List.mem_or_eq_of_mem_set hr with hr|rfl;exact hc r hr;exact⟨by rw[d5v _ _ (by omega)];exact hy.1,hA⟩;cases h
theorem c8Z(g:Int):∀xs ys:List Int,xs.length=ys.length→b1j (-1) g xs (b1j 1 g xs ys)=ys
 | [],[],_=>rfl
 |x::xs,y::ys,h=>by
  have ih:=c8Z g xs ys (by simpa using h);show a7T (-1) g x (a7T 1 g x y)::b1j (-1) g xs (b1j 1 g xs ys)=_;rw[ih];unfold a7T;congr 1;omega
 | [],_::_,h=>by simp at h
 |_::_,[],h=>by simp at h
theorem d3Z{c c':List (List Int)}{n:Nat}(hc:a4r c n){s:a0W}(hs:a2t (c.length:Int) s=true)(h:a4C 1 s c=some c'):a4C (-1) s c'=some c:=by
 obtain⟨a1,a2,a3,a4,a5,a6,a7⟩:=a3Q.1 hs;have hx:=a7A hc (i:=s.1.toNat) (by omega);have hy:=a7A hc (i:=s.2.1.toNat) (by omega);have hb:s.2.1.toNat<c.length:=by omega
 unfold a4C at h;simp only at h
 split at h
 cases h;unfold a4C;simp only;rw[a6K _ (show s.1.toNat≠s.2.1.toNat by omega),a8I _ hb,c8Z _ _ _ (by omega),if_pos hy.2,List.set_set];congr 1;apply b20;intro i
 by_cases hi:s.2.1.toNat=i
 subst hi;rw[a69 hb,lD,lG hb];rfl;rw[a75 hi];cases h
def doO:List a0W→List (List Int)→Option (List (List Int))
 | [],c=>some c
 |s::l,c=>(a4C 1 s c).bind (doO l)
def b2r:List a0W→List (List Int)→Option (List (List Int))
 | [],c=>some c
 |s::l,c=>(b2r l c).bind (a4C (-1) s)
theorem b5h{n:Nat}{N:Nat}:∀(l:List a0W){c c':List (List Int)},a4r c n→c.length=N→l.all (a2t (N:Int))=true→doO l c=some c'→a4r c' n∧c'.length=N
 | [],c,c',hc,hl,_,h=>by cases h;exact⟨hc,hl⟩
 |s::l,c,c',hc,hl,hs,h=>by
  simp only[a08,bA]at hs;simp only[doO,a47]at h;obtain⟨d,h1,h2⟩:=h;obtain⟨k1,k2⟩:=b4Y hc (by rw[hl];exact hs.1) h1;exact b5h l k1 (by omega) hs.2 h2
theorem d0z{n:Nat}{N:Nat}:∀(l:List a0W){c c':List (List Int)},a4r c n→c.length=N→l.all (a2t (N:Int))=true→doO l c=some c'→b2r l c'=some c
 | [],c,c',_,_,_,h=>by cases h;rfl
 |s::l,c,c',hc,hl,hs,h=>by
  simp only[a08,bA]at hs;simp only[doO,a47]at h;obtain⟨d,h1,h2⟩:=h;obtain⟨k1,k2⟩:=b4Y hc (by rw[hl];exact hs.1) h1;simp only[b2r];rw[d0z l k1 (by omega) hs.2 h2];exact d3Z hc (by rw[hl];exact hs.1) h1
end Go.Ab
