/- Part of the proof: QK, QN, QO, QP, QQ, QR, QRA, QRB, QRC, QRD, QRE, QRF, QRG, QRH, QRI, QRJ, QS, QT, QU, QUA, QUB, QUC, QUD, QUE, QUF, QUG, QUH, QUI, QUJ, QUK, QUL, QUM, QUN, QUO, QUP, QUQ, QUR, QV, QW, QX, QY, QZA, QZB, QZC, QZD, QZE, QZF, QZG, QZH, QZI, QZJ, QZK, QZL, QZM, QZN, R. Conditions: as each statement tells. -/
import Derived.KernelRfl
import Derived.Test.YtimgpmdfgkgobaaGreatDoorRows
import Derived.ProofKit
import Derived.LaidMore
import Derived.LaidLaws
import Derived.LaidHandle
import Derived.LaidByTextLater
import Derived.OpenShut
import Derived.Handed
import Derived.Test.YtimgpmdfgkgobaaGreatDoorMF
noncomputable section
set_option linter.unusedSimpArgs false
set_option linter.unusedVariables false
open BitVec renaming ofInt→a16,ofInt_natCast→a42,toNat_ofNat→a46,toNat_and→a65,toNat_ofInt→a83
open Bool renaming and_self→a02,not_false→a06,true_and→a18,or_eq_true→a19,not_eq_true'→a29,false_and→a40,eq_false_iff→a50,or_eq_false_iff→a78
open Int renaming eq_ofNat_of_zero_le→a05,toNat→a24,natCast_dvd_natCast→a31,cast_ofNat_Int→a33,fdiv_eq_ediv_of_nonneg→a43,dvd_mul_of_dvd_left→a48,mul_nonneg→a57,natCast_nonneg→a62,mul_fdiv_cancel_left→a64,dvd_add_left→a67,dvd_zero→a69,natCast_inj→a75,toNat_of_nonneg→a80,tmod→a81,bmod_add_bmod→a87,sub_mul→a88,natCast_mul→a93,natCast_pow→a94
open List renaming drop_eq_getElem_cons→a00,length_take→a01,getElem_mem→a03,length_drop→a04,drop_zero→a07,drop_length→a08,all_cons→a09,nil_append→a20,take_length→a21,replicate→a23,append_nil→a25,mem_of_mem_take→a27,mem_of_mem_drop→a28,append_eq→a32,take_succ_eq_append_getElem→a36,getElem?_take→a37,mem_singleton→a38,singleton_append→a39,sum_cons→a44,map_cons→a45,getElem?_set_self→a51,getElem?_set_ne→a54,mem_map→a55,getElem?_drop→a60,mem_cons_self→a61,ext_getElem?→a63,cons_append→a66,not_mem_nil→a68,foldl_cons→a70,take_of_length_le→a73,mem_cons_of_mem→a77,mem_append_left→a79,getD→a86,length_nil→a96,take_zero→a97,drop→a98,take→a99
open Nat renaming pow_le_pow_right→a17,two_pow_pos→a30,le_refl→a34,mul_le_mul_right→a35,add_zero→a41,lt_trans→a47,dvd_iff_mod_eq_zero→a49,mod_eq_of_lt→a52,and_two_pow_sub_one_eq_mod→a53,mod_lt→a56,testBit_two_pow_mul_add→a58,lt_of_le_of_lt→a59,min_eq_left→a71,div_le_self→a72,pow_dvd_pow→a74,mul_le_mul→a76,one_le_two_pow→a82,mul_comm→a84,le_of_lt→a85,mul_add→a89,mul_one→a90,le_of_not_lt→a91,lt_of_not_le→a92,div_add_mod→a95
open Option renaming bind_eq_some_iff→a22,map_eq_some_iff→a26
namespace Go.Ab
open IntKind(wrap)
def a1U(x w:Int):Bool:=decide (1≤w)&&(decide (w≤31)&&(decide (a0z .i64 (-1) (w-1)≤x)&&decide (x≤wrap .i64 (a0z .i64 1 (w-1)-1))))
theorem a6u{x:Int}{w:Nat}(hw:w≤32):a4d (x,(w:Int))=some (a1U x w):=by
 unfold a4d a1U b3W b2N
 by_cases h1:1≤(w:Int)
 by_cases h2:(w:Int)≤31
 have g1:decide ((w:Int)<1)=false:=by simp;omega
 have g2:decide ((w:Int) > 31)=false:=by simp;omega
 have e:wrap .i64 ((w:Int)-1)=(w:Int)-1:=a0n (by omega);have g3:decide ((w:Int)-1<0)=false:=by simp;omega
 have h1':decide ((w:Int)≥1)=true:=by simp;omega
 simp only[h1',h1,h2,g1,g2,g3,e,decide_true,cT,cF,oB,a18]
 by_cases h3:a0z .i64 (-1) ((w:Int)-1)≤x<;>simp[h3]
 have h1':decide ((w:Int)≥1)=true:=by simp;omega
 simp only[h1',h1,h2,decide_true,decide_false,cT,cF,a18,a40];have h1':decide ((w:Int)≥1)=false:=by simp;omega
 simp only[h1',h1,decide_false,cF,a40]
theorem c7L{x:Int}{w:Nat}(hw:w≤32):b2y (x,(w:Int))=some (a1U x w):=by
 unfold b2y a1U c1e b9e
 by_cases h1:1≤(w:Int)
 by_cases h2:(w:Int)≤31
 have g1:decide ((w:Int)<1)=false:=by simp;omega
 have g2:decide ((w:Int) > 31)=false:=by simp;omega
 have e:wrap .i64 ((w:Int)-1)=(w:Int)-1:=a0n (by omega);have eu:wrap .u64 ((w:Int)-1)=(w:Int)-1:=a5m (by omega);have g3:decide ((w:Int)-1<0)=false:=by simp;omega
 have h1':decide ((w:Int)≥1)=true:=by simp;omega
 simp only[h1',h1,h2,g1,g2,g3,e,eu,decide_true,cT,cF,oB,a18]
 by_cases h3:a0z .i64 (-1) ((w:Int)-1)≤x<;>simp[h3]
 have h1':decide ((w:Int)≥1)=true:=by simp;omega
 simp only[h1',h1,h2,decide_true,decide_false,cT,cF,a18,a40];have h1':decide ((w:Int)≥1)=false:=by simp;omega
 simp only[h1',h1,decide_false,cF,a40]
def a2c(x:Int):Nat→Nat→Nat
 |0,w=>w
 |k+1,w=>bif (x != 0)&&!a1U x w then a2c x k (w+1)else w
theorem c1i(x:Int):∀(k w:Nat),a2c x k w≤w+k
 |0,w=>a34 _
 |k+1,w=>by
  simp only[a2c];cases (x != 0)&&!a1U x w with
  |true=>have:=c1i x k (w+1);simp only[cT];omega
  |false=>simp only[cF];omega
def a0u(l:List Int):Nat:=l.foldl (fun w x=>a2c x (32-w) w) 0
theorem b7R:∀(l:List Int)(w:Nat),w≤32→l.foldl (fun w x=>a2c x (32-w) w) w≤32
 | [],w,h=>h
 |x::l,w,h=>b7R l _ (show a2c x (32-w) w≤32 by have:=c1i x (32-w) w;omega)
theorem a6z(l:List Int):a0u l≤32:=b7R l 0 (by omega)
theorem c4w{x:Int}{l:List Int}{n i:Int}:∀(k w:Nat),w+k=32→a0h a3o ((w:Int),x,l,n,i,())=some (((a2c x k w:Nat):Int),l,n,i,())
 |0,w,h=>by
  obtain rfl:w=32:=by omega
  exact a0q (by cases hx:(x != 0)<;>simp[a3o,hx,a2c])
 |k+1,w,h=>by
  have h1:decide ((w:Int)<32)=true:=by simp;omega
  simp only[a2c];cases hx:(x != 0)with
  |false=>exact a0q (by simp only[a3o,hx,cF,a40])
  |true=>
   cases hf:a1U x w with
   |true=>exact a0q (by simp only[a3o,hx,h1,a6u (show w≤32 by omega),hf,oB,cT,cF,bT,Bool.and_false])
   |false=>
    rw[a0x (s':=(((w+1:Nat):Int),x,l,n,i,())) (by simp only[a3o,hx,h1,a6u (show w≤32 by omega),hf,oB,cT,a06,a0f (show w<1000000 by omega)])];exact c4w k (w+1) (by omega)
theorem a5I{l:List Int}(hs:short l):a1L l=some ((a0u l:Nat):Int):=by
 have hs:l.length<1000000:=hs
 have:=a3t (f:=a5U) l (fun i (w:Nat)=>((w:Int),l,(l.length:Int),(i:Int),())) (fun w x=>(.inl (a2c x (32-w) w):Nat ⊕ (Int×Unit))) (fun _ w=>w≤32) (fun w=>((w:Int),()))
  (fun i h w hw=>⟨fun a' ha=>by
   simp only[Sum.inl.injEq]at ha;subst ha;refine⟨?_,by have:=c1i l[i] (32-w) w;omega⟩;simp only[a5U,dlt h,cT,a0c h,oB,c4w (32-w) w (by omega),a0f (show i<1000000 by omega)],fun b hb=>(by cases hb)⟩)
  (fun w _=>by simp[a5U]) (a:=0) (by omega)
 simp only[nZ]at this;unfold a1L;rw[this];have key:∀(l:List Int)(w:Nat),a3k (fun w x=>(.inl (a2c x (32-w) w):Nat ⊕ (Int×Unit))) l w=.inl (l.foldl (fun w x=>a2c x (32-w) w) w):=by
  intro l
  induction l with
  |nil=>intro w;rfl
  |cons x l ih=>intro w;simp only[a3k,a70,ih]
 rw[key];rfl
theorem b0I(x:Int):a7x x=some (a0b x):=by
 unfold a7x a0b
 by_cases h:-1073741824≤x<;>simp[h]
def a0T(x:Int):Nat:=if 0≤x then(2*x).toNat else(-2*x-1).toNat
theorem b7g{x:Int}(h:a0b x=true):a0T x<2147483648:=by
 have:=a2z.1 h
 unfold a0T
 split<;>omega
theorem b0J{x:Int}(h:a0b x=true):a9e x=some ((a0T x:Nat):Int):=by
 have hx:=a2z.1 h;unfold a9e a0T;simp only[b0I,h,oB,bT,cF]
 by_cases h0:0≤x
 have h0':decide (x≥0)=true:=by simp;omega
 simp only[h0',cT,if_pos h0];rw[a0n (n:=2*x) (by omega),a5m (by omega)];congr 1;omega;have h0':decide (x≥0)=false:=by simp;omega
 simp only[h0',cF,if_neg h0];rw[a0n (n:=-2*x) (by omega),a0n (n:=-2*x-1) (by omega),a5m (by omega)];congr 1;omega
theorem b2C{N o:Nat}(h:o≤64):a0A .u64 (N:Int) (o:Int)=((N / 2^o:Nat):Int):=c6y h
theorem c4x{N o:Nat}(h:o≤64)(hs:N*2^o<9223372036854775808):a0z .u64 (N:Int) (o:Int)=((N*2^o:Nat):Int):=by
 unfold a0z;show wrap .u64 ((N:Int)*2^(min (o:Int).toNat 64))=_;rw[tN,a71 h];have e:(N:Int)*2^o=((N*2^o:Nat):Int):=by rw[a93,a94];rfl
 rw[e];exact a5m (by omega)
theorem d2w{y k:Nat}(hy:y<18446744073709551616)(hk:k≤62):bits .u64 .and (y:Int) (wrap .u64 (a0z .u64 1 (k:Int)-1))=((y%2^k:Nat):Int):=by
 have hp:2^k≤2^62:=a17 (by decide) hk;have hp1:1≤2^k:=a82;have hp2:(2:Nat)^62=4611686018427387904:=by decide
 have e0:a0z .u64 1 (k:Int)=((2^k:Nat):Int):=by have:=c4x (N:=1) (o:=k) (by omega) (by omega);simpa using this
 have e1:wrap .u64 (((2^k:Nat):Int)-1)=((2^k-1:Nat):Int):=by rw[a5m (by omega)];omega
 rw[e0,e1];show wrap .u64 (((a16 64 (y:Int)) &&& (a16 64 ((2^k-1:Nat):Int))).toNat:Int)=_;rw[a42,a42,a65,a46,a46,a52 hy,a52 (by omega),a53]
 have:y%2^k<2^k:=a56 _ (by omega)
 exact a5m (by omega)
theorem c1j{q:Nat}(h:q<2147483648):wrap .i64 (q:Int)=(q:Int):=a0n (by omega)
def a9z(k:Nat)(x:Int)(L:List Int):List Int:=
 if a0T x / 2^k<32 then a0s ((a0T x%2^k:Nat):Int) k (unL (a0T x / 2^k) L)else a0s ((a0T x:Nat):Int) 32 (unL 32 L)
def a6v(k:Nat)(l:List Int)(L:List Int):List Int:=l.foldl (fun L x=>a9z k x L) L
theorem b9l{k:Nat}(hk:k≤25)(x:Int)(L:List Int):L.length≤(a9z k x L).length∧(a9z k x L).length≤L.length+100:=by
 unfold a9z;split;rename_i hq;have h1:=a0y ((a0T x%2^k:Nat):Int) k (unL (a0T x / 2^k) L);have h2:=a8M (a0T x / 2^k) L;generalize unL (a0T x / 2^k) L=M at h1 h2⊢;generalize a0T x / 2^k=q at hq h2;omega;have h1:=a0y ((a0T x:Nat):Int) 32 (unL 32 L);have h2:=a8M 32 L;omega
theorem b7S{k:Nat}(hk:k≤25):∀(l L:List Int),L.length≤(a6v k l L).length∧(a6v k l L).length≤L.length+100*l.length
 | [],L=>by simp[a6v]
 |x::l,L=>by
  have h1:=b9l hk x L;have h2:=b7S hk l (a9z k x L);have e:a6v k (x::l) L=a6v k l (a9z k x L):=rfl;rw[e,lC];omega
theorem a8R{k:Nat}(hk:k≤25):a3J (k:Int)=some true:=by
 unfold a3J;have h1:decide ((0:Int)≤(k:Int))=true:=by simp
 have h2:decide ((k:Int)≤25)=true:=by simp;omega
 simp only[h1,h2,cT]
theorem c7M{k:Nat}{l L:List Int}(hk:k≤25)(hl:l.length<10000)(hw:l.all a0b=true)(hL:L.length<900000000):b3i (wL L,(k:Int),l)=some (0,wL (a6v k l L)):=by
 have h0:=a1E (f:=a9u) l (fun i=>((k:Int),l,l,(l.length:Int),(i:Int),wL L,())) (fun _=>true) (bt:=Sum.inl ((k:Int),l,wL L,())) (bf:=Sum.inl ((k:Int),l,wL L,()))
  (fun i h _=>by
   have:=lA.1 hw _ (a03 h)
   simp only[a9u,dlt h,cT,a0c h,oB,b0I,this,bT,cF,a0f (show i<1000000 by omega)])
  (fun i h hp=>by simp at hp) (by simp[a9u])
 have key:∀(j i:Nat)(L':List Int),i+j=l.length→L'.length+100*j<999990000→a0h a7h ((k:Int),l,(l.length:Int),(i:Int),wL L',())=some (wL (a6v k (l.drop i) L'),()):=by
  intro j
  induction j with
  |zero=>
   intro i L' hi _;obtain rfl:i=l.length:=by omega
   rw[a08];exact a0q (by simp[a7h,a6v])
  |succ j ih=>
   intro i L' hi hb;have hlt:i<l.length:=by omega
   have hwi:=lA.1 hw _ (a03 hlt);have hy:=b7g hwi;have hrl:=b9l hk l[i] L';have hk0:decide ((k:Int)<0)=false:=by simp
   have eq:a0A .u64 ((a0T l[i]:Nat):Int) (k:Int)=((a0T l[i] / 2^k:Nat):Int):=b2C (by omega);have hql:=a72 (a0T l[i]) (2^k);have hmod:=a95 (a0T l[i]) (2^k);have emul:a0z .u64 ((a0T l[i] / 2^k:Nat):Int) (k:Int)=((a0T l[i] / 2^k*2^k:Nat):Int):=c4x (by omega) (by rw[a84];omega);have em:wrap .u64 (((a0T l[i]:Nat):Int)-((a0T l[i] / 2^k*2^k:Nat):Int))=((a0T l[i]%2^k:Nat):Int):=by
    rw[a84 (a0T l[i] / 2^k)];rw[a5m (by omega)];omega
   have ew:wrap .i64 ((a0T l[i] / 2^k:Nat):Int)=((a0T l[i] / 2^k:Nat):Int):=c1j (a59 hql hy);rw[a00 hlt,a0x (s':=((k:Int),l,(l.length:Int),((i+1:Nat):Int),wL (a9z k l[i] L'),())) (by
    by_cases hq:a0T l[i] / 2^k<32
    have hd:decide (((a0T l[i] / 2^k:Nat):Int)<32)=true:=decide_eq_true (by omega);have hu:(unL (a0T l[i] / 2^k) L').length<999999000:=by
     rw[a8M];exact Nat.lt_of_lt_of_le (Nat.add_lt_add_right (Nat.add_lt_add_left hq _) 1) (by omega)
    have hun:=c6E (L:=L') (n:=a0T l[i] / 2^k) (a85 (a47 hq (by decide))) (by omega);have hp:=a3F (L:=unL (a0T l[i] / 2^k) L') (v:=((a0T l[i]%2^k:Nat):Int)) (n:=k) (by omega) hu;simp only[a7h,dlt hlt,cT,a0c hlt,oB,b0J hwi,hk0,cF,eq,hd,ew,hun,emul,em,hp,a9z,if_pos hq,a0f (show i<1000000 by omega)];have hd:decide (((a0T l[i] / 2^k:Nat):Int)<32)=false:=decide_eq_false (by omega);have hu:=a8M 32 L';have hun:a2C (wL L',(32:Int))=some (0,wL (unL 32 L')):=c6E (L:=L') (n:=32) (by omega) (by omega);have hp:a0j (wL (unL 32 L'),((a0T l[i]:Nat):Int),(32:Int))=some (a8j ((a0T l[i]:Nat):Int) 32,wL (a0s ((a0T l[i]:Nat):Int) 32 (unL 32 L'))):=a3F (L:=unL 32 L') (v:=((a0T l[i]:Nat):Int)) (n:=32) (by omega) (by omega);simp only[a7h,dlt hlt,cT,a0c hlt,oB,b0J hwi,hk0,cF,eq,hd,hun,hp,a9z,if_neg hq,a0f (show i<1000000 by omega)])]
   exact ih (i+1) _ (by omega) (by omega)
 have h1:=key l.length 0 L (by omega) (by omega);simp only[nZ,a07]at h0 h1;unfold b3i;simp only[a8R hk,oB,bT,cF,h0];cases l.all (fun _=>true)<;>simp only[cT,cF,h1,oB]
end Go.Ab
namespace Go.Ab
open IntKind(wrap)
def a2f(zn:List Nat):List Int:=zn.map fun(a:Nat)=>(a:Int)
theorem c4Y(n M:Nat):(a23 n M).sum=n*M:=by
 induction n with
 |zero=>simp
 |succ n ih=>rw[List.replicate_succ,a44,ih,Nat.succ_mul,Nat.add_comm]
theorem b5O{o n warm:Int}(h:(a1w o n warm).length≠0):∃zn:List Nat,a1w o n warm=a2f zn∧(zn.sum:Int)=n-warm∧zn.length≤256:=by
 unfold a1w at h⊢;cases hr:(a5P n warm&&(decide (0≤o)&&decide (o≤8)))with
 |false=>rw[hr]at h;simp at h
 |true=>
  rw[hr]at h;simp only[cT]at h⊢;simp only[a5P,bA,dT]at hr;unfold b6u at h⊢
  split at h
  rename_i hc;rw[if_pos hc];obtain⟨O,rfl⟩:=a05 hr.2.1;obtain⟨N,rfl⟩:=a05 (show 0≤n by omega);obtain⟨w,rfl⟩:=a05 (show 0≤warm by omega);simp only[tN]at hc⊢;have hp:=d5g (o:=O) (by omega);have hm:=a95 N (2^O);rw[hc.1,a41]at hm;have hw:w≤N / 2^O:=by have:=hc.2;omega
  generalize N / 2^O=M at hc hw hm⊢;generalize 2^O=P at hp hm⊢;refine⟨(M-w)::a23 (P-1) M,?_,?_,?_⟩;simp only[a2f,a45,List.map_replicate];congr 1;omega;rw[a44,c4Y];obtain⟨q,rfl⟩:∃q,P=q+1:=⟨P-1,by omega⟩;rw[Nat.add_sub_cancel];rw[Nat.succ_mul]at hm;omega
  simp;omega
  exact absurd rfl h
def b1X(k:Int)(part L:List Int):List Int:=
 if k=31 then a1T (a0u part) part (a0s ((a0u part:Nat):Int) 5 (a0s (wrap .u64 k) 5 L))else a6v k.toNat part (a0s (wrap .u64 k) 5 L)
def a6w:List Nat→List Int→List Int→List Int→List Int
 |z::zs,k::ks,l,L=>a6w zs ks (l.drop z) (b1X k (l.take z) L)
 |_,_,_,L=>L
theorem b9m{k:Int}(hk:kB k=true)(part L:List Int):L.length≤(b1X k part L).length∧(b1X k part L).length≤L.length+10+100*part.length:=by
 unfold b1X;have h1:=a0y (wrap .u64 k) 5 L;split;have h2:=a0y ((a0u part:Nat):Int) 5 (a0s (wrap .u64 k) 5 L);have h3:=a6t (a0u part) part (a0s ((a0u part:Nat):Int) 5 (a0s (wrap .u64 k) 5 L));have hw:=a6z part
 have:a0u part*part.length≤32*part.length:=a35 _ hw
 omega;rename_i hne;simp only[kB,a19,bA,dT,beq_iff_eq]at hk;have h3:=b7S (k:=k.toNat) (by omega) part (a0s (wrap .u64 k) 5 L);omega
theorem a8k{zn:List Nat}{i:Nat}(h:i<zn.length):a86 (a2f zn) i 0=((zn[i]:Nat):Int):=by
 rw[b7d (by simpa[a2f]using h)];simp[a2f]
theorem a1W(zn:List Nat):(a2f zn).length=zn.length:=by simp[a2f]
theorem b7h{zn:List Nat}{i:Nat}(h:i<zn.length):(zn.drop i).sum=zn[i]+(zn.drop (i+1)).sum:=by
 rw[a00 h,a44]
theorem c6F{part rest:List Int}{wd:Nat}{a b:Int}{z:List Int}{p:Prt}(hw:wd≤32)(hp:part.length<10000):∀(j i:Nat)(L:List Int),i+j=part.length→L.length+64*j<999990000→
  a0h a8E (rest,(wd:Int),a,b,part,(part.length:Int),(i:Int),z,wL L,p,())=some (rest,a,b,z,wL (a1T wd (part.drop i) L),p,())
 |0,i,L,hi,_=>by
  obtain rfl:i=part.length:=by omega
  rw[a08];exact a0q (by simp[a8E,a1T])
 |j+1,i,L,hi,hb=>by
  have hlt:i<part.length:=by omega
  have h2:decide ((wd:Int)<0)=false:=by simp
  have hpl:=a0y (a3y part[i] wd) wd L;rw[a00 hlt,a0x (s':=(rest,(wd:Int),a,b,part,(part.length:Int),((i+1:Nat):Int),z,wL (a0s (a3y part[i] wd) wd L),p,())) (by
   simp only[a8E,dlt hlt,cT,a0c hlt,oB,h2,cF,show bits .u64 .and (wrap .u64 part[i]) (wrap .u64 ((a0z .u64 1 (wd:Int))-1))=a3y part[i] wd from rfl,a3F (show wd≤63 by omega) (show L.length<999999000 by omega),a0f (show i<1000000 by omega)])]
  exact c6F hw hp j (i+1) _ (by omega) (by omega)
theorem b6x{zn:List Nat}{p:Prt}(hk:p.2.1.length=zn.length)(hall:p.2.1.all kB=true)(hz:zn.length≤256):∀(j i:Nat)(l L:List Int),i+j=zn.length→(zn.drop i).sum=l.length→l.all a0b=true→l.length≤5000→L.length+10*j+100*l.length<800000000→
  a0h a4H (l,(zn.length:Int),(i:Int),a2f zn,wL L,p,())=some (wL (a6w (zn.drop i) (p.2.1.drop i) l L),())
 |0,i,l,L,hi,_,_,_,_=>by
  obtain rfl:i=zn.length:=by omega
  rw[a08];exact a0q (by simp[a4H,a6w])
 |j+1,i,l,L,hi,hsum,hw,hl5,hb=>by
  have hlt:i<zn.length:=by omega
  have hki:i<p.2.1.length:=by omega
  have hkb:=lA.1 hall _ (a03 hki);rw[b7h hlt]at hsum;have h0:decide ((0:Int)≤(i:Int))=true:=by simp
  have h1:decide ((i:Int)<(((a2f zn).length:Nat):Int))=true:=by rw[a1W];simp;omega
  have h2:decide ((0:Int)≤((zn[i]:Nat):Int))=true:=by simp
  have h3:decide (((zn[i]:Nat):Int)≤((l.length:Nat):Int))=true:=by simp;omega
  have hpart:(l.take zn[i]).length=zn[i]:=by rw[a01];omega
  have hrest:(l.drop zn[i]).length=(zn.drop (i+1)).sum:=by rw[a04];omega
  have hwp:(l.take zn[i]).all a0b=true:=lA.2 fun x hx=>lA.1 hw x (a27 hx);have hwr:(l.drop zn[i]).all a0b=true:=lA.2 fun x hx=>lA.1 hw x (a28 hx);have hpl:=b9m hkb (l.take zn[i]) L;have hp1:=a0y (wrap .u64 p.2.1[i]) 5 L;have hput:a0j (wL L,wrap .u64 p.2.1[i],(5:Int))=some (a8j (wrap .u64 p.2.1[i]) 5,wL (a0s (wrap .u64 p.2.1[i]) 5 L)):=a3F (n:=5) (by omega) (by omega);have ed:zn.drop i=zn[i]::zn.drop (i+1):=a00 hlt;have ek:p.2.1.drop i=p.2.1[i]::p.2.1.drop (i+1):=a00 hki;rw[ed,ek,a6w];have goal:a4H (l,(zn.length:Int),(i:Int),a2f zn,wL L,p,())=some (.inl (l.drop zn[i],(zn.length:Int),((i+1:Nat):Int),a2f zn,wL (b1X p.2.1[i] (l.take zn[i]) L),p,())):=by
   by_cases h31:p.2.1[i]=31
   have hne:(p.2.1[i] != 31)=false:=by rw[h31];rfl
   have hwd:=a6z (l.take zn[i]);have hsw:=a5I (l:=l.take zn[i]) (by unfold short;omega);have hp2:=a0y ((a0u (l.take zn[i]):Nat):Int) 5 (a0s (wrap .u64 p.2.1[i]) 5 L);have ew:wrap .u64 ((a0u (l.take zn[i]):Nat):Int)=((a0u (l.take zn[i]):Nat):Int):=a5m (by omega);have hput2:a0j (wL (a0s (wrap .u64 p.2.1[i]) 5 L),((a0u (l.take zn[i]):Nat):Int),(5:Int))=some (a8j ((a0u (l.take zn[i]):Nat):Int) 5,wL (a0s ((a0u (l.take zn[i]):Nat):Int) 5 (a0s (wrap .u64 p.2.1[i]) 5 L))):=a3F (n:=5) (by omega) (by omega);have hraw:=c6F (part:=l.take zn[i]) (rest:=l.drop zn[i]) (a:=(zn.length:Int)) (b:=(i:Int)) (z:=a2f zn) (p:=p) hwd (by omega) (l.take zn[i]).length 0 (a0s ((a0u (l.take zn[i]):Nat):Int) 5 (a0s (wrap .u64 p.2.1[i]) 5 L)) (by omega) (by omega);simp only[nZ,a07]at hraw;simp only[a4H,dlt hlt,h0,h1,a8k hlt,h2,h3,cT,a02,tN,a0c hki,oB,hput,hne,cF,hsw,ew,hput2,a21,hraw,a0f (show i<1000000 by omega),b1X,if_pos h31];have hne:(p.2.1[i] != 31)=true:=by simp[h31]
   simp only[kB,a19,bA,dT,beq_iff_eq]at hkb;obtain⟨K,hK⟩:=a05 (show 0≤p.2.1[i]by omega);have hrice:=c7M (k:=K) (l:=l.take zn[i]) (L:=a0s (wrap .u64 p.2.1[i]) 5 L) (by omega) (by omega) hwp (by omega);rw[←hK]at hrice;have eK:K=p.2.1[i].toNat:=by rw[hK,tN]
   simp only[a4H,dlt hlt,h0,h1,a8k hlt,h2,h3,cT,a02,tN,a0c hki,oB,hput,hne,hrice,a21,a0f (show i<1000000 by omega),b1X,if_neg h31,eK]
  rw[a0x goal];exact b6x hk hall hz j (i+1) (l.drop zn[i]) _ (by omega) hrest.symm hwr (by rw[a04];omega) (by rw[a04];omega)
end Go.Ab
namespace Go.Ab
open IntKind(wrap)
theorem c3I{k:Nat}(hk:k≤25){x:Int}(hw:a0b x=true):∃c,a7y ((k:Int),x)=some c∧0≤c∧c≤65:=by
 have hy:=b7g hw;have eq:a0A .u64 ((a0T x:Nat):Int) (k:Int)=((a0T x / 2^k:Nat):Int):=b2C (by omega);have ew:wrap .i64 ((a0T x / 2^k:Nat):Int)=((a0T x / 2^k:Nat):Int):=c1j (a59 (a72 _ _) hy);have hk0:decide ((k:Int)<0)=false:=by simp
 unfold a7y;simp only[a8R hk,b0I,hw,oB,bT,cF,b0J hw,hk0,eq,ew];generalize a0T x / 2^k=q
 by_cases hq:q<32
 have hd:decide ((q:Int)<32)=true:=decide_eq_true (by omega);refine⟨(q:Int)+1+k,?_,by omega,by omega⟩;simp only[hd,cT];rw[a0n (n:=(q:Int)+1) (by omega),a0n (by omega)];have hd:decide ((q:Int)<32)=false:=decide_eq_false (by omega);exact⟨65,by simp only[hd,cF],by omega,by omega⟩
theorem c4Z{k:Nat}(hk:k≤25){l:List Int}(hw:l.all a0b=true)(hl:l.length<10000):∃c,a3N ((k:Int),l)=some c∧0≤c∧c≤65*l.length:=by
 have key:∀(j i:Nat)(c:Int),i+j=l.length→0≤c→c≤65*i→∃c',a0h a4f ((k:Int),c,l,(l.length:Int),(i:Int),())=some (c',())∧0≤c'∧c'≤65*l.length:=by
  intro j
  induction j with
  |zero=>
   intro i c hi h0 h1;obtain rfl:i=l.length:=by omega
   exact⟨c,a0q (by simp[a4f]),h0,h1⟩
  |succ j ih=>
   intro i c hi h0 h1;have hlt:i<l.length:=by omega
   obtain⟨d,hd,hd0,hd1⟩:=c3I hk (lA.1 hw _ (a03 hlt));have e:wrap .i64 (c+d)=c+d:=a0n (by omega);rw[a0x (s':=((k:Int),c+d,l,(l.length:Int),((i+1:Nat):Int),())) (by simp only[a4f,dlt hlt,cT,a0c hlt,oB,hd,e,a0f (show i<1000000 by omega)])];exact ih (i+1) _ (by omega) (by omega) (by omega)
 obtain⟨c,h1,h2,h3⟩:=key l.length 0 0 (by omega) (by omega) (by omega);simp only[nZ]at h1;exact⟨c,by unfold a3N;simp only[h1,oB],h2,h3⟩
theorem d1t{w n:Nat}(hw:w≤32)(hn:n<10000):0≤(w:Int)*(n:Int)∧(w:Int)*(n:Int)≤32*n:=by
 have h:w*n≤32*n:=a35 _ hw;have e:(w:Int)*(n:Int)=((w*n:Nat):Int):=by rw[a93]
 omega
theorem c3J{l:List Int}(hl:l.length<10000):∃c,a5O l=some c∧0≤c∧c≤5+32*l.length:=by
 have hm:=d1t (a6z l) hl;refine⟨5+((a0u l:Nat):Int)*((l.length:Nat):Int),?_,by omega,by omega⟩;unfold a5O;simp only[a5I (show short l by unfold short;omega),oB];rw[a0n (n:=((a0u l:Nat):Int)*((l.length:Nat):Int)) (by omega),a0n (by omega)]
theorem b5b{zn:List Nat}{p:Prt}(hk:p.2.1.length=zn.length)(hall:p.2.1.all kB=true)(hz:zn.length≤256):∀(j i:Nat)(l:List Int)(c:Int),i+j=zn.length→(zn.drop i).sum=l.length→l.all a0b=true→l.length≤5000→4≤c→c+10*j+65*l.length<1000000→
  ∃c',a0h a1C (l,c,(zn.length:Int),(i:Int),a2f zn,p,())=some (c',())∧4≤c'
 |0,i,l,c,hi,_,_,_,hc,_=>by
  obtain rfl:i=zn.length:=by omega
  exact⟨c,a0q (by simp[a1C]),hc⟩
 |j+1,i,l,c,hi,hsum,hw,hl5,hc,hb=>by
  have hlt:i<zn.length:=by omega
  have hki:i<p.2.1.length:=by omega
  have hkb:=lA.1 hall _ (a03 hki);rw[b7h hlt]at hsum;have h0:decide ((0:Int)≤(i:Int))=true:=by simp
  have h1:decide ((i:Int)<(((a2f zn).length:Nat):Int))=true:=by rw[a1W];simp;omega
  have h2:decide ((0:Int)≤((zn[i]:Nat):Int))=true:=by simp
  have h3:decide (((zn[i]:Nat):Int)≤((l.length:Nat):Int))=true:=by simp;omega
  have hpart:(l.take zn[i]).length=zn[i]:=by rw[a01];omega
  have hrest:(l.drop zn[i]).length=(zn.drop (i+1)).sum:=by rw[a04];omega
  have hwp:(l.take zn[i]).all a0b=true:=lA.2 fun x hx=>lA.1 hw x (a27 hx);have hwr:(l.drop zn[i]).all a0b=true:=lA.2 fun x hx=>lA.1 hw x (a28 hx);have goal:∃d,a1C (l,c,(zn.length:Int),(i:Int),a2f zn,p,())=some (.inl (l.drop zn[i],c+d,(zn.length:Int),((i+1:Nat):Int),a2f zn,p,()))∧0≤d∧d≤10+65*zn[i]:=by
   by_cases h31:p.2.1[i]=31
   have hne:(p.2.1[i]==31)=true:=by rw[h31];rfl
   obtain⟨r,hr,hr0,hr1⟩:=c3J (l:=l.take zn[i]) (by omega);have e1:wrap .i64 (5+r)=5+r:=a0n (by omega);have e2:wrap .i64 (c+(5+r))=c+(5+r):=a0n (by omega);refine⟨5+r,?_,by omega,by omega⟩;simp only[a1C,dlt hlt,h0,h1,a8k hlt,h2,h3,cT,a02,tN,a0c hki,oB,hne,hr,e1,e2,a21,a0f (show i<1000000 by omega)];have hne:(p.2.1[i]==31)=false:=by simp[h31]
   simp only[kB,a19,bA,dT,beq_iff_eq]at hkb;obtain⟨K,hK⟩:=a05 (show 0≤p.2.1[i]by omega);obtain⟨r,hr,hr0,hr1⟩:=c4Z (k:=K) (by omega) hwp (by omega);rw[←hK]at hr;have e1:wrap .i64 (5+r)=5+r:=a0n (by omega);have e2:wrap .i64 (c+(5+r))=c+(5+r):=a0n (by omega);refine⟨5+r,?_,by omega,by omega⟩;simp only[a1C,dlt hlt,h0,h1,a8k hlt,h2,h3,cT,cF,a02,tN,a0c hki,oB,hne,hr,e1,e2,a21,a0f (show i<1000000 by omega)]
  obtain⟨d,hd,hd0,hd1⟩:=goal;rw[a0x hd];exact b5b hk hall hz j (i+1) (l.drop zn[i]) _ (by omega) hrest.symm hwr (by rw[a04];omega) (by omega) (by rw[a04];omega)
structure PartsOk (p:Prt) (n warm:Int) (l:List Int) (zn:List Nat):Prop where
 may:a6s p n warm=true
 sizes:a1w p.1 n warm=a2f zn
 sum:zn.sum=l.length
 len:zn.length≤256
 ks:p.2.1.length=zn.length
 all:p.2.1.all kB=true
 wide:l.all a0b=true
 short:l.length≤5000
 row:a5P n warm=true
 rest:(l.length:Int)=n-warm
 order:0≤p.1∧p.1≤8
theorem PartsOk.of{p:Prt}{n warm:Int}{l:List Int}(h:a6s p n warm=true)(hl:(l.length:Int)=n-warm)(hw:l.all a0b=true)(h5:l.length≤5000):∃zn,PartsOk p n warm l zn:=by
 have h':=h;simp only[a6s,bA,a29,beq_eq_false_iff_ne,ne_eq,beq_iff_eq]at h';obtain⟨h1,h2,h3⟩:=h';obtain⟨zn,g1,g2,g3⟩:=b5O h1;have hr:a5P n warm=true∧0≤p.1∧p.1≤8:=by
  unfold a1w at h1;cases hr:(a5P n warm&&(decide (0≤p.1)&&decide (p.1≤8)))with
  |false=>rw[hr]at h1;simp at h1
  |true=>simpa using hr
 exact⟨zn,h,g1,by omega,g3,by rw[←h2,g1,a1W],h3,hw,h5,hr.1,hl,hr.2⟩
theorem b1r{n warm:Int}{l:List Int}(hr:a5P n warm=true)(hl:(l.length:Int)=n-warm)(hw:l.all a0b=true)(h5:l.length≤5000):a7g (n,warm,l)=some true:=by
 have e:wrap .i64 (n-warm)=n-warm:=by
  simp only[a5P,bA,dT]at hr;exact a0n (by omega)
 have h1:(((l.length:Nat):Int) != n-warm)=false:=by rw[hl];simp
 have e2:b3X=a2O:=rfl;have hs:short l:=by unfold short;omega
 have ha:=a4I hs;unfold a2j at ha;unfold a7g;simp only[b9h,hr,oB,bT,cF,e,h1,e2];rw[hw]at ha;exact ha
theorem c2A{p:Prt}{n warm:Int}{l:List Int}{zn:List Nat}(h:PartsOk p n warm l zn):∃c,a4O (p,n,warm,l)=some c∧4≤c:=by
 have hk:Go.Ab.short p.2.1:=by have:=h.ks;have:=h.len;unfold Go.Ab.short;omega
 have h5:=h.short;have hz:=h.len;obtain⟨c,h1,h2⟩:=b5b h.ks h.all h.len zn.length 0 l 4 (by omega) (by rw[a07];exact h.sum) h.wide h.short (by omega) (by omega);simp only[nZ]at h1;refine⟨c,?_,h2⟩;unfold a4O;simp only[b4p hk,h.may,b1r h.row h.rest h.wide h.short,oB,bT,cF,a2U,h.sizes,a1W,h1]
def a6A(p:Prt)(zn:List Nat)(l L:List Int):List Int:=a6w zn p.2.1 l (a0s (wrap .u64 p.1) 4 L)
theorem c6G{p:Prt}{n warm:Int}{l L:List Int}{zn:List Nat}(h:PartsOk p n warm l zn)(hL:L.length<700000000):b1O (wL L,p,n,warm,l)=some (0,wL (a6A p zn l L)):=by
 have h5:=h.short;have hz:=h.len;obtain⟨c,hc,hc4⟩:=c2A h;have hne:(c==0)=false:=by simp only[beq_eq_false_iff_ne,ne_eq];omega
 have hpl:=a0y (wrap .u64 p.1) 4 L;have hput:a0j (wL L,wrap .u64 p.1,(4:Int))=some (a8j (wrap .u64 p.1) 4,wL (a0s (wrap .u64 p.1) 4 L)):=a3F (n:=4) (by omega) (by omega);have hloop:=b6x h.ks h.all h.len zn.length 0 l (a0s (wrap .u64 p.1) 4 L) (by omega) (by rw[a07];exact h.sum) h.wide h.short (by omega);simp only[nZ,a07]at hloop;unfold b1O;simp only[hc,oB,hne,cF,hput,a2U,h.sizes,a1W,hloop,a6A]
end Go.Ab
namespace Go.Ab
open IntKind(wrap)
theorem c2B{c:List Int}{wd:Nat}(hw:wd≤32)(hc:c.length<10000):∀(j i:Nat)(L:List Int),i+j=c.length→L.length+64*j<999990000→
  a0h a5W ((wd:Int),c,(c.length:Int),(i:Int),wL L,())=some (wL (a1T wd (c.drop i) L),())
 |0,i,L,hi,_=>by
  obtain rfl:i=c.length:=by omega
  rw[a08];exact a0q (by simp[a5W,a1T])
 |j+1,i,L,hi,hb=>by
  have hlt:i<c.length:=by omega
  have hpl:=a0y (a3y c[i] wd) wd L;rw[a00 hlt,a0x (s':=((wd:Int),c,(c.length:Int),((i+1:Nat):Int),wL (a0s (a3y c[i] wd) wd L),())) (by
   simp only[a5W,dlt hlt,cT,a0c hlt,oB,b4r (show wd≤63 by omega) (show L.length<999999000 by omega),a0f (show i<1000000 by omega)])]
  exact c2B hw hc j (i+1) _ (by omega) (by omega)
theorem c4y{t:List Int}{n wd:Int}{s:Sub}(ht:t.length=3):∀(j i:Nat)(L:List Int),i+j=3→L.length+64*j<999990000→
  a0h b0u (n,wd,t,(i:Int),wL L,s,())=some (n,wd,wL (a1T 8 (t.drop i) L),s,())
 |0,i,L,hi,_=>by
  obtain rfl:i=t.length:=by omega
  rw[a08];exact a0q (by rw[ht];simp[b0u,a1T])
 |j+1,i,L,hi,hb=>by
  have hlt:i<t.length:=by omega
  have h3:decide ((i:Int)<3)=true:=by simp;omega
  have hpl:=a0y (a3y t[i] 8) 8 L;have hps:a3f (wL L,t[i],(8:Int))=some (wL (a0s (a3y t[i] 8) 8 L)):=b4r (n:=8) (by omega) (by omega);rw[a00 hlt,a0x (s':=(n,wd,t,((i+1:Nat):Int),wL (a0s (a3y t[i] 8) 8 L),s,())) (by
   simp only[b0u,h3,cT,a0c hlt,oB,hps,a0f (show i<1000000 by omega)])]
  exact c4y ht j (i+1) _ (by omega) (by omega)
theorem c4z{l:List Int}{n:Int}{wd:Nat}{s:Sub}(hw:wd≤32)(hl:l.length<10000):∀(j i:Nat)(L:List Int),i+j=l.length→L.length+64*j<999990000→
  a0h b0w (n,(wd:Int),l,(l.length:Int),(i:Int),wL L,s,())=some (n,wL (a1T wd (l.drop i) L),s,())
 |0,i,L,hi,_=>by
  obtain rfl:i=l.length:=by omega
  rw[a08];exact a0q (by simp[b0w,a1T])
 |j+1,i,L,hi,hb=>by
  have hlt:i<l.length:=by omega
  have hpl:=a0y (a3y l[i] wd) wd L;rw[a00 hlt,a0x (s':=(n,(wd:Int),l,(l.length:Int),((i+1:Nat):Int),wL (a0s (a3y l[i] wd) wd L),s,())) (by
   simp only[b0w,dlt hlt,cT,a0c hlt,oB,b4r (show wd≤63 by omega) (show L.length<999999000 by omega),a0f (show i<1000000 by omega)])]
  exact c4z hw hl j (i+1) _ (by omega) (by omega)
def a8l(s:Stg)(L:List Int):List Int:=a0s (wrap .u64 s.2.1) 4 (a0s (wrap .u64 (wrap .i64 (s.1-1))) 5 L)
def a4J(st:List Stg)(L:List Int):List Int:=st.foldl (fun L s=>a8l s L) L
theorem b7T(s:Stg)(L:List Int):(a8l s L).length≤L.length+9:=by
 have h1:=a0y (wrap .u64 (wrap .i64 (s.1-1))) 5 L;have h2:=a0y (wrap .u64 s.2.1) 4 (a0s (wrap .u64 (wrap .i64 (s.1-1))) 5 L);unfold a8l;omega
theorem b6y:∀(st:List Stg)(L:List Int),(a4J st L).length≤L.length+9*st.length
 | [],L=>by simp[a4J]
 |s::st,L=>by
  have h1:=b7T s L;have h2:=b6y st (a8l s L);have e:a4J (s::st) L=a4J st (a8l s L):=rfl;rw[e,lC];omega
theorem c0H{st:List Stg}{n wd:Int}{s:Sub}(hs:st.length<10000):∀(j i:Nat)(L:List Int),i+j=st.length→L.length+64*j<999990000→
  a0h b0v (n,wd,st,(st.length:Int),(i:Int),wL L,s,())=some (n,wd,wL (a4J (st.drop i) L),s,())
 |0,i,L,hi,_=>by
  obtain rfl:i=st.length:=by omega
  rw[a08];exact a0q (by simp[b0v,a4J])
 |j+1,i,L,hi,hb=>by
  have hlt:i<st.length:=by omega
  have hp1:=a0y (wrap .u64 (wrap .i64 (st[i].1-1))) 5 L;have hsl:=b7T st[i] L;have h1:a0j (wL L,wrap .u64 (wrap .i64 (st[i].1-1)),(5:Int))=some (a8j (wrap .u64 (wrap .i64 (st[i].1-1))) 5,wL (a0s (wrap .u64 (wrap .i64 (st[i].1-1))) 5 L)):=a3F (n:=5) (by omega) (by omega);have h2:a0j (wL (a0s (wrap .u64 (wrap .i64 (st[i].1-1))) 5 L),wrap .u64 st[i].2.1,(4:Int))=some (a8j (wrap .u64 st[i].2.1) 4,wL (a8l st[i] L)):=a3F (n:=4) (by omega) (by omega);rw[a00 hlt,a0x (s':=(n,wd,st,(st.length:Int),((i+1:Nat):Int),wL (a8l st[i] L),s,())) (by
   simp only[b0v,dlt hlt,cT,a0c hlt,oB,h1,h2,a0f (show i<1000000 by omega)])]
  exact c0H hs j (i+1) _ (by omega) (by omega)
def a8m(s:Sub)(L:List Int):List Int:=
 a1T (a0u s.2.2.2.2.2.1) s.2.2.2.2.2.1 (a0s ((a0u s.2.2.2.2.2.1:Nat):Int) 5 (a0s (wrap .u64 s.2.2.2.1) 4 (a0s (wrap .u64 (wrap .i64 (((s.2.2.2.2.2.1.length:Nat):Int)-1))) 5 L)))
theorem b7U{s:Sub}(h:s.2.2.2.2.2.1.length≤40)(L:List Int):(a8m s L).length≤L.length+2000:=by
 unfold a8m;have h1:=a0y (wrap .u64 (wrap .i64 (((s.2.2.2.2.2.1.length:Nat):Int)-1))) 5 L;have h2:=a0y (wrap .u64 s.2.2.2.1) 4 (a0s (wrap .u64 (wrap .i64 (((s.2.2.2.2.2.1.length:Nat):Int)-1))) 5 L);have h3:=a0y ((a0u s.2.2.2.2.2.1:Nat):Int) 5 (a0s (wrap .u64 s.2.2.2.1) 4 (a0s (wrap .u64 (wrap .i64 (((s.2.2.2.2.2.1.length:Nat):Int)-1))) 5 L));have h4:=a6t (a0u s.2.2.2.2.2.1) s.2.2.2.2.2.1 (a0s ((a0u s.2.2.2.2.2.1:Nat):Int) 5 (a0s (wrap .u64 s.2.2.2.1) 4 (a0s (wrap .u64 (wrap .i64 (((s.2.2.2.2.2.1.length:Nat):Int)-1))) 5 L)));have hw:=a6z s.2.2.2.2.2.1
 have:a0u s.2.2.2.2.2.1*s.2.2.2.2.2.1.length≤32*40:=a76 hw h
 omega
theorem c0I{s:Sub}(h:s.2.2.2.2.2.1.length≤40){L:List Int}(hL:L.length<900000000):a8D (wL L,s)=some (wL (a8m s L)):=by
 have h1:=a0y (wrap .u64 (wrap .i64 (((s.2.2.2.2.2.1.length:Nat):Int)-1))) 5 L;have h2:=a0y (wrap .u64 s.2.2.2.1) 4 (a0s (wrap .u64 (wrap .i64 (((s.2.2.2.2.2.1.length:Nat):Int)-1))) 5 L);have h3:=a0y ((a0u s.2.2.2.2.2.1:Nat):Int) 5 (a0s (wrap .u64 s.2.2.2.1) 4 (a0s (wrap .u64 (wrap .i64 (((s.2.2.2.2.2.1.length:Nat):Int)-1))) 5 L));have hw:=a6z s.2.2.2.2.2.1;have ew:wrap .u64 ((a0u s.2.2.2.2.2.1:Nat):Int)=((a0u s.2.2.2.2.2.1:Nat):Int):=a5m (by omega);have p1:a0j (wL L,wrap .u64 (wrap .i64 (((s.2.2.2.2.2.1.length:Nat):Int)-1)),(5:Int))=some (a8j (wrap .u64 (wrap .i64 (((s.2.2.2.2.2.1.length:Nat):Int)-1))) 5,wL (a0s (wrap .u64 (wrap .i64 (((s.2.2.2.2.2.1.length:Nat):Int)-1))) 5 L)):=a3F (n:=5) (by omega) (by omega);have p2:a0j (wL (a0s (wrap .u64 (wrap .i64 (((s.2.2.2.2.2.1.length:Nat):Int)-1))) 5 L),wrap .u64 s.2.2.2.1,(4:Int))=some (a8j (wrap .u64 s.2.2.2.1) 4,wL (a0s (wrap .u64 s.2.2.2.1) 4 (a0s (wrap .u64 (wrap .i64 (((s.2.2.2.2.2.1.length:Nat):Int)-1))) 5 L))):=a3F (n:=4) (by omega) (by omega);have p3:a0j (wL (a0s (wrap .u64 s.2.2.2.1) 4 (a0s (wrap .u64 (wrap .i64 (((s.2.2.2.2.2.1.length:Nat):Int)-1))) 5 L)),((a0u s.2.2.2.2.2.1:Nat):Int),(5:Int))=some (a8j ((a0u s.2.2.2.2.2.1:Nat):Int) 5,wL (a0s ((a0u s.2.2.2.2.2.1:Nat):Int) 5 (a0s (wrap .u64 s.2.2.2.1) 4 (a0s (wrap .u64 (wrap .i64 (((s.2.2.2.2.2.1.length:Nat):Int)-1))) 5 L)))):=a3F (n:=5) (by omega) (by omega);have hlp:=c2B (c:=s.2.2.2.2.2.1) hw (by omega) s.2.2.2.2.2.1.length 0 (a0s ((a0u s.2.2.2.2.2.1:Nat):Int) 5 (a0s (wrap .u64 s.2.2.2.1) 4 (a0s (wrap .u64 (wrap .i64 (((s.2.2.2.2.2.1.length:Nat):Int)-1))) 5 L))) (by omega) (by omega);simp only[nZ,a07]at hlp;unfold a8D;simp only[p1,p2,a5I (show short s.2.2.2.2.2.1 by unfold short;omega),ew,p3,hlp,oB,a8m]
def b5c(s:Sub)(L:List Int):List Int:=
 a0s ((a0u s.2.2.2.2.2.2.2.2.1:Nat):Int) 5 (a0s (wrap .u64 s.2.1) 5 (a0s (wrap .u64 s.1) 3 L))
def a3l(s:Sub)(L:List Int):List Int:=
 if s.1=2 then a0s (wrap .u64 s.2.2.1) 3 L
 else if s.1=3 then a8m s L
 else if s.1=4 then a8m s (a1T 8 s.2.2.2.2.2.2.1 (a0s (wrap .u64 (wrap .i64 (s.2.2.2.2.1-1))) 10 L))
 else if s.1=5 then a4J s.2.2.2.2.2.2.2.1 (a0s (wrap .u64 ((s.2.2.2.2.2.2.2.1.length:Nat):Int)) 2 L)
 else L
theorem c6H{s:Sub}(h:SmallS s)(L:List Int):(a3l s L).length≤L.length+3000:=by
 have hc:=h.coefs;have ht:=h.taps;have hst:=h.stages;unfold a3l;split
 have:=a0y (wrap .u64 s.2.2.1) 3 L;omega
 split
 have:=b7U hc L;omega
 split;have h1:=a0y (wrap .u64 (wrap .i64 (s.2.2.2.2.1-1))) 10 L;have h2:=a6t 8 s.2.2.2.2.2.2.1 (a0s (wrap .u64 (wrap .i64 (s.2.2.2.2.1-1))) 10 L);have h3:=b7U hc (a1T 8 s.2.2.2.2.2.2.1 (a0s (wrap .u64 (wrap .i64 (s.2.2.2.2.1-1))) 10 L));omega;split;have h1:=a0y (wrap .u64 ((s.2.2.2.2.2.2.2.1.length:Nat):Int)) 2 L;have h2:=b6y s.2.2.2.2.2.2.2.1 (a0s (wrap .u64 ((s.2.2.2.2.2.2.2.1.length:Nat):Int)) 2 L);omega;omega
theorem b7V:∀(zs:List Nat)(ks l L:List Int),ks.all kB=true→(a6w zs ks l L).length≤L.length+10*zs.length+100*l.length
 |z::zs,k::ks,l,L,h=>by
  simp only[a09,bA]at h;have h1:=b9m h.1 (l.take z) L;have h2:=b7V zs ks (l.drop z) (b1X k (l.take z) L) h.2;rw[a01]at h1;rw[a04]at h2;simp only[a6w,lC];omega
 | [],_,_,_,_=>by simp only[a6w];omega
 |_::_,[],_,_,_=>by simp only[a6w];omega
def a7B(s:Sub)(zn:List Nat)(L:List Int):List Int:=
 if s.1=0∨s.1=1 then a1T (a0u s.2.2.2.2.2.2.2.2.1) s.2.2.2.2.2.2.2.2.1 (a3l s (b5c s L))
 else a6A s.2.2.2.2.2.2.2.2.2.1 zn s.2.2.2.2.2.2.2.2.2.2.1 (a1T (a0u s.2.2.2.2.2.2.2.2.1) s.2.2.2.2.2.2.2.2.1 (a3l s (b5c s L)))
theorem c2C{s:Sub}(h:SmallS s){n:Int}{L:List Int}(hL:L.length<100000000):
  ∃(e:Int)(L':List Int),b2r (wL L,s,n)=some (e,wL L')∧(e=0∨L'=L)∧L'.length≤L.length+700000∧
   ((a3K s n).isSome=true→e=0∧∃zn,L'=a7B s zn L∧(s.1≠0∧s.1≠1→PartsOk s.2.2.2.2.2.2.2.2.2.1 n ((s.2.2.2.2.2.2.2.2.1.length:Nat):Int) s.2.2.2.2.2.2.2.2.2.2.1 zn))∧((a3K s n).isSome=false→e=1∧L'=L):=by
 unfold b2r;simp only[c9W h,oB];cases hs:(a3K s n).isSome with
 |false=>exact⟨1,L,rfl,.inr rfl,by omega,fun h=>(by cases h),fun _=>⟨rfl,rfl⟩⟩
 |true=>
  have hp:a1M s n:=by
   unfold a3K at hs
   split at hs
   assumption
   cases hs
  obtain⟨h1,h2,hf,-,-,-,-,hlen,hww,hrw,-,hparts⟩:=hp;have hkind:=d1r hf;have hwd:=a6z s.2.2.2.2.2.2.2.2.1;have hsw:short s.2.2.2.2.2.2.2.2.1:=by have:=h.warm;unfold short;omega
  have hwarm:=h.warm;have hrest:=h.rest;have hst:=h.stages;have ht:=h.taps;have q1:=a0y (wrap .u64 s.1) 3 L;have q2:=a0y (wrap .u64 s.2.1) 5 (a0s (wrap .u64 s.1) 3 L);have q3:=a0y ((a0u s.2.2.2.2.2.2.2.2.1:Nat):Int) 5 (a0s (wrap .u64 s.2.1) 5 (a0s (wrap .u64 s.1) 3 L));have ew:wrap .u64 ((a0u s.2.2.2.2.2.2.2.2.1:Nat):Int)=((a0u s.2.2.2.2.2.2.2.2.1:Nat):Int):=a5m (by omega);have p1:a0j (wL L,wrap .u64 s.1,(3:Int))=some (a8j (wrap .u64 s.1) 3,wL (a0s (wrap .u64 s.1) 3 L)):=a3F (n:=3) (by omega) (by omega);have p2:a0j (wL (a0s (wrap .u64 s.1) 3 L),wrap .u64 s.2.1,(5:Int))=some (a8j (wrap .u64 s.2.1) 5,wL (a0s (wrap .u64 s.2.1) 5 (a0s (wrap .u64 s.1) 3 L))):=a3F (n:=5) (by omega) (by omega);have p3:a0j (wL (a0s (wrap .u64 s.2.1) 5 (a0s (wrap .u64 s.1) 3 L)),((a0u s.2.2.2.2.2.2.2.2.1:Nat):Int),(5:Int))=some (a8j ((a0u s.2.2.2.2.2.2.2.2.1:Nat):Int) 5,wL (b5c s L)):=a3F (n:=5) (by omega) (by omega);have q4:(b5c s L).length≤L.length+13:=by unfold b5c;omega
  generalize hM:b5c s L=M at p3 q4;have q5:=c6H h M;have q6:=a6t (a0u s.2.2.2.2.2.2.2.2.1) s.2.2.2.2.2.2.2.2.1 (a3l s M);have q7:a0u s.2.2.2.2.2.2.2.2.1*s.2.2.2.2.2.2.2.2.1.length≤32*5000:=a76 hwd hwarm;have hwl:=c4z (l:=s.2.2.2.2.2.2.2.2.1) (n:=n) (s:=s) hwd (by omega) s.2.2.2.2.2.2.2.2.1.length 0 (a3l s M) (by omega) (by omega);simp only[nZ,a07]at hwl

  have hsl:=c0H (st:=s.2.2.2.2.2.2.2.1) (n:=n) (wd:=((a0u s.2.2.2.2.2.2.2.2.1:Nat):Int)) (s:=s) (by omega) s.2.2.2.2.2.2.2.1.length 0 (a0s (wrap .u64 ((s.2.2.2.2.2.2.2.1.length:Nat):Int)) 2 M) (by omega) (by have:=a0y (wrap .u64 ((s.2.2.2.2.2.2.2.1.length:Nat):Int)) 2 M;omega);have q8:=a0y (wrap .u64 (wrap .i64 (s.2.2.2.2.1-1))) 10 M;have q9:=a6t 8 s.2.2.2.2.2.2.1 (a0s (wrap .u64 (wrap .i64 (s.2.2.2.2.1-1))) 10 M);have htl:=c4y (t:=s.2.2.2.2.2.2.1) (n:=n) (wd:=((a0u s.2.2.2.2.2.2.2.2.1:Nat):Int)) (s:=s) ht 3 0 (a0s (wrap .u64 (wrap .i64 (s.2.2.2.2.1-1))) 10 M) (by omega) (by omega);simp only[nZ,a07]at hsl htl;have k2:a0j (wL M,wrap .u64 s.2.2.1,(3:Int))=some (a8j (wrap .u64 s.2.2.1) 3,wL (a0s (wrap .u64 s.2.2.1) 3 M)):=a3F (n:=3) (by omega) (by omega);have k4:a0j (wL M,wrap .u64 (wrap .i64 (s.2.2.2.2.1-1)),(10:Int))=some (a8j (wrap .u64 (wrap .i64 (s.2.2.2.2.1-1))) 10,wL (a0s (wrap .u64 (wrap .i64 (s.2.2.2.2.1-1))) 10 M)):=a3F (n:=10) (by omega) (by omega);have k5:a0j (wL M,wrap .u64 ((s.2.2.2.2.2.2.2.1.length:Nat):Int),(2:Int))=some (a8j (wrap .u64 ((s.2.2.2.2.2.2.2.1.length:Nat):Int)) 2,wL (a0s (wrap .u64 ((s.2.2.2.2.2.2.2.1.length:Nat):Int)) 2 M)):=a3F (n:=2) (by omega) (by omega);have c3:=c0I (s:=s) h.coefs (L:=M) (by omega);have c4:=c0I (s:=s) h.coefs (L:=a1T 8 s.2.2.2.2.2.2.1 (a0s (wrap .u64 (wrap .i64 (s.2.2.2.2.1-1))) 10 M)) (by omega);simp only[bT,cF,a5I hsw,oB,p1,p2,ew,p3];generalize hPM:a1T (a0u s.2.2.2.2.2.2.2.2.1) s.2.2.2.2.2.2.2.2.1 (a3l s M)=PM at hwl q6

  have tail:∀(hk01:s.1≠0∧s.1≠1),∃zn,PartsOk s.2.2.2.2.2.2.2.2.2.1 n ((s.2.2.2.2.2.2.2.2.1.length:Nat):Int) s.2.2.2.2.2.2.2.2.2.2.1 zn:=fun hk01=>by
   obtain⟨g1,g2⟩:=hparts hk01;rw[←hlen]at g1 g2;exact PartsOk.of g2 g1 hrw (by omega)
  rcases hkind with k|k|k|k|k|k;have kl:a3l s M=M:=by unfold a3l;simp[k]
  rw[kl]at hwl;refine⟨0,PM,?_,.inl rfl,by omega,fun _=>⟨rfl,[],by unfold a7B;rw[if_pos (by omega),hM,hPM],fun h=>absurd k (by omega)⟩,fun h=>by cases h⟩;simp only[k,show((0:Int)==2)=false from rfl,show((0:Int)==4)=false from rfl,show((0:Int)==3)=false from rfl,show((0:Int)==5)=false from rfl,cF,oB,hwl,a8i]
  simp
  have kl:a3l s M=M:=by unfold a3l;simp[k]
  rw[kl]at hwl;refine⟨0,PM,?_,.inl rfl,by omega,fun _=>⟨rfl,[],by unfold a7B;rw[if_pos (by omega),hM,hPM],fun h=>absurd k (by omega)⟩,fun h=>by cases h⟩;simp only[k,show((1:Int)==2)=false from rfl,show((1:Int)==4)=false from rfl,show((1:Int)==3)=false from rfl,show((1:Int)==5)=false from rfl,cF,oB,hwl,a8i]
  simp
  all_goals
   obtain⟨zn,hz⟩:=tail (by omega);have t1:=c6G (L:=PM) hz (by omega);have t3:(a6A s.2.2.2.2.2.2.2.2.2.1 zn s.2.2.2.2.2.2.2.2.2.2.1 PM).length≤L.length+700000:=by
    have z1:=a0y (wrap .u64 s.2.2.2.2.2.2.2.2.2.1.1) 4 PM;have z2:=b7V zn s.2.2.2.2.2.2.2.2.2.1.2.1 s.2.2.2.2.2.2.2.2.2.2.1 (a0s (wrap .u64 s.2.2.2.2.2.2.2.2.2.1.1) 4 PM) hz.all;have z3:=hz.len;unfold a6A;omega
   refine⟨0,a6A s.2.2.2.2.2.2.2.2.2.1 zn s.2.2.2.2.2.2.2.2.2.2.1 PM,?_,.inl rfl,t3,fun _=>⟨rfl,zn,by unfold a7B;rw[if_neg (by omega),hM,hPM],fun _=>hz⟩,fun h=>by cases h⟩
  have kl:a3l s M=a0s (wrap .u64 s.2.2.1) 3 M:=by unfold a3l;simp[k]
  rw[kl]at hwl;simp only[k,show((2:Int)==2)=true from rfl,cT,k2,oB,hwl,a8i];simp[t1];have kl:a3l s M=a8m s M:=by unfold a3l;simp[k]
  rw[kl]at hwl;simp only[k,show((3:Int)==2)=false from rfl,show((3:Int)==4)=false from rfl,show((3:Int)==3)=true from rfl,cT,cF,c3,oB,hwl,a8i];simp[t1];have kl:a3l s M=a8m s (a1T 8 s.2.2.2.2.2.2.1 (a0s (wrap .u64 (wrap .i64 (s.2.2.2.2.1-1))) 10 M)):=by unfold a3l;simp[k]
  rw[kl]at hwl;simp only[k,show((4:Int)==2)=false from rfl,show((4:Int)==4)=true from rfl,cT,cF,k4,htl,c4,oB,hwl,a8i];simp[t1];have kl:a3l s M=a4J s.2.2.2.2.2.2.2.1 (a0s (wrap .u64 ((s.2.2.2.2.2.2.2.1.length:Nat):Int)) 2 M):=by unfold a3l;simp[k]
  rw[kl]at hwl;simp only[k,show((5:Int)==2)=false from rfl,show((5:Int)==4)=false from rfl,show((5:Int)==3)=false from rfl,show((5:Int)==5)=true from rfl,cT,cF,k5,hsl,oB,hwl,a8i];simp[t1]
theorem b1Y(zn:List Nat):(a2f zn).map a24=zn:=by
 unfold a2f;rw[List.map_map]
 have:a24∘(fun(a:Nat)=>(a:Int))=id:=by funext a;simp
 rw[this,List.map_id]
end Go.Ab
namespace Go.Ab
end Go.Ab
namespace Go.Ab
def a5b(s:Sub)(n:Int):Int:=
 if(a3K s n).isSome=true then(((a7B s ((a1w s.2.2.2.2.2.2.2.2.2.1.1 n ((s.2.2.2.2.2.2.2.2.1.length:Nat):Int)).map a24) []).length:Nat):Int)else 0
theorem c8t{s:Sub}{n:Int}{zn:List Nat}(hz:s.1≠0∧s.1≠1→PartsOk s.2.2.2.2.2.2.2.2.2.1 n ((s.2.2.2.2.2.2.2.2.1.length:Nat):Int) s.2.2.2.2.2.2.2.2.2.2.1 zn)(L:List Int):
  a7B s zn L=a7B s ((a1w s.2.2.2.2.2.2.2.2.2.1.1 n ((s.2.2.2.2.2.2.2.2.1.length:Nat):Int)).map a24) L:=by
 by_cases hk:s.1=0∨s.1=1
 unfold a7B;rw[if_pos hk,if_pos hk];rw[(hz (not_or.1 hk)).sizes,b1Y]
theorem d4l{s:Sub}(h:SmallS s)(n:Int):b3k (s,n)=some (a5b s n):=by
 obtain⟨e,L',h1,-,-,h4,h5⟩:=c2C h (n:=n) (L:=[]) (by simp);have hw:wL []=(([]:List Int),(0:Int),()):=rfl;rw[hw]at h1;obtain⟨w1,-⟩:=c6B L';unfold b3k a5b;simp only[h1,oB,a8P];cases hs:(a3K s n).isSome with
 |false=>
  obtain⟨rfl,rfl⟩:=h5 hs;rfl
 |true=>
  obtain⟨rfl,zn,rfl,hz⟩:=h4 hs;rw[if_pos rfl,←c8t hz];simp only[w1,show((0:Int) != 0)=false from rfl,cF]
end Go.Ab
namespace Go.Ab
end Go.Ab
namespace Go.Ab
open IntKind(wrap)
def dif:List Int→List Int
 |a::b::r=>W (b-a)::dif (b::r)
 |_=>[]
theorem a5J:∀l:List Int,(dif l).length=l.length-1
 | []=>rfl
 | [_]=>rfl
 |a::b::r=>by simp[dif,a5J (b::r)]
theorem c3K:∀(l:List Int)(i:Nat)(x y:Int),l[i]?=some x→l[i+1]?=some y→(dif l)[i]?=some (W (y-x))
 |a::b::r,0,x,y,h1,h2=>by simp at h1 h2;subst h1;subst h2;rfl
 |a::b::r,i+1,x,y,h1,h2=>by
  simp only[dif,List.getElem?_cons_succ]at h1 h2⊢;exact c3K (b::r) i x y h1 h2
 | [_],0,x,y,h1,h2=>by simp at h2
 | [_],i+1,x,y,h1,h2=>by simp at h1
 | [],i,x,y,h1,h2=>by simp at h1
def a2a:Nat→List Int→List Int
 |0,l=>l
 |o+1,l=>dif (a2a o l)
theorem a5Q(l:List Int):∀o,(a2a o l).length=l.length-o
 |0=>rfl
 |o+1=>by simp only[a2a,a5J,a5Q l o];omega
theorem b7i{l:List Int}(h:short l)(o:Nat):short (a2a o l):=by
 have h:l.length<1000000:=h;show(a2a o l).length<1000000;rw[a5Q];omega
def b0K(l:List Int)(i:Nat):List Int:=(dif l).take i++l.drop i
theorem b5P{l:List Int}{i:Nat}(h:i≤l.length-1):(b0K l i).length=l.length:=by
 simp only[b0K,lN,a01,a04,a5J];omega
theorem c4A{l:List Int}{i j:Nat}(h:i≤l.length-1)(hj:i≤j):(b0K l i).getD j 0=l.getD j 0:=by
 have e:((dif l).take i).length=i:=by rw[a01,a5J];omega
 rw[lD,lD,b0K,List.getElem?_append_right (by omega),e,a60];congr 2;omega
theorem d2x{l:List Int}{i:Nat}(h:i<l.length-1):(b0K l i).set i (W (l.getD (i+1) 0-l.getD i 0))=b0K l (i+1):=by
 have e:((dif l).take i).length=i:=by rw[a01,a5J];omega
 have h1:l[i]?=some l[i]:=lG (by omega);have h2:l[i+1]?=some l[i+1]:=lG (by omega);have hd:=c3K l i _ _ h1 h2;have hlt:i<(dif l).length:=by rw[a5J];omega
 simp only[b0K];rw[List.set_append,if_neg (by omega),e,Nat.sub_self,a00 (show i<l.length by omega),List.set_cons_zero,a36 hlt,aA];have e2:(dif l)[i]=W (l.getD (i+1) 0-l.getD i 0):=by
  rw[lG hlt]at hd;rw[Option.some.inj hd,lD,lD,h1,h2];rfl
 rw[e2];rfl
theorem c9Y{l:List Int}{o k:Int}(hs:short l)(h:1≤l.length):a0h a5B ((0:Int),o,k,l,())=some (o,k,b0K l (l.length-1),()):=by
 have hs:l.length<1000000:=hs;have h0:b0K l 0=l:=by simp[b0K]
 have:=a3R (f:=a5B) (fun i:Nat=>((i:Int),o,k,b0K l i,())) (l.length-1) (b:=(o,k,b0K l (l.length-1),()))
  (fun i hi=>by
   have w1:wrap .i64 ((i:Int)+1)=((i+1:Nat):Int):=a0f (by omega);have hl:=b5P (l:=l) (i:=i) (by omega);have d0:decide (((i+1:Nat):Int)<((l.length:Nat):Int))=true:=by simp;omega
   have d1:decide ((0:Int)≤((i+1:Nat):Int))=true:=by simp;omega
   have d2:decide ((0:Int)≤(i:Int))=true:=by simp
   have d3:decide ((i:Int)<((l.length:Nat):Int))=true:=by simp;omega
   have n1:a24 ((i+1:Nat):Int)=i+1:=by omega
   have n2:a24 (i:Int)=i:=by omega
   have st:=d2x (l:=l) (i:=i) (by omega);have g1:=c4A (l:=l) (i:=i) (j:=i+1) (by omega) (by omega);have g2:=c4A (l:=l) (i:=i) (j:=i) (by omega) (by omega);simp only[W]at st;simp only[a5B,w1,hl,d0,d1,d2,d3,n1,n2,g1,g2,st,a02,cT])
  (by
   have hl:=b5P (l:=l) (i:=l.length-1) (by omega);have w1:wrap .i64 (((l.length-1:Nat):Int)+1)=((l.length:Nat):Int):=by rw[a0n (by omega)];omega
   have d0:decide (((l.length:Nat):Int)<((l.length:Nat):Int))=false:=by simp
   simp only[a5B,w1,hl,d0,cF])
 simp only[nZ,a33,h0]at this;exact this
theorem d1u{l:List Int}:(b0K l (l.length-1)).take (l.length-1)=dif l:=by
 have e:(dif l).take (l.length-1)=dif l:=a73 (by rw[a5J];omega);rw[b0K,e,List.take_append_of_le_length (by rw[a5J];omega),e]
theorem b7W{l:List Int}{o:Nat}(ho:o≤4)(hn:o≤l.length)(hs:short l)(hw:l.all a0b=true):
  a4Q (l,(o:Int))=some (bif (a2a o l).all a0b then(a2a o l,0)else([],6)):=by
 have hs':l.length<1000000:=hs;have loop:=a3R (f:=a7L) (fun k:Nat=>((o:Int),(k:Int),a2a k l,())) o (b:=(a2a o l,()))
  (fun k hk=>by
   have hk1:1≤(a2a k l).length:=by rw[a5Q];omega
   have hks:(a2a k l).length<1000000:=b7i hs k;have d0:decide ((k:Int)<(o:Int))=true:=by simp;omega
   have hm:=b5P (l:=a2a k l) (i:=(a2a k l).length-1) (by omega);have w1:wrap .i64 ((((a2a k l).length:Nat):Int)-1)=(((a2a k l).length-1:Nat):Int):=by rw[a0n (by omega)];omega
   have w2:wrap .i64 ((k:Int)+1)=((k+1:Nat):Int):=a0f (by omega);have d1:decide ((0:Int)≤(((a2a k l).length-1:Nat):Int))=true:=by simp
   have d2:decide ((((a2a k l).length-1:Nat):Int)≤(((a2a k l).length:Nat):Int))=true:=by simp
   have d3:decide ((a2a k l).length-1≤(a2a k l).length)=true:=by simp
   have n1:a24 (((a2a k l).length-1:Nat):Int)=(a2a k l).length-1:=by omega
   simp only[a7L,d0,cT,c9Y (b7i hs k) hk1,oB,hm,w1,w2,d1,d2,d3,n1,a02,d1u,a2a])
  (by
   have d0:decide ((o:Int)<(o:Int))=false:=by simp
   simp only[a7L,d0,cF])
 have c1:decide ((o:Int)<0)=false:=by simp
 have c2:decide ((o:Int) > 4)=false:=by simp;omega
 have c3:decide (((l.length:Nat):Int)<(o:Int))=false:=by simp;omega
 have c4:lim l.length=true:=a9g (by omega);simp only[nZ,a33]at loop;have e0:a2a 0 l=l:=rfl;rw[e0]at loop;unfold a4Q;simp only[c1,c2,c3,c4,cF,cT,oB,a7n hs,hw,bT,loop,a7n (b7i hs o)];cases (a2a o l).all a0b<;>rfl
def ex:Nat→(Nat→Int)→Nat→Int
 |0,f,i=>f i
 |o+1,f,i=>ex o f (i+1)-ex o f i
theorem c1k{l:List Int}(hw:l.all a0b=true):∀(o i:Nat),i+o<l.length→(a2a o l)[i]?=some (W (ex o (fun j=>l.getD j 0) i))
 |0,i,h=>by
  have h:i<l.length:=by omega
  have e:l.getD i 0=l[i]:=by simp[lD,h]
  simp only[a2a,ex,e];rw[lG h,b9f (lA.1 hw _ (a03 h))]
 |o+1,i,h=>by
  have h1:=c1k hw o i (by omega);have h2:=c1k hw o (i+1) (by omega);simp only[a2a,ex];rw[c3K _ i _ _ h1 h2];simp only[W,a8h,Int.sub_bmod_bmod,Int.bmod_sub_bmod]
theorem d1v{l:List Int}(hw:l.all a0b=true){o j:Nat}(ho:o≤4)(h:o+j<l.length):W (W (ex o (fun j=>l.getD j 0) j)+a4U o (l.take (o+j)))=l.getD (o+j) 0:=by
 have hwide:a0b (l.getD (o+j) 0)=true:=by
  have e:l.getD (o+j) 0=l[o+j]:=by simp[lD,h]
  rw[e];exact lA.1 hw _ (a03 h)
 have at_eq:∀i:Nat,1≤i→i≤o→atB (l.take (o+j)) i=l.getD (o+j-i) 0:=fun i h1 h2=>by
  simp only[atB,a01,a71 (a85 h),lD,a37];rw[if_pos (by omega)]
 have key:ex o (fun j=>l.getD j 0) j+a4U o (l.take (o+j))=l.getD (o+j) 0:=by
  have h5:o=0∨o=1∨o=2∨o=3∨o=4:=by omega
  rcases h5 with rfl|rfl|rfl|rfl|rfl;simp[ex,a4U];simp only[ex,a4U,at_eq 1 (by omega) (by omega)];have e1:1+j-1=j:=by omega
  have e2:j+1=1+j:=by omega
  rw[e1,e2];omega;simp only[ex,a4U,at_eq 1 (by omega) (by omega),at_eq 2 (by omega) (by omega)];have e1:2+j-1=j+1:=by omega
  have e2:2+j-2=j:=by omega
  have e3:j+1+1=2+j:=by omega
  rw[e1,e2,e3];omega;simp only[ex,a4U,at_eq 1 (by omega) (by omega),at_eq 2 (by omega) (by omega),at_eq 3 (by omega) (by omega)];have e1:3+j-1=j+1+1:=by omega
  have e2:3+j-2=j+1:=by omega
  have e3:3+j-3=j:=by omega
  have e4:j+1+1+1=3+j:=by omega
  rw[e1,e2,e3,e4];omega;simp only[ex,a4U,at_eq 1 (by omega) (by omega),at_eq 2 (by omega) (by omega),at_eq 3 (by omega) (by omega),at_eq 4 (by omega) (by omega)];have e1:4+j-1=j+1+1+1:=by omega
  have e2:4+j-2=j+1+1:=by omega
  have e3:4+j-3=j+1:=by omega
  have e4:4+j-4=j:=by omega
  have e5:j+1+1+1+1=4+j:=by omega
  rw[e1,e2,e3,e4,e5];omega
 have:W (W (ex o (fun j=>l.getD j 0) j)+a4U o (l.take (o+j)))=W (ex o (fun j=>l.getD j 0) j+a4U o (l.take (o+j))):=by
  simp only[W,a8h,a87]
 rw[this,key,b9f hwide]
theorem c6I{l:List Int}(hw:l.all a0b=true){o:Nat}(ho:o≤4):∀(k j:Nat),o+j+k=l.length→a4s (a4U o) ((a2a o l).drop j) (l.take (o+j))=some l
 |0,j,h=>by
  rw[List.drop_of_length_le (by rw[a5Q];omega),a73 (by omega)];rfl
 |k+1,j,h=>by
  have hlt:j<(a2a o l).length:=by rw[a5Q];omega
  have hg:=c1k hw o j (by omega);rw[lG hlt]at hg;have e:=Option.some.inj hg;have e2:l.getD (o+j) 0=l[o+j]:=by simp[lD,show o+j<l.length by omega]
  have st:=d1v hw ho (show o+j<l.length by omega);rw[e2]at st;rw[a00 hlt,e];simp only[a4s,st,lA.1 hw _ (a03 (show o+j<l.length by omega)),cT];have et:l.take (o+j)++[l[o+j]]=l.take (o+(j+1)):=by
   rw[show o+(j+1)=(o+j)+1 by omega]
   simp
  rw[et];exact c6I hw ho k (j+1) (by omega)
end Go.Ab
namespace Go.Ab
open IntKind(wrap)
theorem a7C{σ β:Type}{f:σ→Option (σ ⊕ β)}(I:Nat→σ→Prop)(Q:β→Prop)(n:Nat)(hstep:∀i s,i<n→I i s→∃s',f s=some (.inl s')∧I (i+1) s')
  (hexit:∀s,I n s→∃b,f s=some (.inr b)∧Q b):∀(k i:Nat)(s:σ),i+k=n→I i s→∃b,a0h f s=some b∧Q b
 |0,i,s,h,hi=>by
  obtain rfl:i=n:=by omega
  obtain⟨b,h1,h2⟩:=hexit s hi;exact⟨b,a0q h1,h2⟩
 |k+1,i,s,h,hi=>by
  obtain⟨s',h1,h2⟩:=hstep i s (by omega) hi;rw[a0x h1];exact a7C I Q n hstep hexit k (i+1) s' (by omega) h2
theorem c0J(y:Int):0≤wrap .u64 y∧wrap .u64 y<18446744073709551616:=by
 simp only[wrap,IntKind.bits,IntKind.signed]
 simp
 omega
def b1Z(n:Int)(x:Int):Bool:=a0b x&&!(a81 x (a0z .i64 1 n) != 0)
def b7j{β:Type}(n:Int)(bad:β)(out:List Int)(x:Int):List Int ⊕ β:=bif b1Z n x then .inl (out++[a0A .i64 x n])else .inr bad
def b0L(n:Int)(l:List Int):Option (List Int):=bif l.all (b1Z n)then some (l.map fun x=>a0A .i64 x n)else none
theorem b7X{β:Type}(n:Int)(bad:β)(fin:List Int→β):∀(l out:List Int),a9K fin (a3k (b7j n bad) l out)=match b0L n l with|some r=>fin (out++r)|none=>bad
 | [],out=>by simp[a3k,a9K,b0L]
 |x::l,out=>by
  simp only[a3k,b7j,b0L,a09];cases hx:b1Z n x with
  |true=>
   simp only[cT,a18];rw[b7X n bad fin l _];simp only[b0L];cases l.all (b1Z n)with
   |true=>simp
   |false=>rfl
  |false=>rfl
theorem c6J{o:Nat}(h:o≤30):a0z .i64 1 (o:Int)=((2^o:Nat):Int):=by
 have h2:2^o≤2^30:=a17 (by omega) h
 have:=c1g (N:=1) (o:=o) (by omega) (by omega)
 simpa using this
theorem b6z{l:List Int}{o:Nat}(h1:o≤30)(hr:l.length<100000):a7i (l,(o:Int))=some (a2Q (b0L (o:Int) l)):=by
 have hsr:short l:=by unfold short;omega
 have g1:¬ (o:Int)<0:=by omega
 have g2:¬ (o:Int) > 30:=by omega
 have g3:(a0z .i64 (1:Int) (o:Int)==0)=false:=by
  rw[c6J h1]
  have:0<2^o:=a30 o
  simp only[beq_eq_false_iff_ne,ne_eq];omega
 unfold a7i;simp only[g1,g2,decide_false,cF,oB]
 have:=a3t (f:=a6K) l (fun i out=>((o:Int),l,(l.length:Int),(i:Int),out,())) (b7j (o:Int) (Sum.inr ((6:Int),([]:List Int),())))
  (fun i out=>out.length=i) (fun out=>Sum.inl (out,()))
  (fun i h out hI=>by
   have hlt:i<1000000:=by omega
   simp only[a6K,dlt h,cT,a0c h,oB,b6s,b7j,b1Z,g1,g3,decide_false,cF];cases hb:a0b l[i]with
   |true=>
    cases hb2:(a81 l[i] (a0z .i64 1 (o:Int)) != 0)with
    |false=>
     simp only[cT,bT,cF,oB,g1,decide_false,a0D (show out.length+1<1000000 by omega),a0f hlt,a02,a06,hb2];refine⟨fun a' ha=>?_,fun b hb=>(by cases hb)⟩;simp only[Sum.inl.injEq]at ha;subst ha;exact⟨rfl,by simp;omega⟩
    |true=>
     refine⟨fun a' ha=>(by simp at ha),fun b hb=>?_⟩;simp only[a18,bT,cF,Sum.inr.injEq]at hb;subst hb;simp[hb2]
   |false=>
    refine⟨fun a' ha=>(by simp at ha),fun b hb=>?_⟩;simp only[a40,cF,Sum.inr.injEq]at hb;subst hb;rfl)
  (fun out _=>by simp[a6K]) (a:=[]) rfl
 simp only[nZ,b7X,a20]at this;rw[this];cases b0L (o:Int) l<;>rfl
theorem c1l{o:Nat}(h:o≤30){x:Int}(hx:b1Z (o:Int) x=true):a0b (a0A .i64 x (o:Int))=true∧a0z .i64 (a0A .i64 x (o:Int)) (o:Int)=x∧a0b x=true:=by
 simp only[b1Z,c6J h,bA,a29,bne_eq_false_iff_eq]at hx;obtain⟨hw,hm⟩:=hx;obtain⟨c,rfl⟩:=Int.dvd_of_tmod_eq_zero hm;have hw':=a2z.1 hw;have e:min (a24 (o:Int)) (IntKind.bits .i64)=o:=by simp only[tN,IntKind.bits];omega
 have hp:(0:Int)<2^o:=Int.pow_pos (by omega);have ep:((2^o:Nat):Int)=2^o:=by simp
 rw[ep]at hw' hw⊢;have e1:a0A .i64 (2^o*c) (o:Int)=c:=by
  unfold a0A;rw[e];exact a64 _ (by omega)
 rw[e1];refine⟨a2z.2 ?_,?_,hw⟩;generalize (2:Int)^o=p at hp hw';have hs:p*c=(p-1)*c+c:=by rw[a88];omega
 by_cases hc:0≤c
 have:=a57 (show 0≤p-1 by omega) hc
 omega
 have:=a57 (show 0≤p-1 by omega) (show 0≤-c by omega)
 rw[Int.mul_neg]at this;omega;unfold a0z;rw[e,Int.mul_comm];exact a0n (by omega)
theorem d4m{o:Nat}(h:o≤30){l d:List Int}(hd:b0L (o:Int) l=some d):d.all a0b=true∧d.length=l.length∧upO (o:Int) d=some l:=by
 unfold b0L at hd;cases ha:l.all (b1Z (o:Int))with
 |false=>rw[ha]at hd;cases hd
 |true=>
  rw[ha]at hd;simp only[cT,sj]at hd;subst hd;have hall:=lA.1 ha;refine⟨?_,by simp,?_⟩;simp only[List.all_map];exact lA.2 fun x hx=>(c1l h (hall x hx)).1;have e1:(l.map fun x=>a0A .i64 x (o:Int)).all (fun x=>a0b x&&a0b (a0z .i64 x (o:Int)))=true:=by
   simp only[List.all_map];refine lA.2 fun x hx=>?_
   obtain⟨h1,h2,h3⟩:=c1l h (hall x hx);simp only[Function.comp,h1,h2,h3,a02]
  unfold upO;rw[e1];simp only[cT,sj,List.map_map];have em:l.map ((fun x=>a0z .i64 x (o:Int))∘fun x=>a0A .i64 x (o:Int))=l.map id:=List.map_congr_left (fun x hx=>(c1l h (hall x hx)).2.1);rw[em,List.map_id]
end Go.Ab
namespace Go.Ab
theorem c9Z{n warm:Int}(h:a5P n warm=true):(a1w 0 n warm).length≠0:=by
 have h':=h;simp only[a5P,bA,dT]at h';unfold a1w b6u;have e:((n.toNat / 2^(0:Int).toNat:Nat):Int)=n:=by simp;omega
 have e2:n.toNat%2^(0:Int).toNat=0:=by simp;omega
 simp only[h,e,e2];simp[h'.2.2.2]
end Go.Ab
namespace Go.Ab
open IntKind(wrap)
theorem a6Q{N n:Nat}(hn:n≤63)(h:N<2^n)(L:List Int):(a0s (N:Int) n L).length=L.length+n:=by
 unfold a0s;rw[b2C (N:=N) (o:=n) (by omega),Nat.div_eq_of_lt h];simp[b9k]
def a5c(k:Nat)(x:Int):Nat:=if a0T x / 2^k<32 then a0T x / 2^k+1+k else 65
theorem c6K{k:Nat}(hk:k≤25)(x:Int):a5c k x≤65:=by
 unfold a5c;split;rename_i h;generalize a0T x / 2^k=q at h;omega;omega
theorem d1w{k:Nat}(hk:k≤25){x:Int}(hw:a0b x=true)(L:List Int):(a9z k x L).length=L.length+a5c k x:=by
 unfold a9z a5c;have hp:0<2^k:=a30 k;have hm:a0T x%2^k<2^k:=a56 _ hp;have hf:=b7g hw;split;rw[a6Q (by omega) hm,a8M];omega;rw[a6Q (n:=32) (by omega) (by omega),a8M]
theorem c2D{k:Nat}(hk:k≤25):∀(l L:List Int),l.all a0b=true→(a6v k l L).length=L.length+(l.map (a5c k)).sum
 | [],L,_=>by simp[a6v]
 |x::l,L,h=>by
  simp only[a09,bA]at h;have e:a6v k (x::l) L=a6v k l (a9z k x L):=rfl;rw[e,c2D hk l _ h.2,d1w hk h.1,a45,a44];omega
theorem c6L{k:Nat}(hk:k≤25){x:Int}(hw:a0b x=true):a7y ((k:Int),x)=some ((a5c k x:Nat):Int):=by
 have hy:=b7g hw;have eq:a0A .u64 ((a0T x:Nat):Int) (k:Int)=((a0T x / 2^k:Nat):Int):=b2C (by omega);have ew:wrap .i64 ((a0T x / 2^k:Nat):Int)=((a0T x / 2^k:Nat):Int):=c1j (a59 (a72 _ _) hy);have hk0:decide ((k:Int)<0)=false:=by simp
 unfold a7y a5c;simp only[a8R hk,b0I,hw,oB,bT,cF,b0J hw,hk0,eq,ew];generalize a0T x / 2^k=q
 by_cases hq:q<32
 have hd:decide ((q:Int)<32)=true:=decide_eq_true (by omega);simp only[hd,cT,if_pos hq];rw[a0n (n:=(q:Int)+1) (by omega),a0n (by omega)];rfl;have hd:decide ((q:Int)<32)=false:=decide_eq_false (by omega);simp only[hd,cF,if_neg hq];rfl
theorem c6M{f:Int→Nat}{M:Nat}(h:∀x,f x≤M):∀l:List Int,(l.map f).sum≤M*l.length
 | []=>by simp
 |x::l=>by
  have:=h x
  have:=c6M h l
  rw[a45,a44,lC,a89,a90];omega
theorem c6N{f:Int→Nat}{l:List Int}{i:Nat}(h:i<l.length):((l.take (i+1)).map f).sum=((l.take i).map f).sum+f l[i]:=by
 rw[a36 h,pA,List.sum_append];simp only[a45,List.map_nil,a44,List.sum_nil,a41]
theorem c0K{k:Nat}(hk:k≤25){l:List Int}(hw:l.all a0b=true)(hl:l.length<10000):a3N ((k:Int),l)=some (((l.map (a5c k)).sum:Nat):Int):=by
 have:=a3R (f:=a4f) (fun i:Nat=>((k:Int),((((l.take i).map (a5c k)).sum:Nat):Int),l,(l.length:Int),(i:Int),())) l.length (b:=((((l.map (a5c k)).sum:Nat):Int),()))
  (fun i hi=>by
   have hc:=c6L hk (lA.1 hw _ (a03 hi));have h1:=c6M (c6K hk) (l.take (i+1));rw[c6N hi]at h1;rw[a01]at h1;have e:wrap .i64 (((((l.take i).map (a5c k)).sum:Nat):Int)+((a5c k l[i]:Nat):Int))=((((l.take (i+1)).map (a5c k)).sum:Nat):Int):=by
    rw[c6N hi,a0n (by omega)];omega
   simp only[a4f,dlt hi,cT,a0c hi,oB,hc,e,a0f (show i<1000000 by omega)])
  (by simp only[a4f,dge,cF,a21])
 unfold a3N;have e0:(((l.take 0).map (a5c k)).sum:Nat)=0:=rfl;simp only[e0,nZ]at this;simp only[this,oB]
theorem d2y(x:Int){n:Nat}(hn:n≤62):∃N:Nat,a3y x n=(N:Int)∧N<2^n:=by
 obtain⟨h1,h2⟩:=c0J x;obtain⟨y,hy⟩:=a05 h1;have hp:0<2^n:=a30 n;refine⟨y%2^n,?_,a56 _ hp⟩;unfold a3y;rw[hy];exact d2w (by omega) hn
theorem b5d{n:Nat}(hn:n≤62):∀(l L:List Int),(a1T n l L).length=L.length+n*l.length
 | [],L=>by simp[a1T]
 |x::l,L=>by
  have e:a1T n (x::l) L=a1T n l (a0s (a3y x n) n L):=rfl;obtain⟨N,h1,h2⟩:=d2y x hn;rw[e,b5d hn l,h1,a6Q (by omega) h2,lC,a89,a90];omega
theorem d5h{x:Int}(h:a0b x=true):a1U x ((31:Nat):Int)=true:=by
 have:=a2z.1 h
 have e1:a0z .i64 (-1) (((31:Nat):Int)-1)=-1073741824:=by decide
 have e2:wrap .i64 (a0z .i64 1 (((31:Nat):Int)-1)-1)=1073741823:=by decide
 unfold a1U;rw[e1,e2];simp only[bA,dT];omega
theorem c2E{x:Int}(h:a0b x=true):∀(k w:Nat),w+k=32→1≤k→a2c x k w≤31
 |k+1,w,hk,_=>by
  simp only[a2c]
  by_cases h31:w=31
  subst h31;rw[d5h h]
  simp
  ·cases (x != 0)&&!a1U x w with
   |true=>exact c2E h k (w+1) (by omega) (by omega)
   |false=>simp only[cF];omega
theorem b5e:∀(l:List Int)(w:Nat),l.all a0b=true→w≤31→l.foldl (fun w x=>a2c x (32-w) w) w≤31
 | [],w,_,h=>h
 |x::l,w,hl,h=>by
  simp only[a09,bA]at hl;exact b5e l _ hl.2 (c2E hl.1 (32-w) w (by omega) (by omega))
theorem b2a{l:List Int}(h:l.all a0b=true):a0u l≤31:=b5e l 0 h (by omega)
theorem b4s{l:List Int}(hl:l.length<10000):a5O l=some (((5+a0u l*l.length:Nat)):Int):=by
 have hw:=a6z l;have hm:a0u l*l.length≤32*l.length:=a35 _ hw;unfold a5O;simp only[a5I (show short l by unfold short;omega),oB];have e:((a0u l:Nat):Int)*((l.length:Nat):Int)=((a0u l*l.length:Nat):Int):=by simp
 rw[e,a0n (n:=((a0u l*l.length:Nat):Int)) (by omega),a0n (by omega)];congr 1
def b2b(k:Int)(part:List Int):Nat:=5+(if k=31 then 5+a0u part*part.length else(part.map (a5c k.toNat)).sum)
def a4o:List Nat→List Int→List Int→Nat
 |z::zs,k::ks,l=>b2b k (l.take z)+a4o zs ks (l.drop z)
 |_,_,_=>0
theorem b5f{q:Nat}(h:q<2147483648):wrap .u64 (q:Int)=(q:Int):=a5m (by omega)
theorem d1x{k:Int}(hk:kB k=true){part:List Int}(hw:part.all a0b=true)(L:List Int):(b1X k part L).length=L.length+b2b k part:=by
 simp only[kB,a19,bA,dT,beq_iff_eq]at hk;obtain⟨K,rfl⟩:=a05 (show 0≤k by omega);have hK:K≤31:=by omega
 have h1:=a6Q (N:=K) (n:=5) (by omega) (by omega) L;have hwd:=b2a hw;unfold b1X b2b;rw[b5f (by omega)];split;rw[b5d (by omega),a6Q (n:=5) (by omega) (by omega),h1];omega;rw[c2D (by omega) _ _ hw,h1];omega
theorem c2F:∀(zs:List Nat)(ks l L:List Int),ks.all kB=true→l.all a0b=true→(a6w zs ks l L).length=L.length+a4o zs ks l
 |z::zs,k::ks,l,L,h,hw=>by
  simp only[a09,bA]at h;have hwp:(l.take z).all a0b=true:=lA.2 fun x hx=>lA.1 hw x (a27 hx);have hwr:(l.drop z).all a0b=true:=lA.2 fun x hx=>lA.1 hw x (a28 hx);simp only[a6w,a4o];rw[c2F zs ks _ _ h.2 hwr,d1x h.1 hwp];omega
 | [],_,_,_,_,_=>by simp[a6w,a4o]
 |_::_,[],_,_,_,_=>by simp[a6w,a4o]
theorem d2z{k:Int}(hk:kB k=true)(part:List Int):b2b k part≤10+65*part.length:=by
 simp only[kB,a19,bA,dT,beq_iff_eq]at hk;unfold b2b;split;have hm:a0u part*part.length≤32*part.length:=a35 _ (a6z part);omega
 have:=c6M (c6K (k:=k.toNat) (by omega)) part
 omega
theorem b4t{zn:List Nat}{p:Prt}(hk:p.2.1.length=zn.length)(hall:p.2.1.all kB=true)(hz:zn.length≤256):∀(j i:Nat)(l:List Int)(c:Nat),i+j=zn.length→(zn.drop i).sum=l.length→l.all a0b=true→l.length≤5000→c+10*j+65*l.length<1000000→
  a0h a1C (l,(c:Int),(zn.length:Int),(i:Int),a2f zn,p,())=some (((c+a4o (zn.drop i) (p.2.1.drop i) l:Nat):Int),())
 |0,i,l,c,hi,_,_,_,_=>by
  obtain rfl:i=zn.length:=by omega
  rw[a08];exact a0q (by simp[a1C,a4o])
 |j+1,i,l,c,hi,hsum,hw,hl5,hb=>by
  have hlt:i<zn.length:=by omega
  have hki:i<p.2.1.length:=by omega
  have hkb:=lA.1 hall _ (a03 hki);rw[b7h hlt]at hsum;have h0:decide ((0:Int)≤(i:Int))=true:=by simp
  have h1:decide ((i:Int)<(((a2f zn).length:Nat):Int))=true:=by rw[a1W];simp;omega
  have h2:decide ((0:Int)≤((zn[i]:Nat):Int))=true:=by simp
  have h3:decide (((zn[i]:Nat):Int)≤((l.length:Nat):Int))=true:=by simp;omega
  have hpart:(l.take zn[i]).length=zn[i]:=by rw[a01];omega
  have hrest:(l.drop zn[i]).length=(zn.drop (i+1)).sum:=by rw[a04];omega
  have hwp:(l.take zn[i]).all a0b=true:=lA.2 fun x hx=>lA.1 hw x (a27 hx);have hwr:(l.drop zn[i]).all a0b=true:=lA.2 fun x hx=>lA.1 hw x (a28 hx);have hle:=d2z hkb (l.take zn[i]);rw[hpart]at hle;have goal:a1C (l,(c:Int),(zn.length:Int),(i:Int),a2f zn,p,())=some (.inl (l.drop zn[i],((c+b2b p.2.1[i] (l.take zn[i]):Nat):Int),(zn.length:Int),((i+1:Nat):Int),a2f zn,p,())):=by
   by_cases h31:p.2.1[i]=31
   have hne:(p.2.1[i]==31)=true:=by rw[h31];rfl
   have hr:=b4s (l:=l.take zn[i]) (by omega);have ec:b2b p.2.1[i] (l.take zn[i])=5+(5+a0u (l.take zn[i])*(l.take zn[i]).length):=by unfold b2b;rw[if_pos h31]
   rw[ec]at hle⊢;generalize 5+a0u (l.take zn[i])*(l.take zn[i]).length=r at hr hle⊢;have e1:wrap .i64 (5+(r:Int))=5+(r:Int):=a0n (by omega);have e2:wrap .i64 ((c:Int)+(5+(r:Int)))=((c+(5+r):Nat):Int):=by rw[a0n (by omega)];omega
   simp only[a1C,dlt hlt,h0,h1,a8k hlt,h2,h3,cT,a02,tN,a0c hki,oB,hne,hr,e1,e2,a21,a0f (show i<1000000 by omega)];have hne:(p.2.1[i]==31)=false:=by simp[h31]
   have hkb':=hkb;simp only[kB,a19,bA,dT,beq_iff_eq]at hkb';obtain⟨K,hK⟩:=a05 (show 0≤p.2.1[i]by omega);have hr:=c0K (k:=K) (by omega) hwp (by omega);have ec:b2b p.2.1[i] (l.take zn[i])=5+((l.take zn[i]).map (a5c K)).sum:=by unfold b2b;rw[if_neg h31,hK];rfl
   rw[←hK]at hr;rw[ec]at hle⊢;generalize ((l.take zn[i]).map (a5c K)).sum=r at hr hle⊢;have e1:wrap .i64 (5+(r:Int))=5+(r:Int):=a0n (by omega);have e2:wrap .i64 ((c:Int)+(5+(r:Int)))=((c+(5+r):Nat):Int):=by rw[a0n (by omega)];omega
   simp only[a1C,dlt hlt,h0,h1,a8k hlt,h2,h3,cT,cF,a02,tN,a0c hki,oB,hne,hr,e1,e2,a21,a0f (show i<1000000 by omega)]
  rw[a0x goal,b4t hk hall hz j (i+1) (l.drop zn[i]) _ (by omega) hrest.symm hwr (by rw[a04];omega) (by rw[a04];omega)];rw[a00 hlt,a00 hki];simp only[a4o];congr 3;omega
theorem c5a{p:Prt}{n warm:Int}{l:List Int}{zn:List Nat}(h:PartsOk p n warm l zn):a4O (p,n,warm,l)=some ((4+a4o zn p.2.1 l:Nat):Int):=by
 have hk:Go.Ab.short p.2.1:=by have:=h.ks;have:=h.len;unfold Go.Ab.short;omega
 have h5:=h.short;have hz:=h.len;have h1:=b4t h.ks h.all h.len zn.length 0 l 4 (by omega) (by rw[a07];exact h.sum) h.wide h.short (by omega);simp only[nZ,a33,a07]at h1;unfold a4O;simp only[b4p hk,h.may,b1r h.row h.rest h.wide h.short,oB,bT,cF,a2U,h.sizes,a1W,h1]
theorem c5b{p:Prt}{n warm:Int}{l:List Int}{zn:List Nat}(h:PartsOk p n warm l zn)(L:List Int):(a6A p zn l L).length=L.length+(4+a4o zn p.2.1 l):=by
 obtain⟨o,ho⟩:=a05 h.order.1;have h2:=h.order.2;unfold a6A;rw[c2F _ _ _ _ h.all h.wide,ho,b5f (by omega),a6Q (by omega) (by omega)];omega
end Go.Ab
namespace Go.Ab
def a2g(o:Int):Sub:=((0:Int),(0:Int),o,(0:Int),(0:Int),([]:List Int),a23 3 (0:Int),([]:List Stg),([]:List Int),((0:Int),([]:List Int),()),([]:List Int),())
theorem c7N(o:Int):SmallS (a2g o):=⟨by simp[a2g],by simp[a2g],by simp[a2g],by simp[a2g],by simp[a2g],by simp[a2g]⟩
end Go.Ab
namespace Go.Ab
end Go.Ab
namespace Go.Ab
open IntKind(wrap)
theorem d0a{x:Int}(h:-1048576≤x∧x≤1048575):a3u (a2m x (-1048576)) 1048575=x:=by
 unfold a3u a2m;have h1:decide ((-1048576:Int) > x)=false:=decide_eq_false (by omega);have h2:decide ((1048575:Int)<x)=false:=decide_eq_false (by omega);simp only[h1,cF,h2]
theorem d6K{x:Int}(h:a0b x=true):-1048576≤a0A .i64 x ((10:Nat):Int)∧a0A .i64 x ((10:Nat):Int)≤1048575:=by
 have hx:=a2z.1 h;have e:a0A .i64 x ((10:Nat):Int)=x / 1024:=by
  show Int.fdiv x 1024=_;exact a43 _ (by decide)
 rw[e];omega
theorem c4B{x:Int}(hx:a0b x=true){a l:List Int}{n i:Int}:∀(k s:Nat),s+k=10→∃s':Nat,s'≤10∧a0h a3V (a,(s:Int),x,l,n,i,())=some (a,(s':Int),l,n,i,())
 |0,s,h=>by
  obtain rfl:s=10:=by omega
  have d0:decide (((10:Nat):Int)<0)=false:=by decide
  have hs:=d0a (d6K hx);refine⟨10,a34 _,a0q ?_⟩;simp only[a3V,d0,cF,a2T,oB,hs,bne_self_eq_false]
 |k+1,s,h=>by
  have d0:decide ((s:Int)<0)=false:=decide_eq_false (by omega);cases hc:(a3u (a2m (a0A .i64 x (s:Int)) (-1048576)) 1048575 != a0A .i64 x (s:Int))with
  |false=>exact⟨s,by omega,a0q (by simp only[a3V,d0,cF,a2T,oB,hc])⟩
  |true=>
   obtain⟨s',h1,h2⟩:=c4B hx (a:=a) (l:=l) (n:=n) (i:=i) k (s+1) (by omega);refine⟨s',h1,?_⟩;rw[a0x (s':=(a,((s+1:Nat):Int),x,l,n,i,())) (by simp only[a3V,d0,cF,a2T,oB,hc,cT,a0f (show s<1000000 by omega)])];exact h2
theorem c7O{l:List Int}(hw:l.all a0b=true)(hl:l.length<100000):∃r,a7N l=some r∧r.length=l.length:=by
 obtain⟨b,h1,s,h2,h3⟩:=a7C (f:=a5E) (fun i st=>∃s:Nat,s≤10∧st=(l,(s:Int),l,(l.length:Int),(i:Int),())) (fun b=>∃s:Nat,s≤10∧b=(l,(s:Int),())) l.length
  (fun i st hi h=>by
   obtain⟨s,hs,rfl⟩:=h;obtain⟨s',hs',e⟩:=c4B (lA.1 hw _ (a03 hi)) (a:=l) (l:=l) (n:=(l.length:Int)) (i:=(i:Int)) (10-s) s (by omega);exact⟨_,by simp only[a5E,dlt hi,cT,a0c hi,oB,e,a0f (show i<1000000 by omega)]<;>rfl,s',hs',rfl⟩)
  (fun st h=>by
   obtain⟨s,hs,rfl⟩:=h;exact⟨_,by simp only[a5E,dge,cF]<;>rfl,s,hs,rfl⟩) l.length 0 _ (by omega) ⟨0,by omega,rfl⟩
 subst h3;obtain⟨c,g1,o,g2,g3⟩:=a7C (f:=a5F) (fun i st=>∃o:List Int,st=((s:Int),l,(l.length:Int),(i:Int),o,())∧o.length=l.length) (fun b=>∃o:List Int,b=(o,())∧o.length=l.length) l.length
  (fun i st hi h=>by
   obtain⟨o,rfl,ho⟩:=h;have d0:decide ((s:Int)<0)=false:=decide_eq_false (by omega);have d1:decide ((0:Int)≤(i:Int))=true:=by simp
   have d2:decide ((i:Int)<((o.length:Nat):Int))=true:=decide_eq_true (by omega);exact⟨_,by simp only[a5F,dlt hi,cT,a0c hi,oB,d0,cF,d1,d2,a02,a0f (show i<1000000 by omega)]<;>rfl,_,rfl,by simp[ho]⟩)
  (fun st h=>by
   obtain⟨o,rfl,ho⟩:=h;exact⟨_,by simp only[a5F,dge,cF]<;>rfl,o,rfl,ho⟩) l.length 0 _ (by omega) ⟨a23 l.length 0,rfl,by simp⟩
 subst g2;refine⟨o,?_,g3⟩;have d0:decide ((0:Int)≤((l.length:Nat):Int))=true:=by simp
 have d1:decide (((l.length:Nat):Int)≤((l.length:Nat):Int))=true:=by simp
 have d2:lim l.length=true:=a0D (by omega);simp only[nZ]at h1 g1;unfold a7N;simp only[h1,oB,d0,d1,d2,tN,a02,cT,g1]
theorem c2G:∀(N:Nat)(num den:Int),den.toNat≤N→∃a b,a0h a3Q (num,den,())=some (a,b,())
 |N,num,den,h=>by
  by_cases hd:den≥1099511627776
  ·have d0:decide (den≥(1099511627776:Int))=true:=decide_eq_true hd;have e:a0A .i64 den 1=den / 2:=by
    show Int.fdiv den 2=_;exact a43 _ (by decide)
   rw[a0x (s':=(a0A .i64 num 1,den / 2,())) (by simp only[a3Q,d0,cT,e])]
   match N with
   |0=>omega
   |N+1=>exact c2G N _ _ (by omega)
  have d0:decide (den≥(1099511627776:Int))=false:=decide_eq_false hd;exact⟨num,den,a0q (by simp only[a3Q,d0,cF])⟩
theorem c2H{f g:List Int}{m:Nat}(hm:1≤m)(hg:g.length=f.length)(hl:f.length<100000)(hm2:m<1000):∃k,a5a (f,g,(m:Int))=some k:=by
 obtain⟨b,h1,num,den,h2⟩:=a7C (f:=a3P) (fun i st=>∃num den:Int,st=(f,g,num,den,((m+i:Nat):Int),())) (fun b=>∃num den:Int,b=(num,den,())) (f.length-m)
  (fun i st hi h=>by
   obtain⟨num,den,rfl⟩:=h;have hlt:m+i<f.length:=by omega
   have e:wrap .i64 (((m+i:Nat):Int)-1)=((m+i-1:Nat):Int):=by rw[a0n (by omega)];omega
   exact⟨_,by simp only[a3P,dlt hlt,cT,a0c hlt,e,a0c (show m+i-1<g.length by omega),oB,a0f (show m+i<1000000 by omega)]<;>rfl,_,_,rfl⟩)
  (fun st h=>by
   obtain⟨num,den,rfl⟩:=h;have d0:decide (((m+(f.length-m):Nat):Int)<((f.length:Nat):Int))=false:=decide_eq_false (by omega);exact⟨_,by simp only[a3P,d0,cF]<;>rfl,_,_,rfl⟩) (f.length-m) 0 (f,g,0,0,(m:Int),()) (by omega) ⟨0,0,rfl⟩
 subst h2;obtain⟨a,c,h3⟩:=c2G den.toNat num den (a34 _);unfold a5a;simp only[h1,oB,h3];cases hc:(c==0)with
 |true=>exact⟨0,rfl⟩
 |false=>
  simp only[cF];cases decide ((a0z .i64 a 15).tmod c<0)<;>exact⟨_,rfl⟩
theorem c5c{f g ks:List Int}{m:Nat}{order k:Int}(hm:1≤m)(hg:g.length=f.length)(hl:f.length<100000)(hm2:m<1000):
  ∃f' g':List Int,a0h a3D (order,(m:Int),k,((f.length:Nat):Int)-1,f,g,ks,())=some (order,(m:Int),f',g',ks,())∧f'.length=f.length∧g'.length=f.length:=by
 obtain⟨b,h1,f',g',h2,h3⟩:=a7C (f:=a3D) (fun i st=>∃f' g':List Int,st=(order,(m:Int),k,((f.length:Nat):Int)-1-(i:Int),f',g',ks,())∧f'.length=f.length∧g'.length=f.length)
  (fun b=>∃f' g':List Int,b=(order,(m:Int),f',g',ks,())∧f'.length=f.length∧g'.length=f.length) (f.length-m)
  (fun i st hi h=>by
   obtain⟨f',g',rfl,hf',hg'⟩:=h;have d0:decide (((f.length:Nat):Int)-1-(i:Int)≥(m:Int))=true:=decide_eq_true (by omega);have d1:decide ((0:Int)≤((f.length:Nat):Int)-1-(i:Int))=true:=decide_eq_true (by omega);have d2:decide (((f.length:Nat):Int)-1-(i:Int)<((f'.length:Nat):Int))=true:=decide_eq_true (by omega);have d3:decide (((f.length:Nat):Int)-1-(i:Int)<((g'.length:Nat):Int))=true:=decide_eq_true (by omega);have e:wrap .i64 (((f.length:Nat):Int)-1-(i:Int)-1)=((f.length:Nat):Int)-1-((i+1:Nat):Int):=by rw[a0n (by omega)];omega
   have d4:decide ((0:Int)≤((f.length:Nat):Int)-1-((i+1:Nat):Int))=true:=decide_eq_true (by omega);have d5:decide (((f.length:Nat):Int)-1-((i+1:Nat):Int)<((g'.length:Nat):Int))=true:=decide_eq_true (by omega);exact⟨_,by simp only[a3D,d0,d1,d2,d3,e,d4,d5,cT,a02,a2T,oB]<;>rfl,_,_,rfl,by simp[hf'],by simp[hg']⟩)
  (fun st h=>by
   obtain⟨f',g',rfl,hf',hg'⟩:=h;have d0:decide (((f.length:Nat):Int)-1-((f.length-m:Nat):Int)≥(m:Int))=false:=decide_eq_false (by omega);exact⟨_,by simp only[a3D,d0,cF]<;>rfl,f',g',rfl,hf',hg'⟩) (f.length-m) 0 _ (by omega) ⟨f,g,rfl,rfl,hg⟩
 subst h2;simp only[nZ,Int.sub_zero]at h1;exact⟨f',g',h1,h3⟩
theorem c6O{f g:List Int}{o:Nat}(ho:o≤32)(hg:g.length=f.length)(hl:f.length<100000):∃ks:List Int,a0h a3E ((o:Int),(1:Int),f,g,([]:List Int),())=some (ks,())∧ks.length=o:=by
 obtain⟨b,h1,ks,h2,h3⟩:=a7C (f:=a3E) (fun i st=>∃f' g' ks:List Int,st=((o:Int),((i+1:Nat):Int),f',g',ks,())∧f'.length=f.length∧g'.length=f.length∧ks.length=i)
  (fun b=>∃ks:List Int,b=(ks,())∧ks.length=o) o
  (fun i st hi h=>by
   obtain⟨f',g',ks,rfl,hf',hg',hk⟩:=h;have d0:decide (((i+1:Nat):Int)≤(o:Int))=true:=decide_eq_true (by omega);obtain⟨k,hk2⟩:=c2H (f:=f') (g:=g') (m:=i+1) (by omega) (by omega) (by omega) (by omega);have e:wrap .i64 (((f'.length:Nat):Int)-1)=((f'.length:Nat):Int)-1:=a0n (by omega);obtain⟨f2,g2,h1,h2,h3⟩:=c5c (f:=f') (g:=g') (ks:=ks++[k]) (m:=i+1) (order:=(o:Int)) (k:=k) (by omega) (by omega) (by omega) (by omega);have hlim:lim (ks.length+1)=true:=a0D (by omega);exact⟨_,by simp only[a3E,d0,cT,hk2,oB,hlim,e,a32,h1,a0f (show i+1<1000000 by omega)]<;>rfl,f2,g2,ks++[k],rfl,by omega,by omega,by simp[hk]⟩)
  (fun st h=>by
   obtain⟨f',g',ks,rfl,hf',hg',hk⟩:=h;have d0:decide (((o+1:Nat):Int)≤(o:Int))=false:=decide_eq_false (by omega);exact⟨_,by simp only[a3E,d0,cF]<;>rfl,ks,rfl,hk⟩) o 0 _ (by omega) ⟨f,g,[],rfl,rfl,hg,rfl⟩
 subst h2;exact⟨ks,h1,h3⟩
theorem c6P{l:List Int}(hw:l.all a0b=true)(hl:l.length≤4096){o:Nat}(h1:1≤o)(h2:o≤32):∃ks:List Int,a6L (l,(o:Int))=some (ks,0)∧ks.length=o:=by
 have hs:short l:=by unfold short;omega
 obtain⟨r,e1,e2⟩:=c7O hw (by omega);have hr:short r:=by unfold short;omega
 obtain⟨ks,e3,e4⟩:=c6O (f:=r) (g:=r) h2 rfl (by omega);have c1:decide ((o:Int)<1)=false:=decide_eq_false (by omega);have c2:decide ((o:Int) > 32)=false:=decide_eq_false (by omega);have c3:decide (((l.length:Nat):Int) > 4096)=false:=decide_eq_false (by omega);have c4:decide ((0:Int)≤(o:Int))=true:=by simp
 have c5:lim o=true:=a0D (by omega);refine⟨ks,?_,e4⟩;unfold a6L;simp only[c1,c2,c3,c4,c5,cF,cT,oB,a5Z hs,hw,bT,e1,a6P hr,tN,a02,e3]
end Go.Ab
namespace Go.Ab
open IntKind(wrap)
theorem b4u{σ β:Type}{f:σ→Option (σ ⊕ β)}(I:Nat→σ→Prop)(Q:β→Prop)(n:Nat)(hstep:∀i s,i<n→I i s→(∃s',f s=some (.inl s')∧I (i+1) s')∨(∃b,f s=some (.inr b)∧Q b))
  (hexit:∀s,I n s→∃b,f s=some (.inr b)∧Q b):∀(k i:Nat)(s:σ),i+k=n→I i s→∃b,a0h f s=some b∧Q b
 |0,i,s,h,hi=>by
  obtain rfl:i=n:=by omega
  obtain⟨b,h1,h2⟩:=hexit s hi;exact⟨b,a0q h1,h2⟩
 |k+1,i,s,h,hi=>by
  rcases hstep i s (by omega) hi with⟨s',h1,h2⟩|⟨b,h1,h2⟩;rw[a0x h1];exact b4u I Q n hstep hexit k (i+1) s' (by omega) h2;exact⟨b,a0q h1,h2⟩
theorem c7P{ks:List Int}(hl:ks.length≤32):∃b,a0h a2s (ks,ks,(ks.length:Int),(0:Int),())=some b∧(b=.inl (ks,())∨b=.inr (([]:List Int),(1:Int),())):=
 b4u (f:=a2s) (fun i s=>s=(ks,ks,(ks.length:Int),(i:Int),())) (fun b=>b=.inl (ks,())∨b=.inr (([]:List Int),(1:Int),())) ks.length
  (fun i s hi h=>by
   subst h;cases h1:decide (ks[i]<(-16383:Int))with
   |true=>exact Or.inr ⟨_,by simp only[a2s,dlt hi,cT,a0c hi,oB,h1]<;>rfl,Or.inr rfl⟩
   |false=>
    cases h2:decide (ks[i] > (16383:Int))with
    |true=>exact Or.inr ⟨_,by simp only[a2s,dlt hi,cT,cF,a0c hi,oB,h1,h2]<;>rfl,Or.inr rfl⟩
    |false=>exact Or.inl ⟨_,by simp only[a2s,dlt hi,cT,cF,a0c hi,oB,h1,h2,a0f (show i<1000000 by omega)]<;>rfl,rfl⟩)
  (fun s h=>by
   subst h;exact⟨_,by simp only[a2s,dge,cF]<;>rfl,Or.inl rfl⟩) ks.length 0 _ (by omega) rfl
theorem c7Q{c a:List Int}{i:Nat}{k n:Int}(hc:c.length=i)(hi:i≤32):
  ∃nx:List Int,a0h a4m (c,(i:Int),k,a,n,(i:Int),c,(c.length:Int),(0:Int),([]:List Int),())=some (k,a,n,(i:Int),nx,())∧nx.length=i:=by
 obtain⟨b,h1,nx,h2,h3⟩:=a7C (f:=a4m) (fun j s=>∃nx:List Int,s=(c,(i:Int),k,a,n,(i:Int),c,(c.length:Int),(j:Int),nx,())∧nx.length=j)
  (fun b=>∃nx:List Int,b=(k,a,n,(i:Int),nx,())∧nx.length=c.length) c.length
  (fun j s hj h=>by
   obtain⟨nx,rfl,hn⟩:=h;have e1:wrap .i64 ((i:Int)-1)=(i:Int)-1:=a0n (by omega);have e2:wrap .i64 ((i:Int)-1-(j:Int))=((i-1-j:Nat):Int):=by rw[a0n (by omega)];omega
   have hlim:lim (nx.length+1)=true:=a0D (by omega);exact⟨_,by simp only[a4m,dlt hj,cT,a0c hj,oB,e1,e2,a0c (show i-1-j<c.length by omega),hlim,a0f (show j<1000000 by omega),a32]<;>rfl,_,rfl,by simp[hn]⟩)
  (fun s h=>by
   obtain⟨nx,rfl,hn⟩:=h;exact⟨_,by simp only[a4m,dge,cF]<;>rfl,nx,rfl,hn⟩) c.length 0 _ (by omega) ⟨[],rfl,rfl⟩
 subst h2;exact⟨nx,h1,by omega⟩
theorem d0b{ks:List Int}(h1:1≤ks.length)(hl:ks.length≤32):∃c e,a8H ks=some (c,e)∧(e=0→c.length=ks.length):=by
 obtain⟨b,g1,g2⟩:=c7P hl;have c1:decide (((ks.length:Nat):Int)<1)=false:=decide_eq_false (by omega);have c2:decide (((ks.length:Nat):Int) > 32)=false:=decide_eq_false (by omega);unfold a8H;simp only[c1,c2,cF,oB,g1];rcases g2 with rfl|rfl;obtain⟨r,h2,c,h3,h4⟩:=a7C (f:=a5Y) (fun i s=>∃c:List Int,s=(c,ks,(ks.length:Int),(i:Int),())∧c.length=i) (fun r=>∃c:List Int,r=(c,())∧c.length=ks.length) ks.length
  (fun i s hi h=>by
   obtain⟨c,rfl,hc⟩:=h;have e1:wrap .i64 ((i:Int)+1)=((i+1:Nat):Int):=a0f (by omega);have d1:decide ((0:Int)≤((i+1:Nat):Int))=true:=by simp;omega
   have l1:lim (i+1)=true:=a0D (by omega);obtain⟨nx,n1,n2⟩:=c7Q (c:=c) (a:=ks) (i:=i) (k:=ks[i]) (n:=(ks.length:Int)) hc (by omega);have l2:lim (nx.length+1)=true:=a0D (by omega);exact⟨_,by simp only[a5Y,dlt hi,cT,a0c hi,oB,e1,d1,tN,l1,a02,n1,l2,a32]<;>rfl,_,rfl,by simp[n2]⟩)
  (fun s h=>by
   obtain⟨c,rfl,hc⟩:=h;exact⟨_,by simp only[a5Y,dge,cF]<;>rfl,c,rfl,hc⟩) ks.length 0 _ (by omega) ⟨[],rfl,rfl⟩
 subst h3;simp only[nZ]at h2;exact⟨c,0,by simp only[h2,oB],fun _=>h4⟩;exact⟨[],1,rfl,fun h=>absurd h (by decide)⟩
theorem c7R{c:List Int}{s:Nat}{w:Nat}{half:Int}(hc:c.length≤32)(hw:w≤32):
  ∃out:List Int,a0h a2u (c,(w:Int),(s:Int),half,c,(c.length:Int),(0:Int),([]:List Int),())=some (c,(w:Int),(s:Int),out,()):=by
 obtain⟨b,h1,out,h2⟩:=b4u (f:=a2u) (fun j st=>∃out:List Int,st=(c,(w:Int),(s:Int),half,c,(c.length:Int),(j:Int),out,())∧out.length=j)
  (fun b=>∃out:List Int,b=(c,(w:Int),(s:Int),out,())) c.length
  (fun j st hj h=>by
   obtain⟨out,rfl,ho⟩:=h;have d0:decide ((s:Int)<0)=false:=decide_eq_false (by omega);have hlim:lim (out.length+1)=true:=a0D (by omega);cases hf:a1U (a0A .i64 (wrap .i64 (c[j]+half)) (s:Int)) (w:Int)with
   |true=>exact Or.inl ⟨_,by simp only[a2u,dlt hj,cT,a0c hj,oB,d0,cF,a6u hw,hf,bT,hlim,a0f (show j<1000000 by omega),a32]<;>rfl,_,rfl,by simp[ho]⟩
   |false=>exact Or.inr ⟨_,by simp only[a2u,dlt hj,cT,a0c hj,oB,d0,cF,a6u hw,hf,a06]<;>rfl,out,rfl⟩)
  (fun st h=>by
   obtain⟨out,rfl,ho⟩:=h;exact⟨_,by simp only[a2u,dge,cF]<;>rfl,out,rfl⟩) c.length 0 _ (by omega) ⟨[],rfl,rfl⟩
 subst h2;exact⟨out,h1⟩
end Go.Ab
namespace Go.Ab
open IntKind(wrap)
theorem c7S{c:List Int}{w:Int}(hl:c.length≤32):∃b,a0h a2t (c,w,c,(c.length:Int),(0:Int),())=some b∧(b=.inl (c,w,())∨b=.inr ((0:Int),(1:Int),([]:List Int),())):=
 b4u (f:=a2t) (fun i s=>s=(c,w,c,(c.length:Int),(i:Int),())) (fun b=>b=.inl (c,w,())∨b=.inr ((0:Int),(1:Int),([]:List Int),())) c.length
  (fun i s hi h=>by
   subst h;cases h1:decide (c[i]<(-35184372088832:Int))with
   |true=>exact Or.inr ⟨_,by simp only[a2t,dlt hi,cT,a0c hi,oB,h1]<;>rfl,Or.inr rfl⟩
   |false=>
    cases h2:decide (c[i] > (35184372088832:Int))with
    |true=>exact Or.inr ⟨_,by simp only[a2t,dlt hi,cT,cF,a0c hi,oB,h1,h2]<;>rfl,Or.inr rfl⟩
    |false=>exact Or.inl ⟨_,by simp only[a2t,dlt hi,cT,cF,a0c hi,oB,h1,h2,a0f (show i<1000000 by omega)]<;>rfl,rfl⟩)
  (fun s h=>by
   subst h;exact⟨_,by simp only[a2t,dge,cF]<;>rfl,Or.inl rfl⟩) c.length 0 _ (by omega) rfl
theorem d0c{c:List Int}{w:Nat}(h1:1≤c.length)(hl:c.length≤32)(hw:2≤w∧w≤16):∃o sh e,a8I (c,(w:Int))=some (o,sh,e)∧(e=0→o.length=c.length):=by
 obtain⟨b,g1,g2⟩:=c7S (w:=(w:Int)) hl;have c1:decide (((c.length:Nat):Int)<1)=false:=decide_eq_false (by omega);have c2:decide (((c.length:Nat):Int) > 32)=false:=decide_eq_false (by omega);have c3:decide ((w:Int)<2)=false:=decide_eq_false (by omega);have c4:decide ((w:Int) > 16)=false:=decide_eq_false (by omega);unfold a8I;simp only[c1,c2,c3,c4,cF,oB,g1];rcases g2 with rfl|rfl
 ·obtain⟨r,h2,h3⟩:=b4u (f:=a2v) (fun i s=>s=(c,(w:Int),(i:Int),())) (fun r=>r=.inl ()∨∃(sh:Int)(o:List Int),r=.inr (sh,(0:Int),o,())∧o.length=c.length) 15
   (fun i s hi h=>by
    subst h;have d0:decide ((i:Int)≤14)=true:=decide_eq_true (by omega);have d1:decide ((0:Int)≤((c.length:Nat):Int))=true:=by simp
    have l1:lim c.length=true:=a0D (by omega);have step:∀half:Int,∃o:List Int,a0h a2u (c,(w:Int),(i:Int),half,c,(c.length:Int),(0:Int),([]:List Int),())=some (c,(w:Int),(i:Int),o,()):=fun half=>c7R hl (by omega)
    by_cases hp:(i:Int) > 0
    ·have e1:wrap .i64 ((i:Int)-1)=(i:Int)-1:=a0n (by omega);have d2:decide ((i:Int)-1<0)=false:=decide_eq_false (by omega);obtain⟨o,ho⟩:=step (a0z .i64 1 ((i:Int)-1));cases hc:((((o.length:Nat):Int))==((c.length:Nat):Int))with
     |true=>exact Or.inr ⟨_,by simp only[a2v,d0,cT,hp,decide_true,e1,d2,cF,oB,d1,tN,l1,a02,ho,hc]<;>rfl,Or.inr ⟨_,o,rfl,by have:=beq_iff_eq.1 hc;omega⟩⟩
     |false=>exact Or.inl ⟨_,by simp only[a2v,d0,cT,hp,decide_true,e1,d2,cF,oB,d1,tN,l1,a02,ho,hc,a0f (show i<1000000 by omega)]<;>rfl,rfl⟩
    ·obtain⟨o,ho⟩:=step 0;cases hc:((((o.length:Nat):Int))==((c.length:Nat):Int))with
     |true=>exact Or.inr ⟨_,by simp only[a2v,d0,cT,hp,decide_false,cF,oB,d1,tN,l1,a02,ho,hc]<;>rfl,Or.inr ⟨_,o,rfl,by have:=beq_iff_eq.1 hc;omega⟩⟩
     |false=>exact Or.inl ⟨_,by simp only[a2v,d0,cT,hp,decide_false,cF,oB,d1,tN,l1,a02,ho,hc,a0f (show i<1000000 by omega)]<;>rfl,rfl⟩)
   (fun s h=>by
    subst h;have d0:decide (((15:Nat):Int)≤14)=false:=by decide
    exact⟨_,by simp only[a2v,d0,cF]<;>rfl,Or.inl rfl⟩) 15 0 (c,(w:Int),(0:Int),()) (by omega) rfl
  rcases h3 with rfl|⟨sh,o,rfl,ho⟩;exact⟨[],0,6,by simp only[h2,oB],fun h=>absurd h (by decide)⟩;exact⟨o,sh,0,by simp only[h2,oB],fun _=>ho⟩
 exact⟨[],0,1,rfl,fun h=>absurd h (by decide)⟩
theorem d1y{l:List Int}(hw:l.all a0b=true)(hl:l.length≤4096){o w:Nat}(h1:1≤o)(h2:o≤32)(h3:2≤w∧w≤16):∃c sh e,a4g (l,(o:Int),(w:Int))=some (c,sh,e)∧(e=0→c.length=o):=by
 obtain⟨ks,e1,e2⟩:=c6P hw hl h1 h2;obtain⟨c,e,g1,g2⟩:=d0b (ks:=ks) (by omega) (by omega);unfold a4g;simp only[e1,oB,show((0:Int) != 0)=false from rfl,cF,g1]
 by_cases he:e=0
 subst he;obtain⟨o',sh,e',g3,g4⟩:=d0c (c:=c) (w:=w) (by have:=g2 rfl;omega) (by have:=g2 rfl;omega) h3
 have:=g2 rfl
 exact⟨o',sh,e',by simp only[show((0:Int) != 0)=false from rfl,cF,g3,oB],fun h=>by have:=g4 h;omega⟩;have hne:(e != 0)=true:=by simpa using he
 exact⟨[],0,e,by simp only[hne,cT],fun h=>absurd h he⟩
theorem d0d{l:List Int}{o:Nat}(hl:l.length<100000)(ho:o≤4):∃v,a9w (l,(o:Int))=some v:=by
 obtain⟨b,h1,v,h2⟩:=a7C (f:=a4S) (fun i s=>∃v:Int,s=((o:Int),v,l,(l.length:Int),(i:Int),())) (fun b=>∃v:Int,b=(v,())) l.length
  (fun i s hi h=>by
   obtain⟨v,rfl⟩:=h;cases hc:decide (wrap .i64 ((i:Int)+(o:Int))≥4)with
   |true=>exact⟨_,by simp only[a4S,dlt hi,cT,a0c hi,oB,hc,a0f (show i<1000000 by omega)]<;>rfl,_,rfl⟩
   |false=>exact⟨_,by simp only[a4S,dlt hi,cT,cF,a0c hi,oB,hc,a0f (show i<1000000 by omega)]<;>rfl,_,rfl⟩)
  (fun s h=>by
   obtain⟨v,rfl⟩:=h;exact⟨_,by simp only[a4S,dge,cF]<;>rfl,v,rfl⟩) l.length 0 ((o:Int),(0:Int),l,(l.length:Int),(0:Int),()) (by omega) ⟨0,rfl⟩
 subst h2;refine⟨v,?_⟩;unfold a9w;simp only[h1,oB]
theorem c2I{l:List Int}{o:Nat}(ho:o≤4)(hs:l.length<100000)(hw:l.all a0b=true):∃r e,a4Q (l,(o:Int))=some (r,e)∧r.length≤l.length:=by
 by_cases hn:o≤l.length
 ·rw[b7W ho hn (by unfold short;omega) hw];cases (a2a o l).all a0b with
  |true=>exact⟨_,_,rfl,by rw[a5Q];omega⟩
  |false=>exact⟨_,_,rfl,by simp⟩
 have c1:decide ((o:Int)<0)=false:=decide_eq_false (by omega);have c2:decide ((o:Int) > 4)=false:=decide_eq_false (by omega);have c3:decide (((l.length:Nat):Int)<(o:Int))=true:=decide_eq_true (by omega);exact⟨[],1,by unfold a4Q;simp only[c1,c2,c3,cF,cT,oB],by simp⟩
theorem c2J{l:List Int}(hs:l.length<100000)(hw:l.all a0b=true):∃o:Nat,a6m l=some (o:Int)∧o≤4:=by
 obtain⟨b,h1,o,h2,h3⟩:=a7C (f:=a3j) (fun i s=>∃(o:Nat)(v:Int),s=(l,(o:Int),v,(i:Int),())∧o≤4) (fun b=>∃o:Nat,b=((o:Int),())∧o≤4) 5
  (fun i s hi h=>by
   obtain⟨o,v,rfl,ho⟩:=h;have d0:decide ((i:Int)≤4)=true:=decide_eq_true (by omega);obtain⟨r,e,g1,g2⟩:=c2I (o:=i) (by omega) hs hw;obtain⟨y,g3⟩:=d0d (l:=r) (o:=i) (by omega) (by omega);cases hc:(e != 0)with
   |true=>exact⟨_,by simp only[a3j,d0,cT,g1,oB,hc,a0f (show i<1000000 by omega)]<;>rfl,o,v,rfl,ho⟩
   |false=>
    cases h4:decide (v<0)with
    |true=>exact⟨_,by simp only[a3j,d0,cT,cF,g1,oB,hc,g3,h4,a0f (show i<1000000 by omega)]<;>rfl,i,y,rfl,by omega⟩
    |false=>
     cases h5:decide (y<v)with
     |true=>exact⟨_,by simp only[a3j,d0,cT,cF,g1,oB,hc,g3,h4,h5,a0f (show i<1000000 by omega)]<;>rfl,i,y,rfl,by omega⟩
     |false=>exact⟨_,by simp only[a3j,d0,cT,cF,g1,oB,hc,g3,h4,h5,a0f (show i<1000000 by omega)]<;>rfl,o,v,rfl,ho⟩)
  (fun s h=>by
   obtain⟨o,v,rfl,ho⟩:=h;have d0:decide (((5:Nat):Int)≤4)=false:=by decide
   exact⟨_,by simp only[a3j,d0,cF]<;>rfl,o,rfl,ho⟩) 5 0 (l,(0:Int),(-1:Int),(0:Int),()) (by omega) ⟨0,-1,rfl,by omega⟩
 subst h2;refine⟨o,?_,h3⟩;unfold a6m;simp only[h1,oB]
end Go.Ab
namespace Go.Ab
open IntKind(wrap)
def a7O(g:List Int→Int):List Int→List Int→List Int
 | [],_=>[]
 |x::r,done=>W (x-g done)::a7O g r (done++[x])
theorem b4v(g:List Int→Int):∀r done,(a7O g r done).length=r.length
 | [],_=>rfl
 |x::r,done=>by simp[a7O,b4v g r]
theorem d1z{x g:Int}(h:a0b x=true):W (W (x-g)+g)=x:=by
 have:=b9f h
 simp only[W,a8h,a87]at *;rw[show x-g+g=x from by omega];exact this
theorem b7k(g:List Int→Int):∀(r done:List Int),r.all a0b=true→a4s g (a7O g r done) done=some (done++r)
 | [],done,_=>by simp[a7O,a4s]
 |x::r,done,h=>by
  rw[a09,bA]at h;simp only[a7O,a4s,d1z h.1,h.1,cT,b7k g r (done++[x]) h.2,aA,a39]
def b2c(g:List Int→Int)(r done:List Int):Option (List Int):=bif (a7O g r done).all a0b then some (a7O g r done)else none
def b5g{β:Type}(g:List Int→Int)(bad:β)(a:List Int×List Int)(x:Int):(List Int×List Int) ⊕ β:=
 bif a0b (W (x-g a.1))then .inl (a.1++[x],a.2++[W (x-g a.1)])else .inr bad
theorem b7l{β:Type}(g:List Int→Int)(bad:β)(fin:List Int×List Int→β):∀(r done acc:List Int),
  a9K fin (a3k (b5g g bad) r (done,acc))=match b2c g r done with|some e=>fin (done++r,acc++e)|none=>bad
 | [],done,acc=>by simp[a3k,a9K,b2c,a7O]
 |x::r,done,acc=>by
  simp only[a3k,b5g];cases h:a0b (W (x-g done))with
  |true=>
   simp only[cT];rw[b7l g bad fin r];simp only[b2c,a7O,a09,h,a18];cases (a7O g r (done++[x])).all a0b<;>simp
  |false=>simp[a9K,b2c,a7O,h]
theorem c2K{g:List Int→Int}{r done e:List Int}(h:b2c g r done=some e):e=a7O g r done∧e.all a0b=true:=by
 unfold b2c at h;cases hc:(a7O g r done).all a0b with
 |true=>simp only[hc,cT,sj]at h;subst h;exact⟨rfl,hc⟩
 |false=>simp[hc]at h
theorem c4C{l:List Int}{i:Nat}(h:i<l.length):l.take i++[l[i]]=l.take (i+1):=by rw[List.take_append_getElem h]
theorem b1s{l:List Int}{p:Int→Bool}(h:l.all p=true)(i:Nat):(l.take i).all p=true:=by
 rw[lA]at h⊢;exact fun x hx=>h x (a27 hx)
theorem c6Q{l:List Int}{p:Int→Bool}(h:l.all p=true)(i:Nat):(l.drop i).all p=true:=by
 rw[lA]at h⊢;exact fun x hx=>h x (a28 hx)
theorem c4D{σ β:Type}{f:σ→Option (σ ⊕ β)}(l:List Int)(k:Nat)(hk:k≤l.length)(S:Nat→List Int→σ)(g:List Int×List Int→Int→(List Int×List Int) ⊕ β)(fin:List Int→β)
  (hstep:∀i (h:i<l.length) acc,k≤i→acc.length=i-k→(∀a',g (l.take i,acc) l[i]=.inl a'→f (S i acc)=some (.inl (S (i+1) a'.2))∧a'.1=l.take (i+1)∧a'.2.length=i+1-k)∧(∀b,g (l.take i,acc) l[i]=.inr b→f (S i acc)=some (.inr b)))
  (hexit:∀acc,acc.length=l.length-k→f (S l.length acc)=some (.inr (fin acc))):a0h f (S k [])=some (a9K (fun a=>fin a.2) (a3k g (l.drop k) (l.take k,[]))):=by
 have h:=a3t (f:=f) (l.drop k) (fun i a=>S (k+i) a.2) g (fun i a=>a.1=l.take (k+i)∧a.2.length=i) (fun a=>fin a.2)
  (fun i hi a ha=>by
   obtain⟨a1,acc⟩:=a;obtain⟨h1,h2⟩:=ha;simp only at h1 h2;subst h1;rw[a04]at hi;have hlt:k+i<l.length:=by omega
   have e:(l.drop k)[i]'(by rw[a04];exact hi)=l[k+i]:=by rw[List.getElem_drop]
   rw[e];obtain⟨g1,g2⟩:=hstep (k+i) hlt acc (by omega) (by omega);refine⟨fun a' ha'=>?_,g2⟩;obtain⟨q1,q2,q3⟩:=g1 a' ha';exact⟨q1,q2,by omega⟩)
  (fun a ha=>by
   rw[a04]at ha⊢;rw[show k+(l.length-k)=l.length from by omega];exact hexit a.2 ha.2) (a:=(l.take k,[])) ⟨by simp,rfl⟩
 exact h
def b5h(l c:List Int)(s:Int):Option (List Int):=bif l.all a0b then b2c (b1p c s) (l.drop c.length) (l.take c.length)else none
theorem b6A{l c:List Int}{s:Int}(hl:b2S c s=true)(hc:c.length≤l.length)(hr:l.length<100000):
  a7j (l,c,s)=some (a2Q (b5h l c s)):=by
 have hs:short l:=by unfold short;omega
 have hcs:short c:=by unfold short;omega
 have h0:0≤s:=by simp only[b2S,bA,dT]at hl;omega
 have e1:decide (((l.length:Nat):Int)<((c.length:Nat):Int))=false:=by simp;omega
 unfold a7j b5h;simp only[a9x hcs,hl,oB,bT,cF,e1,a5Z hs];cases hw:l.all a0b with
 |false=>rfl
 |true=>
  have e2:wrap .i64 (((l.length:Nat):Int)-((c.length:Nat):Int))=((l.length-c.length:Nat):Int):=by rw[a0n (by omega)];omega
  have e3:decide ((0:Int)≤((l.length-c.length:Nat):Int))=true:=by simp
  have e4:lim (l.length-c.length)=true:=a0D (by omega);simp only[bT,cF,cT,e2,e3,tN,e4,a02]
  have:=c4D (f:=a4R) l c.length hc (fun i acc=>(l,c,s,(i:Int),acc,())) (b5g (b1p c s) (.inr ((6:Int),([]:List Int),()))) (fun acc=>.inl (acc,()))
   (fun i hi acc hki hacc=>by
    have ht:short (l.take i):=by unfold short;rw[a01];omega
    have h1:decide ((0:Int)≤(i:Int))=true:=by simp
    have h2:decide ((i:Int)≤((l.length:Nat):Int))=true:=by simp;omega
    have h3:lim (acc.length+1)=true:=a0D (by omega);constructor
    ·intro a' ha';unfold b5g at ha';cases hq:a0b (W (l[i]-b1p c s (l.take i)))with
     |false=>simp[hq]at ha'
     |true=>
      simp only[hq,cT,Sum.inl.injEq]at ha';subst ha';refine⟨?_,c4C hi,by simp;omega⟩;simp only[a4R,dlt hi,cT,a0c hi,oB,h1,h2,a02,tN,b7c ht hcs h0,a6q,hq,bT,cF,h3,a0f (a47 hi hs),a32]
    ·intro b hb;unfold b5g at hb;cases hq:a0b (W (l[i]-b1p c s (l.take i)))with
     |true=>simp[hq]at hb
     |false=>
      simp only[hq,cF,Sum.inr.injEq]at hb;subst hb;simp only[a4R,dlt hi,cT,a0c hi,oB,h1,h2,a02,tN,b7c ht hcs h0,a6q,hq,a06])
   (fun acc hacc=>by simp[a4R])
  rw[this,b7l];cases b2c (b1p c s) (l.drop c.length) (l.take c.length)<;>rfl
theorem b7m{l c r:List Int}{s:Int}(h:b5h l c s=some r):b4m (l.take c.length) r c s=some l∧r.all a0b=true∧r.length=l.length-c.length:=by
 unfold b5h at h;cases hw:l.all a0b with
 |false=>simp[hw]at h
 |true=>
  simp only[hw,cT]at h;obtain⟨e,hr⟩:=c2K h;refine⟨?_,hr,by rw[e,b4v,a04]⟩;simp only[b4m,b1s hw,hr,a02,cT];rw[e,b7k _ _ _ (c6Q hw _),List.take_append_drop]
def b6B(l:List Int)(lag:Int)(t:List Int):Option (List Int):=bif l.all a0b then b2c (a9y lag t) l []else none
theorem c6R{l t:List Int}{lag:Int}(hl:b4W lag t=true)(ht:t.length=3)(hr:l.length<100000):
  a7z (l,lag,t)=some (a2Q (b6B l lag t)):=by
 have hs:short l:=by unfold short;omega
 obtain⟨h1,h2⟩:2≤lag∧lag≤1024:=by simp only[b4W,bA,dT]at hl;omega
 unfold a7z b6B;simp only[b5L ht,hl,oB,bT,cF,b4V hs];cases hw:l.all a0b with
 |false=>rfl
 |true=>
  have e3:decide ((0:Int)≤((l.length:Nat):Int))=true:=by simp
  have e4:lim l.length=true:=a0D (by omega);simp only[bT,cF,cT,e3,tN,e4,a02]
  have:=c4D (f:=a6k) l 0 (Nat.zero_le _) (fun i acc=>(l,lag,l,(l.length:Int),(i:Int),acc,t,())) (b5g (a9y lag t) (.inr ((6:Int),([]:List Int),()))) (fun acc=>.inl (acc,()))
   (fun i hi acc hki hacc=>by
    have h3:lim (acc.length+1)=true:=a0D (by omega);have hp:=b4Y (lag:=lag) (t:=t) (a85 hi) hs ht h1 h2;constructor
    ·intro a' ha';unfold b5g at ha';cases hq:a0b (W (l[i]-a9y lag t (l.take i)))with
     |false=>simp[hq]at ha'
     |true=>
      simp only[hq,cT,Sum.inl.injEq]at ha';subst ha';refine⟨?_,c4C hi,by simp;omega⟩;simp only[a6k,dlt hi,cT,a0c hi,oB,hp,a8g,hq,bT,cF,h3,a0f (a47 hi hs),a32]
    ·intro b hb;unfold b5g at hb;cases hq:a0b (W (l[i]-a9y lag t (l.take i)))with
     |true=>simp[hq]at hb
     |false=>
      simp only[hq,cF,Sum.inr.injEq]at hb;subst hb;simp only[a6k,dlt hi,cT,a0c hi,oB,hp,a8g,hq,a06])
   (fun acc hacc=>by simp[a6k])
  simp only[nZ]at this;rw[this,b7l,a07,a97];cases b2c (a9y lag t) l []<;>rfl
theorem b9n{l t r:List Int}{lag:Int}(h:b6B l lag t=some r):b3p r lag t=some l∧r.all a0b=true∧r.length=l.length:=by
 unfold b6B at h;cases hw:l.all a0b with
 |false=>simp[hw]at h
 |true=>
  simp only[hw,cT]at h;obtain⟨e,hr⟩:=c2K h;refine⟨?_,hr,by rw[e,b4v]⟩;simp only[b3p,hr,cT];rw[e,b7k _ _ _ hw,a20]
end Go.Ab
namespace Go.Ab
def rsG:List Int→Fil→List Int
 | [],_=>[]
 |x::r,f=>W (x-a1h f)::rsG r (b3q f x)
theorem b7n:∀r f,(rsG r f).length=r.length
 | [],_=>rfl
 |x::r,f=>by simp[rsG,b7n r]
def rsO:List Int→List Int→Fil→Option (List Int)
 | [],done,_=>some done
 |x::r,done,f=>bif a0b (W (x-a1h f))then rsO r (done++[W (x-a1h f)]) (b3q f x)else none
theorem d1A:∀(r done:List Int)(f:Fil),rsO r done f=bif (rsG r f).all a0b then some (done++rsG r f)else none
 | [],done,f=>by simp[rsO,rsG]
 |x::r,done,f=>by
  simp only[rsO,rsG,a09];cases a0b (W (x-a1h f))with
  |false=>rfl
  |true=>simp only[cT,a18,d1A r,aA,a39]
theorem c8u:∀(r z:List Int)(f:Fil),r.all a0b=true→stO (rsG r f) z f=some (z++r)
 | [],z,f,_=>by simp[rsG,stO]
 |x::r,z,f,h=>by
  rw[a09,bA]at h;have e:W (a1h f+W (x-a1h f))=x:=by rw[Int.add_comm];exact d1z h.1
  simp only[rsG,stO,e,h.1,cT,c8u r _ _ h.2,aA,a39]
theorem b5i{row:List Int}{a:List Stg}{b c:Int}(hs:short row):∀(k i:Nat)(done:List Int)(f:Fil),i+k=row.length→done.length=i→FilOk f→
  a0h a5C (a,b,c,(row.length:Int),(i:Int),done++row.drop i,f,())=some (match rsO (row.drop i) done f with
   |some r=>.inl (a,b,c,r,())
   |none=>.inr ((6:Int),([]:List Int),()))
 |0,i,done,f,h,hd,hf=>by
  obtain rfl:i=row.length:=by omega
  rw[a08,a25];exact a0q (b:=Sum.inl (a,b,c,done,())) (by simp[a5C])
 |k+1,i,done,f,h,hd,hf=>by
  have hi:i<row.length:=by omega
  have hs':row.length<1000000:=hs;have h0:decide ((0:Int)≤(i:Int))=true:=by simp
  have hl:(done++row.drop i).length=row.length:=by simp;omega
  have h1:decide ((i:Int)<(((done++row.drop i).length:Nat):Int))=true:=by rw[hl];simp;omega
  have hst:rsO (row.drop i) done f=bif a0b (W (row[i]-a1h f))then rsO (row.drop (i+1)) (done++[W (row[i]-a1h f)]) (b3q f row[i])else none:=by
   rw[a00 hi];rfl
  rw[hst];cases hw:a0b (W (row[i]-a1h f))with
  |true=>
   rw[a0x (s':=(a,b,c,(row.length:Int),((i+1:Nat):Int),(done++[W (row[i]-a1h f)])++row.drop (i+1),b3q f row[i],())) (by
    simp only[a5C,dlt hi,h0,h1,cT,a02,a6r hf,oB,tN,b4Z hd hi,a5n,hw,bT,cF,b7P hf,c6x hd hi,a0f (show i<1000000 by omega)])]
   exact b5i hs k (i+1) _ _ (by omega) (by simp;omega) (c6w hf _)
  |false=>
   exact a0q (by
    simp only[a5C,dlt hi,h0,h1,cT,a02,a6r hf,oB,tN,b4Z hd hi,a5n,hw,a06];rfl)
def lRO:List Stg→List Int→Option (List Int)
 | [],row=>some row
 |s::r,row=>match rsO row [] (b0G s)with
  |some row'=>lRO r row'
  |none=>none
theorem c6S{row d:List Int}{f:Fil}(h:rsO row [] f=some d):d=rsG row f∧d.all a0b=true:=by
 rw[d1A]at h;cases hc:(rsG row f).all a0b with
 |true=>simp only[hc,cT,a20,sj]at h;subst h;exact⟨rfl,hc⟩
 |false=>simp[hc]at h
theorem c4E:∀(a b:List Stg)(row:List Int),lO (a++b) row=match lO a row with|some r=>lO b r|none=>none
 | [],b,row=>rfl
 |s::a,b,row=>by
  simp only[a66,lO];split;exact c4E a b _;rfl
theorem c6T:∀(st:List Stg)(row d:List Int),row.all a0b=true→lRO st row=some d→lO st.reverse d=some row∧d.all a0b=true∧d.length=row.length
 | [],row,d,hw,h=>by
  simp only[lRO,sj]at h;subst h;exact⟨rfl,hw,rfl⟩
 |s::st,row,d,hw,h=>by
  simp only[lRO]at h
  split at h
  rename_i row' hr;obtain⟨e,hw'⟩:=c6S hr;obtain⟨h1,h2,h3⟩:=c6T st row' d hw' h;refine⟨?_,h2,by rw[h3,e,b7n]⟩;rw[List.reverse_cons,c4E,h1];simp only[lO];rw[e,c8u row [] _ hw,a20];cases h
theorem b2W{st:List Stg}(hst:∀s∈st,a7o s=true)(hl:st.length≤3):∀(j k:Nat)(row:List Int),k+j=st.length→short row→
  a0h a5D (st,(st.length:Int),(k:Int),row,())=some (match lRO (st.drop k) row with
   |some r=>.inl (r,())
   |none=>.inr ((6:Int),([]:List Int),()))
 |0,k,row,h,hs=>by
  obtain rfl:k=st.length:=by omega
  rw[a08];exact a0q (by simp[a5D,lRO])
 |j+1,k,row,h,hs=>by
  have hk:k<st.length:=by omega
  have hstage:=hst _ (a03 hk);have h1:=b5i (a:=st) (b:=(st.length:Int)) (c:=(k:Int)) hs row.length 0 [] (b0G st[k]) (by omega) rfl (c8r hstage);simp only[nZ,a07,a20]at h1;have hne:((0:Int) != 0)=false:=rfl;rw[a00 hk];simp only[lRO];cases hr:rsO row [] (b0G st[k])with
  |some r=>
   rw[hr]at h1;rw[a0x (s':=(st,(st.length:Int),((k+1:Nat):Int),r,())) (by simp only[a5D,dlt hk,cT,a0c hk,oB,b4o hstage,hne,cF,h1,a0f (show k<1000000 by omega)])];exact b2W hst hl j (k+1) r (by omega) (by have:=(c6S hr).1;unfold short at hs⊢;rw[this,b7n];exact hs)
  |none=>
   rw[hr]at h1;exact a0q (by simp only[a5D,dlt hk,cT,a0c hk,oB,b4o hstage,hne,cF,h1])
def b3x(l:List Int)(st:List Stg):Option (List Int):=bif l.all a0b then lRO st l else none
theorem c5d{l:List Int}{st:List Stg}(hl:b2z st=true)(hr:l.length<100000):b0C (l,st)=some (a2Q (b3x l st)):=by
 have hl':=hl;simp only[b2z,bA,dT]at hl';have hss:short st:=by unfold short;omega
 have hsr:short l:=by unfold short;omega
 unfold b0C b3x;simp only[b4l hss,hl,oB,bT,cF,b4k hsr];cases hw:l.all a0b with
 |false=>rfl
 |true=>
  have:=b2W (lA.1 hl'.2) hl'.1 st.length 0 l (by omega) hsr
  simp only[nZ,a07]at this;simp only[bT,cF,cT,a6P hsr,oB,this];cases lRO st l<;>rfl
theorem c2L{l r:List Int}{st:List Stg}(h:b3x l st=some r):b2A r st=some l∧r.all a0b=true∧r.length=l.length:=by
 unfold b3x at h;cases hw:l.all a0b with
 |false=>simp[hw]at h
 |true=>
  simp only[hw,cT]at h;obtain⟨h1,h2,h3⟩:=c6T st l r hw h;exact⟨by simp only[b2A,h2,cT,h1],h2,h3⟩
end Go.Ab
namespace Go.Ab
open IntKind(wrap)
theorem p64{w:Nat}(h:w≤64):((2^w:Nat):Int) ∣ 18446744073709551616:=a31.2 (a74 2 h)
theorem d5i(n:Int):∃q,wrap .i64 n=n+18446744073709551616*q:=by
 rw[a8h,Int.bmod];split;exact⟨-(n / 18446744073709551616),by omega⟩;exact⟨-(n / 18446744073709551616)-1,by omega⟩
theorem d2A{w:Nat}(h:w≤64)(n:Int):((2^w:Nat):Int) ∣ wrap .i64 n↔((2^w:Nat):Int) ∣ n:=by
 obtain⟨q,hq⟩:=d5i n;rw[hq];exact a67 (a48 (p64 h))
theorem c4F{w:Nat}(h:w≤64)(a:Int):2^w ∣ (a16 64 a).toNat↔((2^w:Nat):Int) ∣ a:=by
 have e:(((a16 64 a).toNat:Nat):Int)=a+18446744073709551616*-(a / 18446744073709551616):=by
  rw[a83]
  have:((2^64:Nat):Int)=18446744073709551616:=rfl
  rw[this];omega
 rw[←a31,e];exact a67 (a48 (p64 h))
theorem d0e(w x y:Nat):2^w ∣ (x ||| y)↔2^w ∣ x∧2^w ∣ y:=by
 rw[a49,a49,a49,Nat.or_mod_two_pow];exact Nat.or_eq_zero_iff
theorem d5j{w:Nat}(h:w≤64)(a b:Int):((2^w:Nat):Int) ∣ bits .i64 .or a b↔((2^w:Nat):Int) ∣ a∧((2^w:Nat):Int) ∣ b:=by
 show((2^w:Nat):Int) ∣ wrap .i64 ((((a16 64 a) ||| (a16 64 b)).toNat:Nat):Int)↔_;rw[d2A h,a31,BitVec.toNat_or,d0e,c4F h,c4F h]
def orI(l:List Int)(a:Int):Int:=l.foldl (fun a x=>bits .i64 .or a x) a
theorem b6C{w:Nat}(h:w≤64):∀(l:List Int)(a:Int),((2^w:Nat):Int) ∣ orI l a↔((2^w:Nat):Int) ∣ a∧∀x∈l,((2^w:Nat):Int) ∣ x
 | [],a=>by simp[orI]
 |x::l,a=>by
  show((2^w:Nat):Int) ∣ orI l (bits .i64 .or a x)↔_;rw[b6C h l,d5j h];simp only[mC,forall_eq_or_imp,and_assoc]
theorem c6U:∀(l:List Int),(∀x∈l,x=0)→orI l 0=0
 | [],_=>rfl
 |x::l,h=>by
  have hx:=h x (a61);subst hx;show orI l (bits .i64 .or 0 0)=0;rw[show bits .i64 .or 0 0=0 from by decide];exact c6U l fun y hy=>h y (a77 _ hy)
theorem d5k{l:List Int}(hw:l.all a0b=true)(h:∃x∈l,x≠0):orI l 0≠0:=by
 intro e;obtain⟨x,hx,hne⟩:=h;have hd:=((b6C (w:=62) (by omega) l 0).1 (by rw[e];exact a69 _)).2 x hx;have hwx:=a2z.1 (lA.1 hw x hx);have e62:((2^62:Nat):Int)=4611686018427387904:=rfl;rw[e62]at hd;omega
def a8N(l:List Int)(w:Nat):Prop:=
 ((∀x∈l,x=0)∧w=0)∨((∃x∈l,x≠0)∧w≤30∧(∀x∈l,((2^w:Nat):Int) ∣ x)∧(w=30∨∃x∈l,¬ ((2^(w+1):Nat):Int) ∣ x))
theorem d0f{v w:Nat}(h:v≤w){x:Int}(hx:((2^w:Nat):Int) ∣ x):((2^v:Nat):Int) ∣ x:=
 Int.dvd_trans (a31.2 (a74 2 h)) hx
theorem a8N.unique{l:List Int}{v w:Nat}(hv:a8N l v)(hw:a8N l w):v=w:=by
 have key:∀{v w:Nat},v≤30→w≤30→(∀x∈l,((2^w:Nat):Int) ∣ x)→(v=30∨∃x∈l,¬ ((2^(v+1):Nat):Int) ∣ x)→w≤v:=by
  intro v w h30 h30' h1 h2;rcases h2 with h2|⟨x,hx,h2⟩;omega;exact a91 fun hlt=>h2 (d0f (show v+1≤w by omega) (h1 x hx))
 rcases hv with⟨h0,hv⟩|⟨⟨x,hx,hne⟩,hv1,hv2,hv3⟩;rcases hw with⟨-,hw⟩|⟨⟨x,hx,hne⟩,-⟩;omega;exact absurd (h0 x hx) hne;rcases hw with⟨h0,-⟩|⟨-,hw1,hw2,hw3⟩;exact absurd (h0 x hx) hne;exact Nat.le_antisymm (key hw1 hv1 hv2 hw3) (key hv1 hw1 hw2 hv3)
theorem c6V:∀(n N:Nat),N≤n→0<N→∃k m,N=2^k*(2*m+1)
 |0,N,h,h0=>absurd h0 (by omega)
 |n+1,N,h,h0=>by
  by_cases he:N%2=0
  obtain⟨k,m,e⟩:=c6V n (N / 2) (by omega) (by omega);refine⟨k+1,m,?_⟩;rw[Nat.pow_succ,a84 (2^k) 2,Nat.mul_assoc,←e];omega;exact⟨0,N / 2,by omega⟩
theorem d4n{k m:Nat}(h:2^k*(2*m+1)<2^64):(2^k*(2*m+1)) &&& (2^64-2^k*(2*m+1))=2^k:=by
 have hp:1≤2^k:=a82;have hk:k<64:=by
  refine a92 fun hge=>?_
  have h1:2^64≤2^k:=a17 (by decide) hge;have h2:2^k*1≤2^k*(2*m+1):=Nat.mul_le_mul_left _ (by omega);omega
 have e:2^k*(2*m+1)=(2^k*(2*m)+(2^k-1))+1:=by rw[a89];omega
 have hx:2^k*(2*m)+(2^k-1)<2^64:=by omega
 refine Nat.eq_of_testBit_eq fun i=>?_
 have e2:(2^64-2^k*(2*m+1)).testBit i=(decide (i<64)&&!(2^k*(2*m)+(2^k-1)).testBit i):=by
  rw[e];exact Nat.testBit_two_pow_sub_succ hx i
 have e1:=a58 (2*m+1) (b:=0) (i:=k) (by omega) i;rw[a41]at e1;have e3:=a58 (2*m) (b:=2^k-1) (i:=k) (by omega) i;rw[Nat.testBit_and,e2,e1,e3,Nat.testBit_two_pow]
 by_cases h1:i<k
 have:¬ k=i:=by omega
 simp[h1,this]
 by_cases h2:k=i
 subst h2;simp[hk,Nat.testBit_zero];obtain⟨j,rfl⟩:∃j,i=k+(j+1):=⟨i-k-1,by omega⟩;have s1:k+(j+1)-k=j+1:=by omega
 have s2:(2*m+1) / 2=m:=by omega
 have s3:2*m / 2=m:=by omega
 simp only[h1,h2,if_false,s1,Nat.testBit_succ,s2,s3,decide_false];cases m.testBit j<;>simp
theorem d2B:∀k:Nat,k<64→b1F[(2^k*285870213051353865)%18446744073709551616 / 288230376151711744]?=some (k:Int):=by
 have h:∀k:Fin 64,b1F[(2^k.val*285870213051353865)%18446744073709551616 / 288230376151711744]?=some (k.val:Int):=by decide
 exact fun k hk=>h ⟨k,hk⟩
theorem c7T{k m:Nat}:¬ 2^(k+1) ∣ 2^k*(2*m+1):=by
 rintro⟨c,hc⟩
 rw[Nat.pow_succ,Nat.mul_assoc]at hc
 have:=Nat.eq_of_mul_eq_mul_left (a30 k) hc
 omega
theorem d2C{N:Nat}(h0:0<N)(h:N<18446744073709551616):∃k:Nat,a1P (N:Int)=some (k:Int)∧2^k ∣ N∧¬ 2^(k+1) ∣ N:=by
 obtain⟨k,m,e⟩:=c6V N N (a34 _) h0;have h2:2^k≤N:=by rw[e];exact Nat.le_mul_of_pos_right _ (by omega)
 have hk:k<64:=by
  refine a92 fun hge=>?_
  have h1:2^64≤2^k:=a17 (by decide) hge;omega
 refine⟨k,?_,⟨_,e⟩,e▸c7T⟩;have hb:bits .u64 .and (N:Int) (wrap .u64 (0-(N:Int)))=((2^k:Nat):Int):=by
  have e1:wrap .u64 (0-(N:Int))=((18446744073709551616-N:Nat):Int):=by
   have:wrap .u64 (0-(N:Int))=(0-(N:Int))%18446744073709551616:=by simp[wrap,IntKind.bits,IntKind.signed]
   rw[this];omega
  rw[e1];show wrap .u64 (((a16 64 (N:Int)) &&& (a16 64 ((18446744073709551616-N:Nat):Int))).toNat:Int)=_;rw[a42,a42,a65,a46,a46,a52 h,a52 (by omega)]
  have:=d4n (k:=k) (m:=m) (by rw[←e];exact h)
  rw[←e]at this;rw[show(18446744073709551616:Nat)=2^64 from rfl,this];exact a5m (by omega)
 have hx:((N:Int)==0)=false:=by simp only[beq_eq_false_iff_ne,ne_eq];omega
 unfold a1P;rw[hb,hx,cF];have e2:wrap .u64 (((2^k:Nat):Int)*285870213051353865)=(((2^k*285870213051353865)%18446744073709551616:Nat):Int):=by
  have:wrap .u64 (((2^k:Nat):Int)*285870213051353865)=(((2^k:Nat):Int)*285870213051353865)%18446744073709551616:=by simp[wrap,IntKind.bits,IntKind.signed]
  rw[this];omega
 have hg:=d2B k hk;generalize (2^k*285870213051353865)%18446744073709551616=M at e2 hg;have e3:=b2C (N:=M) (o:=58) (by omega);rw[e2,show(58:Int)=((58:Nat):Int)from rfl,e3,show 2^58=288230376151711744 from rfl];generalize M / 288230376151711744=J at hg;obtain⟨hi,hv⟩:=lS.1 hg;rw[a0c hi,hv];simp only[oB,a0n (show -9223372036854775808≤(k:Int)∧(k:Int)≤9223372036854775807 by omega)]
theorem d2D{n:Nat}(hn:n≤62)(c:Int):a0A .i64 (((2^n:Nat):Int)*c) (n:Int)=c:=by
 have hp:0<2^n:=a30 n;have e:min (a24 (n:Int)) (IntKind.bits .i64)=n:=by simp only[tN,IntKind.bits];omega
 have ep:((2^n:Nat):Int)=2^n:=by simp
 unfold a0A;rw[e,ep];exact a64 _ (by omega)
theorem c8v{l:List Int}(hs:short l):∀(k i:Nat)(a:Int),i+k=l.length→a0h a5A (a,l,(l.length:Int),(i:Int),())=some (orI (l.drop i) a,())
 |0,i,a,h=>by
  obtain rfl:i=l.length:=by omega
  rw[a08];exact a0q (by simp[a5A,orI])
 |k+1,i,a,h=>by
  have hi:i<l.length:=by omega
  have hs':l.length<1000000:=hs;rw[a00 hi,a0x (s':=(bits .i64 .or a l[i],l,(l.length:Int),((i+1:Nat):Int),())) (by
   simp only[a5A,dlt hi,cT,a0c hi,oB,a0f (show i<1000000 by omega)])]
  exact c8v hs k (i+1) _ (by omega)
theorem c7U{l:List Int}{r:Nat}(hr:r≤30)(h:r=30∨¬ ((2^(r+1):Nat):Int) ∣ orI l 0):r=30∨∃x∈l,¬ ((2^(r+1):Nat):Int) ∣ x:=by
 rcases h with h|h;exact .inl h;refine .inr (Classical.byContradiction fun hc=>h ((b6C (by omega) l 0).2 ⟨a69 _,fun x hx=>Classical.byContradiction fun hn=>hc ⟨x,hx,hn⟩⟩))
theorem c1m{l:List Int}(hs:short l)(hw:l.all a0b=true):∃w:Nat,a3Z l=some (w:Int)∧w≤30∧a8N l w:=by
 have h1:=c8v hs l.length 0 0 (by omega);simp only[nZ,a07]at h1;unfold a3Z;simp only[h1,oB]
 by_cases hz:∀x∈l,x=0
 have e:=c6U l hz;exact⟨0,by rw[e];rfl,by omega,.inl ⟨hz,rfl⟩⟩;have hx:∃x∈l,x≠0:=Classical.byContradiction fun hc=>hz fun x hx=>Classical.byContradiction fun hn=>hc ⟨x,hx,hn⟩;have hne:=d5k hw hx;have he:(orI l 0==0)=false:=by simpa using hne
 obtain⟨q,hq⟩:∃q,wrap .u64 (orI l 0)=orI l 0+18446744073709551616*q:=⟨-(orI l 0 / 18446744073709551616),by
  have:wrap .u64 (orI l 0)=orI l 0%18446744073709551616:=by simp[wrap,IntKind.bits,IntKind.signed]
  rw[this];omega⟩
 obtain⟨r1,r2⟩:=c0J (orI l 0);obtain⟨N,hN⟩:=a05 r1;have hdN:∀v,v≤64→(2^v ∣ N↔((2^v:Nat):Int) ∣ orI l 0):=fun v hv=>by
  rw[←a31,←hN,hq];exact a67 (a48 (p64 hv))
 have hN0:0<N:=by
  refine Nat.pos_of_ne_zero fun e0=>?_
  obtain⟨x,hxl,hx0⟩:=hx;have hd:=((b6C (w:=62) (by omega) l 0).1 ((hdN 62 (by omega)).1 (by rw[e0];exact Nat.dvd_zero _))).2 x hxl;have hwx:=a2z.1 (lA.1 hw x hxl);rw[show((2^62:Nat):Int)=4611686018427387904 from rfl]at hd;omega
 obtain⟨k,hk,hk1,hk2⟩:=d2C hN0 (by omega);have hk64:k≤63:=by
  refine a91 fun hgt=>?_
  have h1:2^64≤2^k:=a17 (by decide) (by omega)
  have:=Nat.le_of_dvd hN0 hk1
  omega
 simp only[he,cF,hN,hk,oB];have em:a3u (k:Int) 30=((min k 30:Nat):Int):=by rw[c8q];omega
 refine⟨min k 30,by rw[em],by omega,.inr ⟨hx,by omega,?_,?_⟩⟩;exact((b6C (by omega) l 0).1 ((hdN _ (by omega)).1 (Nat.dvd_trans (a74 2 (by omega)) hk1))).2;refine c7U (by omega) ?_
 by_cases hk30:30≤k
 exact .inl (by omega)
 have:min k 30=k:=by omega
 rw[this];exact .inr fun hh=>hk2 ((hdN _ (by omega)).2 hh)
theorem d4o{l:List Int}{w:Nat}(hw30:w≤30)(hw:l.all a0b=true)(h:a8N l w):b0L (w:Int) l=some (l.map fun x=>a0A .i64 x (w:Int)):=by
 have hd:∀x∈l,((2^w:Nat):Int) ∣ x:=by
  rcases h with⟨h,-⟩|⟨-,-,h,-⟩;exact fun x hx=>by rw[h x hx];exact a69 _
  exact h
 have:l.all (b1Z (w:Int))=true:=by
  rw[lA];intro x hx;obtain⟨c,hc⟩:=hd x hx;have hm:a81 x (a0z .i64 1 (w:Int))=0:=by rw[c6J hw30,hc];exact Int.mul_tmod_right _ _
  simp only[b1Z,lA.1 hw x hx,hm,a18];rfl
 simp only[b0L,this,cT]
end Go.Ab
namespace Go.Ab
open IntKind(wrap)
def b9o(k:Nat)(l:List Int):Nat:=(l.map (a5c k)).sum
def rbN(l:List Int):Nat→Nat
 |0=>0
 |i+1=>if b9o (i+1) l<b9o (rbN l i) l then i+1 else rbN l i
theorem c6W(l:List Int):∀i,rbN l i≤i
 |0=>a34 _
 |i+1=>by
  have:=c6W l i
  simp only[rbN]
  split<;>omega
theorem b7o{k:Nat}(hk:k≤25){l:List Int}(hw:l.all a0b=true)(hl:l.length<10000):a3N ((k:Int),l)=some ((b9o k l:Nat):Int):=c0K hk hw hl
theorem d2E{a b:Nat}(h:a<b):decide ((a:Int)<(b:Int))=true:=decide_eq_true (by omega)
theorem d0g{a b:Nat}(h:¬ a<b):decide ((a:Int)<(b:Int))=false:=decide_eq_false (by omega)
theorem b9p{l:List Int}(hw:l.all a0b=true)(hl:l.length<10000):b1R l=some ((rbN l 25:Nat):Int):=by
 have:=a3R (f:=a6l) (fun i:Nat=>(l,((rbN l i:Nat):Int),((b9o (rbN l i) l:Nat):Int),((i+1:Nat):Int),())) 25 (b:=(((rbN l 25:Nat):Int),()))
  (fun i hi=>by
   have d0:decide (((i+1:Nat):Int)≤25)=true:=decide_eq_true (by omega);have w1:wrap .i64 (((i+1:Nat):Int)+1)=((i+1+1:Nat):Int):=a0f (by omega);have hs:=b7o (k:=i+1) (by omega) hw hl
   by_cases hlt:b9o (i+1) l<b9o (rbN l i) l
   simp only[a6l,d0,cT,hs,oB,w1,d2E hlt,rbN,hlt,if_true];simp only[a6l,d0,cT,cF,hs,oB,w1,d0g hlt,rbN,hlt,if_false])
  (by
   have d0:decide (((25+1:Nat):Int)≤25)=false:=decide_eq_false (by omega);simp only[a6l,d0,cF])
 have h0:=b7o (k:=0) (by omega) hw hl;have e1:((0+1:Nat):Int)=1:=rfl;have e0:rbN l 0=0:=rfl;simp only[nZ]at h0;simp only[e0,nZ,e1]at this;unfold b1R;simp only[h0,oB,this]
def b3y(l:List Int):Int:=if 5+a0u l*l.length<b9o (rbN l 25) l then 31 else((rbN l 25:Nat):Int)
theorem d0h(l:List Int):kB (b3y l)=true:=by
 have:=c6W l 25
 unfold b3y;split;rfl;simp only[kB,a19,bA,dT];omega
theorem c2M{l:List Int}(hw:l.all a0b=true)(hl:l.length<10000):a8G l=some (b3y l):=by
 have h1:=c6W l 25;have hs:=b7o (k:=rbN l 25) h1 hw hl;unfold a8G b3y
 by_cases hlt:5+a0u l*l.length<b9o (rbN l 25) l
 simp only[b9p hw hl,b4s hl,hs,oB,d2E hlt,cT,hlt,if_true];simp only[b9p hw hl,b4s hl,hs,oB,d0g hlt,cF,hlt,if_false]
def a2V:List Nat→List Int→List Int
 | [],_=>[]
 |z::zs,l=>b3y (l.take z)::a2V zs (l.drop z)
theorem b6D:∀zs l,(a2V zs l).length=zs.length
 | [],_=>rfl
 |z::zs,l=>by simp[a2V,b6D zs]
theorem c2N:∀zs l,(a2V zs l).all kB=true
 | [],_=>rfl
 |z::zs,l=>by simp[a2V,c2N zs,d0h]
theorem b7Y{zn:List Nat}{n warm most least order:Int}{L:List Int}{a b:Prt}(hz:zn.length≤256):∀(j i:Nat)(rest ks:List Int),i+j=zn.length→(zn.drop i).sum=rest.length→rest.all a0b=true→rest.length≤5000→ks.length=i→
  a0h a7M (n,warm,most,L,least,order,rest,((zn.length:Nat):Int),(i:Int),a2f zn,a,b,(order,ks,()),())=some (n,warm,most,L,least,order,a,b,(order,ks++a2V (zn.drop i) rest,()),())
 |0,i,rest,ks,h,_,_,_,_=>by
  obtain rfl:i=zn.length:=by omega
  rw[a08];exact a0q (by simp only[a7M,dge,cF,a2V,a25])
 |j+1,i,rest,ks,h,hr,hwr,hr5,hki=>by
  have hlt:i<zn.length:=by omega
  rw[b7h hlt]at hr;have h0:decide ((0:Int)≤(i:Int))=true:=by simp
  have h1:decide ((i:Int)<(((a2f zn).length:Nat):Int))=true:=by rw[a1W];simp;omega
  have h2:decide ((0:Int)≤((zn[i]:Nat):Int))=true:=by simp
  have h3:decide (((zn[i]:Nat):Int)≤((rest.length:Nat):Int))=true:=by simp;omega
  have hk:=c2M (b1s hwr zn[i]) (by rw[a01];omega);have hlim:lim (ks.length+1)=true:=a0D (by omega);rw[a00 hlt,a0x (s':=(n,warm,most,L,least,order,rest.drop zn[i],((zn.length:Nat):Int),((i+1:Nat):Int),a2f zn,a,b,(order,ks++[b3y (rest.take zn[i])],()),())) (by
   simp only[a7M,dlt hlt,h0,h1,a8k hlt,h2,h3,cT,a02,tN,hk,oB,hlim,a21,a0f (show i<1000000 by omega),a32])]
  rw[b7Y hz j (i+1) _ _ (by omega) (by rw[a04];omega) (c6Q hwr _) (by rw[a04];omega) (by simp;omega)];simp only[a2V,aA,a39]
def zsN(o n warm:Int):List Nat:=(a1w o n warm).map a24
def b3r(o n warm:Int)(l:List Int):Prt:=(o,a2V (zsN o n warm) l,())
def c2O(o n warm:Int)(l:List Int):Nat:=4+a4o (zsN o n warm) (a2V (zsN o n warm) l) l
def a1G(n warm:Int)(l:List Int):Nat→Prt×Nat
 |0=>((0,[],()),0)
 |i+1=>if(a1w (i:Int) n warm).length=0 then a1G n warm l i else
   if(a1G n warm l i).2=0∨c2O (i:Int) n warm l<(a1G n warm l i).2 then(b3r (i:Int) n warm l,c2O (i:Int) n warm l)else a1G n warm l i
def b7p(n warm:Int)(l:List Int):Prt:=(a1G n warm l 7).1
theorem c8w{o:Nat}{n warm:Int}{l:List Int}(hs:(a1w (o:Int) n warm).length≠0)(hl:(l.length:Int)=n-warm)(hw:l.all a0b=true)(h5:l.length≤5000):
  ∃zn,a1w (o:Int) n warm=a2f zn∧zsN (o:Int) n warm=zn∧zn.length≤256∧zn.sum=l.length∧a6s (b3r (o:Int) n warm l) n warm=true∧PartsOk (b3r (o:Int) n warm l) n warm l zn:=by
 obtain⟨zn,g1,g2,g3⟩:=b5O hs;have ez:zsN (o:Int) n warm=zn:=by unfold zsN;rw[g1,b1Y]
 have hp:a6s (b3r (o:Int) n warm l) n warm=true:=by
  simp only[a6s,b3r,bA,a29,beq_eq_false_iff_ne,ne_eq,beq_iff_eq];exact⟨hs,by rw[g1,a1W,b6D,ez],c2N _ _⟩
 obtain⟨zn',hok⟩:=PartsOk.of hp hl hw h5
 have:zn'=zn:=by
  have h1:=hok.sizes;simp only[b3r]at h1;rw[g1]at h1;rw[←b1Y zn,h1,b1Y]
 subst this;exact⟨_,g1,ez,g3,by omega,hp,hok⟩
theorem b7q{n warm:Int}{l:List Int}(hr:a5P n warm=true)(hl:(l.length:Int)=n-warm)(hw:l.all a0b=true)(h5:l.length≤5000):∀i,1≤i→(a1G n warm l i).2≠0∧a6s (a1G n warm l i).1 n warm=true
 |0,h=>absurd h (by omega)
 |i+1,_=>by
  by_cases hs:(a1w (i:Int) n warm).length=0
  ·simp only[a1G,hs,if_true];cases i with
   |zero=>exact absurd hs (c9Z hr)
   |succ i=>exact b7q hr hl hw h5 (i+1) (by omega)
  ·obtain⟨zn,-,-,-,-,hp,-⟩:=c8w hs hl hw h5;simp only[a1G,hs,if_false];split;exact⟨by simp only[c2O];omega,hp⟩
   ·rename_i hne;cases i with
    |zero=>exact absurd (Or.inl rfl) hne
    |succ i=>exact b7q hr hl hw h5 (i+1) (by omega)
theorem d2F{n warm:Int}{l:List Int}(hr:a5P n warm=true)(hl:(l.length:Int)=n-warm)(hw:l.all a0b=true)(h5:l.length≤5000):a6s (b7p n warm l) n warm=true:=
 (b7q hr hl hw h5 7 (by omega)).2
theorem c5e{n warm:Int}{l:List Int}(hr:a5P n warm=true)(hl:(l.length:Int)=n-warm)(hw:l.all a0b=true)(h5:l.length≤5000):
  b0D (n,warm,(6:Int),l)=some (b7p n warm l,0):=by
 have:=a3R (f:=a3i) (fun i:Nat=>(n,warm,(6:Int),l,(((a1G n warm l i).2:Nat):Int),(i:Int),((0:Int),([]:List Int),()),(a1G n warm l i).1,())) 7 (b:=(((0:Int),([]:List Int),()),b7p n warm l,()))
  (fun i hi=>by
   have d0:decide ((i:Int)≤a3u (a2m 6 0) 8)=true:=decide_eq_true (by have:a3u (a2m 6 0) 8=6:=rfl;omega);have w1:wrap .i64 ((i:Int)+1)=((i+1:Nat):Int):=a0f (by omega)
   by_cases hs:(a1w (i:Int) n warm).length=0
   have hb:((((a1w (i:Int) n warm).length:Nat):Int)==0)=true:=by rw[hs];rfl
   have eb:a1G n warm l (i+1)=a1G n warm l i:=by simp only[a1G,hs,if_true]
   simp only[a3i,d0,cT,a2U,oB,hb,w1,eb];have hb:((((a1w (i:Int) n warm).length:Nat):Int)==0)=false:=by simp only[beq_eq_false_iff_ne,ne_eq];omega
   obtain⟨zn,g1,ez,g3,g4,-,hok⟩:=c8w hs hl hw h5;have g5:=b7Y (n:=n) (warm:=warm) (most:=6) (least:=(((a1G n warm l i).2:Nat):Int)) (order:=(i:Int)) (L:=l) (a:=((0:Int),([]:List Int),())) (b:=(a1G n warm l i).1) g3 zn.length 0 l [] (by omega) (by rw[a07];exact g4) hw h5 rfl;simp only[nZ,a07,a20]at g5;have hc:=c5a hok;simp only[b3r,ez]at hc;have hb':(((zn.length:Nat):Int)==0)=false:=by rw[←a1W zn,←g1];exact hb
   have el:(((a2f zn).length:Nat):Int)=((zn.length:Nat):Int):=by rw[a1W]
   have eP:b3r (i:Int) n warm l=((i:Int),a2V zn l,()):=by simp only[b3r,ez]
   have eC:c2O (i:Int) n warm l=4+a4o zn (a2V zn l) l:=by simp only[c2O,ez]
   by_cases hz:(a1G n warm l i).2=0
   have hz':((((a1G n warm l i).2:Nat):Int)==0)=true:=by rw[hz];rfl
   have eb:a1G n warm l (i+1)=(((i:Int),a2V zn l,()),4+a4o zn (a2V zn l) l):=by simp only[a1G,hs,if_false,hz,true_or,if_true,eP,eC]
   simp only[a3i,d0,cT,a2U,oB,g1,el,hb',cF,g5,hc,w1,eb,hz'];have hz':((((a1G n warm l i).2:Nat):Int)==0)=false:=by simp only[beq_eq_false_iff_ne,ne_eq];omega
   by_cases hlt:4+a4o zn (a2V zn l) l<(a1G n warm l i).2
   have eb:a1G n warm l (i+1)=(((i:Int),a2V zn l,()),4+a4o zn (a2V zn l) l):=by simp only[a1G,hs,if_false,hz,false_or,eP,eC,hlt,if_true]
   simp only[a3i,d0,cT,a2U,oB,g1,el,hb',cF,g5,hc,w1,eb,hz',d2E hlt];have eb:a1G n warm l (i+1)=a1G n warm l i:=by simp only[a1G,hs,if_false,hz,false_or,eP,eC,hlt]
   simp only[a3i,d0,cT,a2U,oB,g1,el,hb',cF,g5,hc,w1,eb,hz',d0g hlt])
  (by
   have d0:decide (((7:Nat):Int)≤a3u (a2m 6 0) 8)=false:=decide_eq_false (by have:a3u (a2m 6 0) 8=6:=rfl;omega);simp only[a3i,d0,cF,b7p])
 simp only[a1G,nZ]at this;unfold b0D;simp only[b1r hr hl hw h5,oB,bT,cF,this]
end Go.Ab
namespace Go.Ab
def a0M(k:Int)(s:Sub):Sub:=
 (k,(0:Int),(if k=2 then s.2.2.1 else 0),(if k=3∨k=4 then s.2.2.2.1 else 0),(if k=4 then s.2.2.2.2.1 else 0),(if k=3∨k=4 then s.2.2.2.2.2.1 else[]),
  ((if k=4 then s.2.2.2.2.2.2.1 else a23 3 (0:Int)),(if k=5 then s.2.2.2.2.2.2.2.1 else[]),([]:List Int),((0:Int),([]:List Int),()),([]:List Int),()))
def z0:Prt:=((0:Int),([]:List Int),())
def a2d(s:Sub)(w:Nat)(wm:List Int)(p:Prt)(r:List Int):Sub:=
 (s.1,(w:Int),s.2.2.1,s.2.2.2.1,s.2.2.2.2.1,s.2.2.2.2.2.1,s.2.2.2.2.2.2.1,s.2.2.2.2.2.2.2.1,wm,p,r,())
theorem d1B{s:Sub}(h:SmallS s)(k:Int):a6i (k,s)=some (a0M k s):=by
 have hc:short s.2.2.2.2.2.1:=by have:=h.coefs;unfold short;omega
 have hst:short s.2.2.2.2.2.2.2.1:=by have:=h.stages;unfold short;omega
 obtain⟨k',w,o,sh,lag,c,t,st,wm,p,r,u⟩:=s;simp only at hc hst;unfold a6i a0M
 by_cases k2:k=2
 subst k2;rfl
 by_cases k4:k=4
 subst k4;simp[b0H hc]
 by_cases k3:k=3
 subst k3;simp[b0H hc]
 by_cases k5:k=5
 subst k5;simp[c0F hst];have e2:(k==2)=false:=by simp[k2]
 have e3:(k==3)=false:=by simp[k3]
 have e4:(k==4)=false:=by simp[k4]
 have e5:(k==5)=false:=by simp[k5]
 simp[e2,e3,e4,e5,k2,k3,k4,k5]
theorem c6X{s:Sub}(h:SmallS s)(k:Int):SmallS (a0M k s):=by
 have h1:=h.coefs;have h2:=h.taps;have h3:=h.stages;refine⟨?_,?_,?_,by simp[a0M],by simp[a0M],by simp[a0M]⟩<;>simp only[a0M]<;>split<;>first|omega|simp
theorem d0i{s:Sub}{k n:Int}:a4V (a0M k s).1 (a0M k s) n↔a4V k s n:=by
 unfold a4V a0M;constructor
 rintro(h|h|⟨h,h1⟩|⟨h,h1⟩|⟨h,h1⟩|⟨h,h1⟩)
 exact .inl h;exact .inr (.inl h);simp only at h;subst h;simpa using h1;simp only at h;subst h;simpa using h1;simp only at h;subst h;simpa using h1;simp only at h;subst h;simpa using h1
 rintro(h|h|⟨h,h1⟩|⟨h,h1⟩|⟨h,h1⟩|⟨h,h1⟩)
 exact .inl h;exact .inr (.inl h);subst h;simpa using h1;subst h;simpa using h1;subst h;simpa using h1;subst h;simpa using h1
open Classical in
def a3v (l:List Int):Nat:=if h:∃w,a8N l w then h.choose else 0
theorem d4p{l:List Int}{w:Nat}(h:a8N l w):a3v l=w:=by
 unfold a3v;rw[dif_pos ⟨w,h⟩];exact(Classical.choose_spec (⟨w,h⟩:∃w,a8N l w)).unique h
def a1a(l:List Int):List Int:=l.map fun x=>a0A .i64 x (a3v l:Int)
theorem a9h{l:List Int}(hs:short l)(hw:l.all a0b=true):a3Z l=some ((a3v l:Nat):Int)∧a3v l≤30∧a8N l (a3v l):=by
 obtain⟨w,h1,h3,h4⟩:=c1m hs hw;rw[d4p h4];exact⟨h1,h3,h4⟩
theorem a6R{l:List Int}(hs:l.length≤4096)(hw:l.all a0b=true):b0L ((a3v l:Nat):Int) l=some (a1a l)∧(a1a l).all a0b=true∧(a1a l).length=l.length∧upO ((a3v l:Nat):Int) (a1a l)=some l:=by
 obtain⟨-,h3,h4⟩:=a9h (show short l by unfold short;omega) hw;have h:=d4o h3 hw h4;exact⟨h,d4m h3 h⟩
def a4t(k:Int)(s:Sub)(d:List Int):Option (List Int×List Int):=
 if k=2 then(bif (a2a s.2.2.1.toNat d).all a0b then some (d.take s.2.2.1.toNat,a2a s.2.2.1.toNat d)else none)
 else if k=3 then(b5h d s.2.2.2.2.2.1 s.2.2.2.1).map fun r=>(d.take s.2.2.2.2.2.1.length,r)
 else if k=4 then(b6B d s.2.2.2.2.1 s.2.2.2.2.2.2.1).bind fun x=>(b5h x s.2.2.2.2.2.1 s.2.2.2.1).map fun r=>(x.take s.2.2.2.2.2.1.length,r)
 else(b3x d s.2.2.2.2.2.2.2.1).map fun r=>([],r)
theorem c6Y{k:Int}{s:Sub}{d wm r:List Int}(hk:k=2∨k=3∨k=4∨k=5)(hf:a4V k s (d.length:Int))(hw:d.all a0b=true)(h:a4t k s d=some (wm,r)):
  wm.length≤d.length∧r.length=d.length-wm.length∧r.all a0b=true∧wm.all a0b=true:=by
 have hf':=hf;simp only[a4V]at hf';rcases hk with rfl|rfl|rfl|rfl
 ·have:0≤s.2.2.1∧s.2.2.1≤(d.length:Int):=by simp at hf';omega
  simp only[a4t,if_true]at h;cases hq:(a2a s.2.2.1.toNat d).all a0b with
  |false=>simp[hq]at h
  |true=>
   simp only[hq,cT,sj,pJ]at h;obtain⟨rfl,rfl⟩:=h;refine⟨by rw[a01];omega,by rw[a5Q,a01];omega,hq,b1s hw _⟩
 have:(s.2.2.2.2.2.1.length:Int)≤(d.length:Int):=by simp at hf';omega
 simp only[a4t,show ¬ (3:Int)=2 by decide,if_false,if_true,a26,pJ]at h;obtain⟨r',h1,rfl,rfl⟩:=h;obtain⟨-,h2,h3⟩:=b7m h1;exact⟨by rw[a01];omega,by rw[h3,a01];omega,h2,b1s hw _⟩
 have:(s.2.2.2.2.2.1.length:Int)≤(d.length:Int):=by simp at hf';omega
 simp only[a4t,show ¬ (4:Int)=2 by decide,show ¬ (4:Int)=3 by decide,if_false,if_true,a22,a26,pJ]at h;obtain⟨x,h0,r',h1,rfl,rfl⟩:=h;obtain⟨-,g2,g3⟩:=b9n h0;obtain⟨-,h2,h3⟩:=b7m h1;exact⟨by rw[a01];omega,by rw[h3,a01];omega,h2,b1s g2 _⟩;simp only[a4t,show ¬ (5:Int)=2 by decide,show ¬ (5:Int)=3 by decide,show ¬ (5:Int)=4 by decide,if_false,a26,pJ]at h;obtain⟨r',h1,rfl,rfl⟩:=h;obtain⟨-,h2,h3⟩:=c2L h1;exact⟨by simp,by simpa using h3,h2,rfl⟩
theorem d2G{k:Int}{s:Sub}{d:List Int}(hk:k=2∨k=3∨k=4∨k=5)(h:SmallS s)(hf:a4V k s (d.length:Int))(hd:d.length≤4096)(hw:d.all a0b=true)(w:Nat):
  b1Q (a2d (a0M k s) w [] z0 [],d)=some (match a4t k s d with|none=>(6,a2d (a0M k s) w [] z0 [])|some (wm,r)=>(0,a2d (a0M k s) w wm z0 r)):=by
 have ht:=h.taps;have hst:=h.stages;have hsd:short d:=by unfold short;omega
 obtain⟨k',w',o,sh,lag,c,t,st,wm',p,r',u⟩:=s;simp only[a4V]at hf ht hst;unfold b1Q;rcases hk with rfl|rfl|rfl|rfl
 ·obtain⟨h0,h4,hn⟩:0≤o∧o≤4∧o≤(d.length:Int):=by simp at hf;omega
  obtain⟨O,rfl⟩:=a05 h0;have hst:short (d.take O):=by unfold short;rw[a01];omega
  have e2:decide ((O:Int)≤((d.length:Nat):Int))=true:=by simp;omega
  simp only[a2d,a0M,a4t,if_true,show((2:Int)==2)=true from rfl,cT,b7W (show O≤4 by omega) (show O≤d.length by omega) hsd hw,oB,tN];cases (a2a O d).all a0b with
  |false=>rfl
  |true=>simp[b2B,a2L,show O≤d.length by omega,a6P hst]
 ·obtain⟨hl,hn⟩:b2S c sh=true∧(c.length:Int)≤(d.length:Int):=by simpa using hf
  have hst:short (d.take c.length):=by unfold short;rw[a01];omega
  have e1:decide ((0:Int)≤((c.length:Nat):Int))=true:=by simp
  have e2:decide (((c.length:Nat):Int)≤((d.length:Nat):Int))=true:=by simp;omega
  simp only[a2d,a0M,a4t,show((3:Int)==2)=false from rfl,show((3:Int)==3)=true from rfl,show ¬ (3:Int)=2 by decide,show ¬ (3:Int)=4 by decide,show ¬ (3:Int)=5 by decide,true_or,if_true,if_false,cT,cF,b6A hl (show c.length≤d.length by omega) (show d.length<100000 by omega),oB];cases b5h d c sh with
  |none=>rfl
  |some r=>simp[a2Q,b2B,a2L,show c.length≤d.length by omega,a6P hst]
 ·obtain⟨hl,hn,hlg⟩:b2S c sh=true∧(c.length:Int)≤(d.length:Int)∧b4W lag t=true:=by simpa using hf
  simp only[a2d,a0M,a4t,show((4:Int)==2)=false from rfl,show((4:Int)==3)=false from rfl,show((4:Int)==4)=true from rfl,show ¬ (4:Int)=2 by decide,show ¬ (4:Int)=3 by decide,show ¬ (4:Int)=5 by decide,or_true,if_true,if_false,cT,cF,c6R hlg ht (show d.length<100000 by omega),oB];cases hx:b6B d lag t with
  |none=>rfl
  |some x=>
   obtain⟨-,g2,g3⟩:=b9n hx;have hst:short (x.take c.length):=by unfold short;rw[a01];omega
   have e1:decide ((0:Int)≤((c.length:Nat):Int))=true:=by simp
   have e2:decide (((c.length:Nat):Int)≤((x.length:Nat):Int))=true:=by simp;omega
   simp only[a2Q,show((0:Int)==0)=true from rfl,cT,b6A hl (show c.length≤x.length by omega) (show x.length<100000 by omega),oB];cases b5h x c sh with
   |none=>rfl
   |some r=>simp[a2Q,b2B,a2L,show c.length≤x.length by omega,a6P hst]
 ·obtain⟨hn,hlr⟩:0<st.length∧b2z st=true:=by simpa using hf
  have hst:short (d.take 0):=by simp[short]
  simp only[a2d,a0M,a4t,show((5:Int)==2)=false from rfl,show((5:Int)==3)=false from rfl,show((5:Int)==4)=false from rfl,show((5:Int)==5)=true from rfl,show ¬ (5:Int)=2 by decide,show ¬ (5:Int)=3 by decide,show ¬ (5:Int)=4 by decide,or_self,if_true,if_false,cT,cF,c5d hlr (show d.length<100000 by omega),oB];cases b3x d st with
  |none=>rfl
  |some r=>
   have e1:decide ((0:Int)≤((d.length:Nat):Int))=true:=by simp
   have hc:=a6P hst;simp only[a97]at hc;simp[a2Q,b2B,a2L,e1,hc]
end Go.Ab
namespace Go.Ab
open Classical in

def a1s (k:Int) (l:List Int) (s:Sub):Sub×Int:=
 if ¬ (1≤l.length∧l.length≤4096∧a4V k s (l.length:Int))then(a2g 0,1)
 else if l.all a0b=false then(a2g 0,6)
 else if k=0 then(bif l.all (fun x=>x==l.headD 0)then(a2d (a0M 0 s) 0 [l.headD 0] z0 [],0)else(a2g 0,7))
 else if k=1 then(a2d (a0M 1 s) (a3v l) (a1a l) z0 [],0)
 else match a4t k s (a1a l)with
  |none=>(a2g 0,6)
  |some (wm,r)=>(a2d (a0M k s) (a3v l) wm (b7p (l.length:Int) (wm.length:Int) r) r,0)
theorem d0j{l:List Int}(h:1≤l.length):a0m l 0=some (l.headD 0):=by
 cases l with
 |nil=>simp at h
 |cons a l=>rfl
theorem c6Z{l:List Int}(h1:1≤l.length)(hs:short l)(a b:Sub):
  a0h a5l (l,l,(l.length:Int),(0:Int),a,b,())=some (bif l.all (fun x=>x==l.headD 0)then .inl (l,a,b,())else .inr ((7:Int),a2g 0,())):=by
 have:=a1E (f:=a5l) l (fun i=>(l,l,(l.length:Int),(i:Int),a,b,())) (fun x=>x==l.headD 0) (bt:=Sum.inl (l,a,b,())) (bf:=Sum.inr ((7:Int),a2g 0,()))
  (fun i h hp=>by
   have hne:(l[i] != l.headD 0)=false:=by simpa using hp
   simp only[a5l,dlt h,cT,a0c h,oB,d0j h1,hne,cF,a0f (a47 h hs)])
  (fun i h hp=>by
   have hne:(l[i] != l.headD 0)=true:=by simpa using hp
   simp only[a5l,dlt h,cT,a0c h,oB,d0j h1,hne];rfl)
  (by simp[a5l])
 simpa using this
theorem c0L{k n:Int}{s:Sub}(h:a4V k s n)(h0:k≠0)(h1:k≠1):k=2∨k=3∨k=4∨k=5:=by
 rcases h with h|h|⟨h,-⟩|⟨h,-⟩|⟨h,-⟩|⟨h,-⟩;exact absurd h h0;exact absurd h h1;exact .inl h;exact .inr (.inl h);exact .inr (.inr (.inl h));exact .inr (.inr (.inr h))
theorem d4q{s:Sub}(h:SmallS s)(k:Int){l:List Int}(hl:l.length≤100000):b3j (k,l,s)=some (a1s k l s):=by
 have hs:short l:=by unfold short;omega
 unfold b3j a1s
 by_cases h1:1≤l.length
 rotate_left;have e:decide (((l.length:Nat):Int)<1)=true:=decide_eq_true (by omega);rw[if_pos (fun hc=>h1 hc.1)];simp only[e,cT,oB];rfl;have e1:decide (((l.length:Nat):Int)<1)=false:=decide_eq_false (by omega)
 by_cases h2:l.length≤4096
 rotate_left;have e:decide (((l.length:Nat):Int) > 4096)=true:=decide_eq_true (by omega);rw[if_pos (fun hc=>h2 hc.2.1)];simp only[e1,e,cT,cF,oB];rfl;have e2:decide (((l.length:Nat):Int) > 4096)=false:=decide_eq_false (by omega)
 by_cases h3:a4V k s (l.length:Int)
 rotate_left;have e3:b5N k s (l.length:Int)=false:=by simp[b5N,h3]
 rw[if_pos (fun hc=>h3 hc.2.2)];simp only[e1,e2,b9i h,e3,cF,a06,cT,oB];rfl;have e3:b5N k s (l.length:Int)=true:=by simp[b5N,h3]
 rw[if_neg (fun hc=>hc ⟨h1,h2,h3⟩)];simp only[e1,e2,b9i h,e3,cF,bT,oB,a4I hs];cases hw:l.all a0b with
 |false=>rfl
 |true=>
  simp only[bT,cF,d1B h,oB];rw[if_neg (by decide)]
  by_cases h0:k=0
  ·subst h0;have hf:=c6Z h1 hs (a2g 0) (a0M 0 s);have ez:a2g 0=((0:Int),(0:Int),(0:Int),(0:Int),(0:Int),([]:(List Int)),a23 3 (0:Int),([]:(List (Int×Int×Unit))),([]:(List Int)),((0:Int),([]:(List Int)),()),([]:(List Int)),()):=rfl;rw[←ez,if_pos rfl];simp only[show((0:Int)==0)=true from rfl,cT,hf,oB];cases l.all (fun x=>x==l.headD 0)with
   |false=>rfl
   |true=>simp only[cT,d0j h1,oB];rfl
  ·obtain⟨w1,w3,-⟩:=a9h hs hw;obtain⟨d1,d2,d3,-⟩:=a6R h2 hw;have he0:(k==0)=false:=by simp[h0]
   rw[if_neg h0];simp only[he0,cF,w1,oB,b6z w3 (show l.length<100000 by omega),d1,a2Q,show((0:Int) != 0)=false from rfl]
   by_cases hk1:k=1
   subst hk1;rfl
   ·have he1:(k==1)=false:=by simp[hk1]
    have hk:=c0L h3 h0 hk1;rw[if_neg hk1];have hsp:=d2G hk h (d:=a1a l) (by rw[d3];exact h3) (by omega) d2 (a3v l);have e4:((a0M k s).1,((a3v l:Nat):Int),(a0M k s).2.2)=a2d (a0M k s) (a3v l) [] z0 []:=rfl;simp only[he1,cF,e4,hsp,oB];cases hr:a4t k s (a1a l)with
    |none=>rfl
    |some q=>
     obtain⟨wm,r⟩:=q;obtain⟨r1,r2,r3,-⟩:=c6Y hk (by rw[d3];exact h3) d2 hr;have hrow:a5P (l.length:Int) (wm.length:Int)=true:=by simp only[a5P,bA,dT];omega
     have hb:=c5e hrow (l:=r) (by omega) r3 (by omega);simp only[show((0:Int) != 0)=false from rfl,cF,a2d,hb,oB]
end Go.Ab
namespace Go.Ab
theorem d1C{p:Prt}{n warm:Int}(h:a6s p n warm=true):p.2.1.length≤256:=by
 simp only[a6s,bA,a29,beq_eq_false_iff_ne,ne_eq,beq_iff_eq]at h;obtain⟨zn,h1,-,h3⟩:=b5O h.1;rw[←h.2.1,h1,a1W];exact h3
theorem b7r{s:Sub}(h:SmallS s){w:Nat}{wm r:List Int}{p:Prt}(h1:wm.length≤5000)(h2:r.length≤5000)(h3:p.2.1.length≤300):SmallS (a2d s w wm p r):=
 ⟨h.coefs,h.taps,h.stages,h1,h2,h3⟩
theorem d0k{k:Int}{l:List Int}{s:Sub}(h0:(a1s k l s).2=0):
  1≤l.length∧l.length≤4096∧a4V k s (l.length:Int)∧l.all a0b=true∧
   ((k=0∧l.all (fun x=>x==l.headD 0)=true∧(a1s k l s).1=a2d (a0M 0 s) 0 [l.headD 0] z0 [])∨
    (k=1∧(a1s k l s).1=a2d (a0M 1 s) (a3v l) (a1a l) z0 [])∨
     ((k=2∨k=3∨k=4∨k=5)∧∃wm r,a4t k s (a1a l)=some (wm,r)∧(a1s k l s).1=a2d (a0M k s) (a3v l) wm (b7p (l.length:Int) (wm.length:Int) r) r)):=by
 unfold a1s at h0⊢
 split at h0
 cases h0;rename_i hc;have hc:1≤l.length∧l.length≤4096∧a4V k s (l.length:Int):=Classical.byContradiction hc;refine⟨hc.1,hc.2.1,hc.2.2,?_⟩;rw[if_neg (fun h=>h hc)]
 split at h0
 cases h0;rename_i hw;have hw':l.all a0b=true:=by simpa using hw
 refine⟨hw',?_⟩;rw[if_neg hw]
 split at h0
 ·rename_i k0;rw[if_pos k0];cases hq:l.all (fun x=>x==l.headD 0)with
  |false=>rw[hq]at h0;cases h0
  |true=>exact .inl ⟨k0,rfl,rfl⟩
 rename_i k0;rw[if_neg k0]
 split at h0
 rename_i k1;rw[if_pos k1];exact .inr (.inl ⟨k1,rfl⟩);rename_i k1;rw[if_neg k1];refine .inr (.inr ⟨c0L hc.2.2 k0 k1,?_⟩);cases hr:a4t k s (a1a l)with
 |none=>rw[hr]at h0;cases h0
 |some q=>
  obtain⟨wm,r⟩:=q;exact⟨wm,r,rfl,rfl⟩
theorem b4w{s:Sub}{k:Int}{w:Nat}{wm r:List Int}{p:Prt}:b6v (a2d (a0M k s) w wm p r):=by
 unfold b6v a2d a0M;refine⟨fun h=>if_neg h,fun h=>if_neg (not_or.2 h),fun h=>if_neg h,fun h=>if_neg h,fun h=>if_neg (not_or.2 h),fun h=>if_neg h⟩
theorem c1n{s:Sub}{k n:Int}{w:Nat}{wm r:List Int}{p:Prt}(h:a4V k s n):a4V (a2d (a0M k s) w wm p r).1 (a2d (a0M k s) w wm p r) n:=d0i.2 h
theorem d2H{l:List Int}(h:l.all (fun x=>x==l.headD 0)=true):a23 l.length (l.headD 0)=l:=by
 refine(List.eq_replicate_iff.2 ⟨rfl,fun x hx=>?_⟩).symm
 have:=lA.1 h x hx
 simpa using this
theorem c3L{k:Int}{l:List Int}{s:Sub}(hS:SmallS s)(h0:(a1s k l s).2=0):
  SmallS (a1s k l s).1∧(a1s k l s).1.1=k∧a1M (a1s k l s).1 (l.length:Int)∧a3K (a1s k l s).1 (l.length:Int)=some l:=by
 obtain⟨h1,h2,hf,hw,hc⟩:=d0k h0;have hs:short l:=by unfold short;omega
 obtain⟨-,w3,-⟩:=a9h hs hw;obtain⟨d1,d2,d3,d4⟩:=a6R h2 hw;have key:∀m:Sub,a1M m (l.length:Int)→c3H m (l.length:Int)=some l→a3K m (l.length:Int)=some l:=fun m g1 g2=>by unfold a3K;rw[if_pos g1,g2]
 have hcs:=c6X hS k;rcases hc with⟨rfl,hall,e⟩|⟨rfl,e⟩|⟨hk,wm,r,hr,e⟩
 ·rw[e];have hst:a1M (a2d (a0M 0 s) 0 [l.headD 0] z0 []) (l.length:Int):=by
   have hh:a0b (l.headD 0)=true:=by
    cases l with
    |nil=>rfl
    |cons a l=>exact lA.1 hw _ a61
   exact⟨by omega,by omega,c1n hf,b4w,Int.le_refl _,(by decide:(0:Int)≤30),fun _=>rfl,rfl,by simp only[a2d,a09,hh,List.all_nil];rfl,rfl,fun _=>⟨rfl,rfl,rfl⟩,fun h=>absurd rfl h.1⟩
  refine⟨b7r hcs (by simp) (by simp) (by simp[z0]),rfl,hst,key _ hst ?_⟩;show some (a23 (l.length:Int).toNat (l.headD 0))=some l;rw[tN,d2H hall]
 rw[e];have hst:a1M (a2d (a0M 1 s) (a3v l) (a1a l) z0 []) (l.length:Int):=
  ⟨by omega,by omega,c1n hf,b4w,a62 _,(by show((a3v l:Nat):Int)≤30;omega),fun h=>absurd h (by decide:¬ (1:Int)=0),by show(((a1a l).length:Nat):Int)=(l.length:Int);rw[d3],d2,rfl,fun _=>⟨rfl,rfl,rfl⟩,fun h=>absurd rfl h.2⟩
 refine⟨b7r hcs (by omega) (by simp) (by simp[z0]),rfl,hst,key _ hst ?_⟩;show upO ((a3v l:Nat):Int) (a1a l)=some l;exact d4
 ·rw[e];obtain⟨r1,r2,r3,r4⟩:=c6Y hk (by rw[d3];exact hf) d2 hr;have hrow:a5P (l.length:Int) (wm.length:Int)=true:=by simp only[a5P,bA,dT];omega
  have hp:=d2F hrow (l:=r) (by omega) r3 (by omega);generalize b7p (l.length:Int) (wm.length:Int) r=p at hp;have hks:=d1C hp

  have hwb:a2L (a2d (a0M k s) (a3v l) wm p r) (l.length:Int)=(wm.length:Int)∧backP (a2d (a0M k s) (a3v l) wm p r)=some (a1a l):=by
   simp only[a4V]at hf;rcases hk with rfl|rfl|rfl|rfl
   ·obtain⟨q0,q4,qn⟩:0≤s.2.2.1∧s.2.2.1≤4∧s.2.2.1≤(l.length:Int):=by simp at hf;omega
    simp only[a4t,if_true]at hr;cases hq:(a2a s.2.2.1.toNat (a1a l)).all a0b with
    |false=>simp[hq]at hr
    |true=>
     simp only[hq,cT,sj,pJ]at hr;obtain⟨rfl,rfl⟩:=hr;refine⟨?_,?_⟩;show s.2.2.1=_;rw[a01];omega;show c1h ((a1a l).take s.2.2.1.toNat) (a2a s.2.2.1.toNat (a1a l)) s.2.2.1=some (a1a l);have hb:=c6I d2 (o:=s.2.2.1.toNat) (by omega) ((a1a l).length-s.2.2.1.toNat) 0 (by omega);rw[a07,a41]at hb;unfold c1h;rw[b1s d2,hq];exact hb
   have qn:(s.2.2.2.2.2.1.length:Int)≤(l.length:Int):=by simp at hf;omega
   simp only[a4t,show ¬ (3:Int)=2 by decide,if_false,if_true,a26,pJ]at hr;obtain⟨r',g1,rfl,rfl⟩:=hr;obtain⟨g2,-,-⟩:=b7m g1;refine⟨?_,?_⟩;show((s.2.2.2.2.2.1.length:Nat):Int)=_;rw[a01];omega;exact g2;have qn:(s.2.2.2.2.2.1.length:Int)≤(l.length:Int):=by simp at hf;omega
   simp only[a4t,show ¬ (4:Int)=2 by decide,show ¬ (4:Int)=3 by decide,if_false,if_true,a22,a26,pJ]at hr;obtain⟨x,g0,r',g1,rfl,rfl⟩:=hr;obtain⟨f1,-,f3⟩:=b9n g0;obtain⟨g2,-,-⟩:=b7m g1;refine⟨?_,?_⟩;show((s.2.2.2.2.2.1.length:Nat):Int)=_;rw[a01];omega;show(b4m (x.take s.2.2.2.2.2.1.length) r' s.2.2.2.2.2.1 s.2.2.2.1).bind (fun l=>b3p l s.2.2.2.2.1 s.2.2.2.2.2.2.1)=_;rw[g2];exact f1;simp only[a4t,show ¬ (5:Int)=2 by decide,show ¬ (5:Int)=3 by decide,show ¬ (5:Int)=4 by decide,if_false,a26,pJ]at hr;obtain⟨r',g1,rfl,rfl⟩:=hr;obtain⟨g2,-,-⟩:=c2L g1;exact⟨rfl,g2⟩
  have hne:¬ (k=0∨k=1):=by rcases hk with rfl|rfl|rfl|rfl<;>decide
  have hst:a1M (a2d (a0M k s) (a3v l) wm p r) (l.length:Int):=by
   unfold a1M;rw[hwb.1];exact⟨by omega,by omega,c1n hf,b4w,a62 _,(by show((a3v l:Nat):Int)≤30;omega),fun h=>absurd (.inl h) hne,rfl,r4,r3,fun h=>absurd h hne,fun _=>⟨(by show((r.length:Nat):Int)=_;omega),hp⟩⟩
  refine⟨b7r hcs (by omega) (by omega) (by omega),rfl,hst,key _ hst ?_⟩;have e0:¬ (a2d (a0M k s) (a3v l) wm p r).1=0:=fun h=>hne (.inl h);unfold c3H;rw[if_neg e0,hwb.2];exact d4
theorem d0l:SmallS (a2g 0):=c7N 0
end Go.Ab
namespace Go.Ab
def cS(k o sh:Int)(c:List Int)(st:List Stg):Sub:=
 (k,(0:Int),o,sh,(0:Int),c,a23 3 (0:Int),st,([]:List Int),((0:Int),([]:List Int),()),([]:List Int),())
theorem b1t{k o sh:Int}{c:List Int}{st:List Stg}(h:c.length≤40)(h2:st.length≤6):SmallS (cS k o sh c st):=
 ⟨h,rfl,h2,by simp[cS],by simp[cS],by simp[cS]⟩
def b2d(d:List Int)(o w:Int):List Int×(Int×Int):=(a4g (d,o,w)).getD ([],0,1)
def b1u(d:List Int)(o w:Int):List Sub:=bif (b2d d o w).2.2==0 then[cS 3 0 (b2d d o w).2.1 (b2d d o w).1 []]else[]
def d0m(d:List Int):Int:=(a6m d).getD 0
def b4x(d:List Int):Sub×Bool:=(a3W d).getD (a2g 0,false)
def c1o(d:List Int):List Sub:=bif (b4x d).2 then[(b4x d).1]else[]
def b1v(i:Nat):List Sub:=(List.range i).map fun(j:Nat)=>cS 2 (j:Int) 0 [] []
def a2A(d:List Int):List Sub:=[cS 0 0 0 [] [],cS 1 0 0 [] [],cS 2 (d0m d) 0 [] []]
def a4a(d:List Int)(k:Int):List Sub:=if 1≤k then b1u d 4 12++b1u d 8 12 else[]
def b2e(d:List Int)(k:Int):List Sub:=if 2≤k then[cS 5 0 0 [] [((16:Int),(4:Int),())],cS 5 0 0 [] [((32:Int),(3:Int),()),((16:Int),(5:Int),())]]++c1o d else[]
def c5s(d:List Int)(k:Int):List Sub:=if 3≤k then b1v 5++(b1u d 1 12++(b1u d 2 12++(b1u d 12 14++b1u d 16 14)))else[]
def a4u(d:List Int)(k:Int):List Sub:=a2A d++(a4a d k++(b2e d k++c5s d k))
def c2P(d:List Int):Prop:=a3W d=some (b4x d)∧((b4x d).2=true→SmallS (b4x d).1)
theorem c7a{d:List Int}(hw:d.all a0b=true)(hl:d.length≤4096){o w:Nat}(h1:1≤o)(h2:o≤32)(h3:2≤w∧w≤16):
  a4g (d,(o:Int),(w:Int))=some (b2d d o w)∧((b2d d o w).2.2=0→(b2d d o w).1.length=o):=by
 obtain⟨c,sh,e,g1,g2⟩:=d1y hw hl h1 h2 h3;unfold b2d;rw[g1];exact⟨rfl,g2⟩
theorem b1w(d:List Int)(o w:Int):(b1u d o w).length≤1:=by
 unfold b1u;cases (b2d d o w).2.2==0<;>simp
theorem b1x{d:List Int}(hw:d.all a0b=true)(hl:d.length≤4096){o w:Nat}(h1:1≤o)(h2:o≤32)(h3:2≤w∧w≤16){L:List Sub}(hL:L.length<1000):
  a0t ((o:Int),(w:Int),d,L)=some (d,L++b1u d o w):=by
 obtain⟨g1,-⟩:=c7a hw hl h1 h2 h3;have hlim:lim (L.length+1)=true:=a0D (by omega);unfold a0t b1u;simp only[g1,oB];cases (b2d d o w).2.2==0 with
 |true=>simp only[cT,hlim];rfl
 |false=>simp only[cF,a25]
theorem d0n{d:List Int}{L:List Sub}(hL:L.length<1000):a0h a1Z ((0:Int),L,d,())=some (L++b1v 5,d,()):=by
 have:=a3R (f:=a1Z) (fun i:Nat=>((i:Int),L++b1v i,d,())) 5 (b:=(L++b1v 5,d,()))
  (fun i hi=>by
   have d0:decide ((i:Int)<5)=true:=decide_eq_true (by omega);have hlim:lim ((L++b1v i).length+1)=true:=a0D (by simp[b1v];omega);have e:(L++b1v i)++[cS 2 (i:Int) 0 [] []]=L++b1v (i+1):=by simp[b1v,List.range_succ]
   rw[←e];simp only[a1Z,d0,cT,hlim,a0f (show i<1000000 by omega)];rfl)
  (by
   have d0:decide (((5:Nat):Int)<5)=false:=by decide
   simp only[a1Z,d0,cF])
 simp only[nZ]at this;rw[show b1v 0=[]from rfl,a25]at this;exact this
theorem d4r{d:List Int}(hw:d.all a0b=true)(hl:d.length≤4096)(hlag:c2P d)(k:Int):a6M (d,k)=some (a4u d k):=by
 obtain⟨o,ho,ho4⟩:=c2J (show d.length<100000 by omega) hw;have hb:d0m d=(o:Int):=by unfold d0m;rw[ho];rfl
 have hlc:(c1o d).length≤1:=by unfold c1o;cases (b4x d).2<;>simp
 have l4:=b1w d 4 12;have l8:=b1w d 8 12;have l1:=b1w d 1 12;have l2:=b1w d 2 12;have l12:=b1w d 12 14;have c4:=fun L (hL:L.length<1000)=>b1x (L:=L) hw hl (o:=4) (w:=12) (by omega) (by omega) (by omega) hL;have c8:=fun L (hL:L.length<1000)=>b1x (L:=L) hw hl (o:=8) (w:=12) (by omega) (by omega) (by omega) hL;have c1:=fun L (hL:L.length<1000)=>b1x (L:=L) hw hl (o:=1) (w:=12) (by omega) (by omega) (by omega) hL;have c2:=fun L (hL:L.length<1000)=>b1x (L:=L) hw hl (o:=2) (w:=12) (by omega) (by omega) (by omega) hL;have c12:=fun L (hL:L.length<1000)=>b1x (L:=L) hw hl (o:=12) (w:=14) (by omega) (by omega) (by omega) hL;have c16:=fun L (hL:L.length<1000)=>b1x (L:=L) hw hl (o:=16) (w:=14) (by omega) (by omega) (by omega) hL;simp only[a33]at c4 c8 c1 c2 c12 c16;have n0:(a2A d).length=3:=rfl;have n1:(a4a d k).length≤2:=by unfold a4a;split<;>simp<;>omega
 have n2:(b2e d k).length≤3:=by unfold b2e;split<;>simp<;>omega
 have n5:(b1v 5).length=5:=rfl;have s1:(bif decide (k≥1)then((a0t ((4:Int),(12:Int),d,a2A d)).bind fun y2=>(a0t ((8:Int),(12:Int),y2.1,y2.2)).bind fun y3=>some (k,y3.1,y3.2,()))else some (k,d,a2A d,()))=some (k,d,a2A d++a4a d k,()):=by
  unfold a4a
  by_cases h:1≤k
  have e:decide (k≥1)=true:=decide_eq_true h;simp only[e,cT,c4 (a2A d) (by omega),oB,c8 (a2A d++b1u d 4 12) (by simp;omega),if_pos h,aA];have e:decide (k≥1)=false:=decide_eq_false h;simp only[e,cF,if_neg h,a25]
 have hF:a6M (d,k)=(a6m d).bind fun y1=>
   (show Option (Int×((List Int)×((List Sub)×Unit)))from bif decide (k≥1)then((a0t ((4:Int),(12:Int),d,[cS 0 0 0 [] [],cS 1 0 0 [] [],cS 2 y1 0 [] []])).bind fun y2=>(a0t ((8:Int),(12:Int),y2.1,y2.2)).bind fun y3=>some (k,y3.1,y3.2,()))else some (k,d,[cS 0 0 0 [] [],cS 1 0 0 [] [],cS 2 y1 0 [] []],())).bind fun z4=>
   (show Option (Int×((List Sub)×((List Int)×Unit)))from bif decide (z4.1≥2)then(bif lim (z4.2.2.1.length+1)then(bif lim ((z4.2.2.1++[cS 5 0 0 [] [((16:Int),(4:Int),())]]).length+1)then((a3W z4.2.1).bind fun y5=>
    bif y5.2 then(bif lim ((z4.2.2.1++[cS 5 0 0 [] [((16:Int),(4:Int),())]]++[cS 5 0 0 [] [((32:Int),(3:Int),()),((16:Int),(5:Int),())]]).length+1)then some (z4.1,z4.2.2.1++[cS 5 0 0 [] [((16:Int),(4:Int),())]]++[cS 5 0 0 [] [((32:Int),(3:Int),()),((16:Int),(5:Int),())]]++[y5.1],z4.2.1,())else none)
    else some (z4.1,z4.2.2.1++[cS 5 0 0 [] [((16:Int),(4:Int),())]]++[cS 5 0 0 [] [((32:Int),(3:Int),()),((16:Int),(5:Int),())]],z4.2.1,()))else none)else none)else some (z4.1,z4.2.2.1,z4.2.1,())).bind fun z6=>
   (show Option ((List Sub)×Unit)from bif decide (z6.1≥3)then((a0h a1Z ((0:Int),z6.2.1,z6.2.2.1,())).bind fun w7=>(a0t ((1:Int),(12:Int),w7.2.1,w7.1)).bind fun y8=>(a0t ((2:Int),(12:Int),y8.1,y8.2)).bind fun y9=>
    (a0t ((12:Int),(14:Int),y9.1,y9.2)).bind fun y10=>(a0t ((16:Int),(14:Int),y10.1,y10.2)).bind fun y11=>some (y11.2,()))else some (z6.2.1,())).bind fun z12=>some z12.1:=rfl
 have e0:[cS 0 0 0 [] [],cS 1 0 0 [] [],cS 2 (o:Int) 0 [] []]=a2A d:=by unfold a2A;rw[hb]
 have s2:(bif decide (k≥2)then(bif lim ((a2A d++a4a d k).length+1)then(bif lim ((a2A d++a4a d k++[cS 5 0 0 [] [((16:Int),(4:Int),())]]).length+1)then((a3W d).bind fun y5=>
    bif y5.2 then(bif lim ((a2A d++a4a d k++[cS 5 0 0 [] [((16:Int),(4:Int),())]]++[cS 5 0 0 [] [((32:Int),(3:Int),()),((16:Int),(5:Int),())]]).length+1)then some (k,a2A d++a4a d k++[cS 5 0 0 [] [((16:Int),(4:Int),())]]++[cS 5 0 0 [] [((32:Int),(3:Int),()),((16:Int),(5:Int),())]]++[y5.1],d,())else none)
    else some (k,a2A d++a4a d k++[cS 5 0 0 [] [((16:Int),(4:Int),())]]++[cS 5 0 0 [] [((32:Int),(3:Int),()),((16:Int),(5:Int),())]],d,()))else none)else none)else some (k,a2A d++a4a d k,d,()):Option (Int×((List Sub)×((List Int)×Unit))))=some (k,a2A d++(a4a d k++b2e d k),d,()):=by
  unfold b2e
  by_cases h:2≤k
  have e:decide (k≥2)=true:=decide_eq_true h;have q1:lim ((a2A d++a4a d k).length+1)=true:=a0D (by simp;omega);have q2:lim ((a2A d++a4a d k++[cS 5 0 0 [] [((16:Int),(4:Int),())]]).length+1)=true:=a0D (by simp;omega);have q3:lim ((a2A d++a4a d k++[cS 5 0 0 [] [((16:Int),(4:Int),())]]++[cS 5 0 0 [] [((32:Int),(3:Int),()),((16:Int),(5:Int),())]]).length+1)=true:=a0D (by simp;omega);simp only[e,q1,q2,q3,cT,hlag.1,oB,if_pos h,c1o];cases (b4x d).2<;>simp;have e:decide (k≥2)=false:=decide_eq_false h;simp only[e,cF,if_neg h,a25]
 have s3:(bif decide (k≥3)then((a0h a1Z ((0:Int),a2A d++(a4a d k++b2e d k),d,())).bind fun w7=>(a0t ((1:Int),(12:Int),w7.2.1,w7.1)).bind fun y8=>(a0t ((2:Int),(12:Int),y8.1,y8.2)).bind fun y9=>
    (a0t ((12:Int),(14:Int),y9.1,y9.2)).bind fun y10=>(a0t ((16:Int),(14:Int),y10.1,y10.2)).bind fun y11=>some (y11.2,()))else some (a2A d++(a4a d k++b2e d k),()):Option ((List Sub)×Unit))=some (a4u d k,()):=by
  unfold a4u c5s
  by_cases h:3≤k
  have e:decide (k≥3)=true:=decide_eq_true h;simp only[e,cT,d0n (L:=a2A d++(a4a d k++b2e d k)) (by simp;omega),oB,if_pos h];rw[c1 _ (by simp;omega)];simp only[oB];rw[c2 _ (by simp;omega)];simp only[oB];rw[c12 _ (by simp;omega)];simp only[oB];rw[c16 _ (by simp;omega)];simp only[oB,aA];have e:decide (k≥3)=false:=decide_eq_false h;simp only[e,cF,if_neg h,a25]
 rw[hF,ho,oB,e0];simp only[];rw[s1];simp only[oB];rw[s2];simp only[oB];rw[s3];rfl
theorem c2Q{d:List Int}(hw:d.all a0b=true)(hl:d.length≤4096)(hlag:c2P d)(k:Int):∀c∈a4u d k,SmallS c:=by
 have hlin:∀(o w:Nat),1≤o→o≤32→2≤w∧w≤16→∀c∈b1u d o w,SmallS c:=fun o w h1 h2 h3 c hc=>by
  obtain⟨-,g2⟩:=c7a hw hl h1 h2 h3;unfold b1u at hc;cases he:(b2d d o w).2.2==0 with
  |false=>rw[he]at hc;simp at hc
  |true=>
   rw[he]at hc;simp only[cT,a38]at hc;subst hc
   have:=g2 (by simpa using he)
   exact b1t (by omega) (by simp)
 intro c hc;simp only[a4u,mA]at hc;rcases hc with hc|hc|hc|hc;simp only[a2A,mC,a68,or_false]at hc;rcases hc with rfl|rfl|rfl<;>exact b1t (by simp) (by simp);unfold a4a at hc
 split at hc
 simp only[mA]at hc;rcases hc with hc|hc;exact hlin 4 12 (by omega) (by omega) (by omega) c hc;exact hlin 8 12 (by omega) (by omega) (by omega) c hc;simp at hc
 ·unfold b2e at hc
  split at hc
  ·simp only[mA,mC,a68,or_false]at hc;rcases hc with(rfl|rfl)|hc;exact b1t (by simp) (by simp);exact b1t (by simp) (by simp)
   ·unfold c1o at hc;cases hg:(b4x d).2 with
    |false=>rw[hg]at hc;simp at hc
    |true=>
     rw[hg]at hc;simp only[cT,a38]at hc;subst hc;exact hlag.2 hg
  simp at hc
 unfold c5s at hc
 split at hc
 simp only[mA,b1v,a55]at hc;rcases hc with⟨j,-,rfl⟩|hc|hc|hc|hc;exact b1t (by simp) (by simp);exact hlin 1 12 (by omega) (by omega) (by omega) c hc;exact hlin 2 12 (by omega) (by omega) (by omega) c hc;exact hlin 12 14 (by omega) (by omega) (by omega) c hc;exact hlin 16 14 (by omega) (by omega) (by omega) c hc;simp at hc
theorem d2I{d:List Int}(hl:d.length≤256):a3W d=some (a2g 0,false):=by
 have hF:b1S (d,(16:Int),(256:Int))=some (0,7):=by
  unfold b1S;have e1:decide (((d.length:Nat):Int) > 4096)=false:=decide_eq_false (by omega);have e2:decide (((d.length:Nat):Int)≤256)=true:=decide_eq_true (by omega);simp only[show decide ((16:Int)<2)=false from rfl,show decide ((16:Int) > 256)=false from rfl,show decide ((256:Int) > 1024)=false from rfl,cF,e1,oB,e2,cT]
 unfold a3W;simp only[hF,oB,show((7:Int) != 0)=true from rfl,cT];rfl
theorem d5l{d:List Int}(hl:d.length≤256):c2P d:=by
 have h:=d2I hl
 have:b4x d=(a2g 0,false):=by unfold b4x;rw[h];rfl
 exact⟨by rw[this];exact h,fun hc=>by rw[this]at hc;cases hc⟩
def b6E(l:List Int)(a:Int×(Bool×Sub))(c:Sub):Int×(Bool×Sub):=
 bif (a1s c.1 l c).2 != 0 then a else bif !a.2.1 || decide (a5b (a1s c.1 l c).1 (l.length:Int)<a.1)then(a5b (a1s c.1 l c).1 (l.length:Int),true,(a1s c.1 l c).1)else a
def b7s(l:List Int)(cs:List Sub):Int×(Bool×Sub):=cs.foldl (b6E l) (0,false,a2g 0)
theorem c7b{α A β:Type}(g:A→α→A)(fin:A→β):∀(l:List α)(a:A),a9K fin (a3k (fun a x=>.inl (g a x)) l a)=fin (l.foldl g a)
 | [],_=>rfl
 |x::l,a=>c7b g fin l (g a x)
theorem c7V{k:Int}{l:List Int}{s:Sub}(h:SmallS s):SmallS (a1s k l s).1:=by
 by_cases h0:(a1s k l s).2=0
 exact(c3L h h0).1
 ·have:(a1s k l s).1=a2g 0:=by
   unfold a1s at h0⊢;split;rfl;rename_i hc;rw[if_neg hc]at h0;split;rfl;rename_i hw;rw[if_neg hw]at h0;split
   ·rename_i k0;rw[if_pos k0]at h0;cases hq:l.all (fun x=>x==l.headD 0)with
    |true=>rw[hq]at h0;exact absurd rfl h0
    |false=>rfl
   rename_i k0;rw[if_neg k0]at h0;split;rename_i k1;rw[if_pos k1]at h0;exact absurd rfl h0;rename_i k1;rw[if_neg k1]at h0;cases hr:a4t k s (a1a l)with
   |none=>rfl
   |some q=>rw[hr]at h0;exact absurd rfl h0
  rw[this];exact d0l
theorem d1D{l:List Int}{cs:List Sub}(hs:∀c∈cs,SmallS c)(hl:l.length≤4096)(hc:cs.length<1000):
  a0h a7k (l,(0:Int),false,cs,((cs.length:Nat):Int),(0:Int),a2g 0,a2g 0,())=some (a2g 0,(b7s l cs).2.2,()):=by
 have:=a3t (f:=a7k) cs (fun i a=>(l,a.1,a.2.1,cs,((cs.length:Nat):Int),(i:Int),a2g 0,a.2.2,())) (fun a x=>.inl (b6E l a x)) (fun _ _=>True) (fun a=>(a2g 0,a.2.2,()))
  (fun i hi a _=>by
   refine⟨fun a' ha'=>?_,fun b hb=>by cases hb⟩;simp only[Sum.inl.injEq]at ha';subst ha';refine⟨?_,trivial⟩;have hS:=hs _ (a03 hi);have c1:=d4l (c7V (k:=cs[i].1) (l:=l) hS) (l.length:Int);unfold b6E;simp only[a7k,dlt hi,cT,a0c hi,oB,d4q hS cs[i].1 (show l.length≤100000 by omega),c1,a0f (show i<1000000 by omega)];cases (a1s cs[i].1 l cs[i]).2 != 0 with
   |true=>rfl
   |false=>
    have hwr:=a0f (show i<1000000 by omega);cases ha:a.2.1 with
    |false=>simp only[cF,a06,Bool.true_or,cT,oB,hwr]
    |true=>
     simp only[cF,bT,Bool.false_or,oB];cases decide (a5b (a1s cs[i].1 l cs[i]).1 (l.length:Int)<a.1)<;>simp only[cF,cT,hwr,ha])
  (fun a _=>by simp only[a7k,dge,cF]) (a:=((0:Int),false,a2g 0)) trivial
 simp only[nZ]at this;rw[this,c7b];rfl
theorem d4s{l:List Int}(h1:1≤l.length)(h2:l.length≤4096)(hw:l.all a0b=true)(hlag:c2P (a1a l)){k:Int}(h0:0≤k)(h3:k≤3):
  a5G (l,k)=some ((b7s l (a4u (a1a l) k)).2.2,0):=by
 have hs:short l:=by unfold short;omega
 obtain⟨w1,w3,-⟩:=a9h hs hw;obtain⟨d1,d2,d3,-⟩:=a6R h2 hw;have e1:decide (((l.length:Nat):Int)<1)=false:=decide_eq_false (by omega);have e2:decide (((l.length:Nat):Int) > 4096)=false:=decide_eq_false (by omega);have e3:decide (k<0)=false:=decide_eq_false (by omega);have e4:decide (k > 3)=false:=decide_eq_false (by omega);have hlen:(a4u (a1a l) k).length<1000:=by
  have g:=fun o w=>b1w (a1a l) o w;have q1:=g 4 12;have q2:=g 8 12;have q3:=g 1 12;have q4:=g 2 12;have q5:=g 12 14;have q6:=g 16 14;have hlc:(c1o (a1a l)).length≤1:=by unfold c1o;cases (b4x (a1a l)).2<;>simp
  simp only[a4u,a2A,a4a,b2e,c5s,lN]
  split<;>split<;>split<;>simp[b1v]<;>omega
 have hb:=d1D (l:=l) (c2Q d2 (by omega) hlag k) h2 hlen;have hz:a2g 0=((0:Int),(0:Int),(0:Int),(0:Int),(0:Int),([]:(List Int)),a23 3 (0:Int),([]:(List (Int×Int×Unit))),([]:(List Int)),((0:Int),([]:(List Int)),()),([]:(List Int)),()):=rfl;unfold a5G;simp only[←hz,e1,e2,e3,e4,cF,oB,a4I hs,hw,bT,w1,b6z w3 (show l.length<100000 by omega),d1,a2Q,show((0:Int) != 0)=false from rfl,d4r d2 (show(a1a l).length≤4096 by omega) hlag,hb]
end Go.Ab
namespace Go.Ab
theorem a4h(v:Int)(n:Nat)(L:List Int):(a0s v n L).length=L.length+(a0s v n []).length:=by
 unfold a0s;cases (a0A .u64 v (n:Int) != 0)<;>simp
theorem a9V(n:Nat):∀(l L:List Int),(a1T n l L).length=L.length+(a1T n l []).length
 | [],L=>by simp[a1T]
 |x::l,L=>by
  show(a1T n l (a0s (a3y x n) n L)).length=L.length+(a1T n l (a0s (a3y x n) n [])).length;rw[a9V n l,a9V n l (a0s (a3y x n) n []),a4h];omega
theorem b2f:∀(st:List Stg)(L:List Int),(a4J st L).length=L.length+(a4J st []).length
 | [],L=>by simp[a4J]
 |s::st,L=>by
  show(a4J st (a8l s L)).length=L.length+(a4J st (a8l s [])).length;rw[b2f st,b2f st (a8l s [])];unfold a8l;rw[a4h,a4h _ 5 L,a4h _ 4 (a0s _ 5 [])];omega
theorem b7t(s:Sub)(L:List Int):(a8m s L).length=L.length+(a8m s []).length:=by
 unfold a8m;rw[a9V,a4h,a4h _ 4,a4h _ 5 L]
 conv=>rhs;rw[a9V,a4h,a4h _ 4]
 omega
theorem c4G(s:Sub)(L:List Int):(a3l s L).length=L.length+(a3l s []).length:=by
 unfold a3l;split;rw[a4h];split;rw[b7t];split;rw[b7t,a9V,a4h]
 conv=>rhs;rw[b7t,a9V]
 omega;split;rw[b2f,a4h]
 conv=>rhs;rw[b2f]
 omega
 simp
theorem d2J{s:Sub}(hk:0≤s.1∧s.1≤5)(hw:0≤s.2.1∧s.2.1≤30)(ha:s.2.2.2.2.2.2.2.2.1.all a0b=true)(L:List Int):(b5c s L).length=L.length+13:=by
 obtain⟨K,hK⟩:=a05 hk.1;obtain⟨w,hw'⟩:=a05 hw.1
 have:=b2a ha
 unfold b5c;rw[hK,hw',b5f (q:=K) (by omega),b5f (q:=w) (by omega),a6Q (n:=5) (by omega) (by omega),a6Q (n:=5) (by omega) (by omega),a6Q (n:=3) (by omega) (by omega)]
def d0o(s:Sub)(zn:List Nat):Nat:=
 13+(a3l s []).length+a0u s.2.2.2.2.2.2.2.2.1*s.2.2.2.2.2.2.2.2.1.length+if s.1=0∨s.1=1 then 0 else 4+a4o zn s.2.2.2.2.2.2.2.2.2.1.2.1 s.2.2.2.2.2.2.2.2.2.2.1
theorem d0p{k n:Int}{s:Sub}(h:a4V k s n):0≤k∧k≤5:=by
 rcases h with h|h|⟨h,-⟩|⟨h,-⟩|⟨h,-⟩|⟨h,-⟩<;>omega
theorem c7W{s:Sub}{n:Int}(h:(a3K s n).isSome=true):a1M s n:=by
 unfold a3K at h
 split at h
 assumption
 cases h
theorem d4t{s:Sub}{n:Int}(h:(a3K s n).isSome=true){zn:List Nat}(hz:s.1≠0∧s.1≠1→PartsOk s.2.2.2.2.2.2.2.2.2.1 n ((s.2.2.2.2.2.2.2.2.1.length:Nat):Int) s.2.2.2.2.2.2.2.2.2.2.1 zn)(L:List Int):
  (a7B s zn L).length=L.length+d0o s zn:=by
 obtain⟨h1,h2,hf,-,h5,h6,-,-,hw,-⟩:=c7W h;have hwd:=b2a hw;have hh:=d2J (d0p hf) ⟨h5,h6⟩ hw L;unfold a7B d0o
 by_cases hk:s.1=0∨s.1=1
 rw[if_pos hk,if_pos hk,b5d (by omega),c4G,hh];omega;rw[if_neg hk,if_neg hk,c5b (hz (not_or.1 hk)),b5d (by omega),c4G,hh];omega
theorem d2K{s:Sub}(h:SmallS s){n:Int}(hs:(a3K s n).isSome=true):∃zn,a5b s n=((d0o s zn:Nat):Int)∧(s.1≠0∧s.1≠1→PartsOk s.2.2.2.2.2.2.2.2.2.1 n ((s.2.2.2.2.2.2.2.2.1.length:Nat):Int) s.2.2.2.2.2.2.2.2.2.2.1 zn):=by
 obtain⟨e,L',-,-,-,h4,-⟩:=c2C h (n:=n) (L:=[]) (by simp);obtain⟨-,zn,-,hz⟩:=h4 hs;refine⟨zn,?_,hz⟩;unfold a5b;rw[if_pos hs,←c8t hz,d4t hs hz]
 simp
end Go.Ab
namespace Go.Ab
structure Shifted (l m:List Int) (n:Nat):Prop where
 len:m.length=l.length
 wl:l.all a0b=true
 wm:m.all a0b=true
 down:a1a m=a1a l
 waste:a3v m=a3v l+n
 fl:l.all (fun x=>x==l.headD 0)=false
 fm:m.all (fun x=>x==m.headD 0)=false
structure BestIs (l:List Int) (cs:List Sub) (a:Int×(Bool×Sub)):Prop where
 one:a.2.1=true→∃c∈cs,(a1s c.1 l c).2=0∧a.2.2=(a1s c.1 l c).1∧a.1=a5b a.2.2 (l.length:Int)
 least:∀c∈cs,(a1s c.1 l c).2=0→a.2.1=true∧a.1≤a5b (a1s c.1 l c).1 (l.length:Int)
theorem b9q{l:List Int}:∀(cs ds:List Sub)(a:Int×(Bool×Sub)),BestIs l ds a→BestIs l (ds++cs) (cs.foldl (b6E l) a)
 | [],ds,a,h=>by rw[a25];exact h
 |c::cs,ds,a,h=>by
  rw[a70,show ds++c::cs=(ds++[c])++cs by simp];refine b9q cs (ds++[c]) _ ?_
  unfold b6E
  by_cases h0:(a1s c.1 l c).2=0
  ·have n1:((a1s c.1 l c).2 != 0)=false:=by rw[h0];rfl
   rw[n1,cF];cases hq:(!a.2.1 || decide (a5b (a1s c.1 l c).1 (l.length:Int)<a.1))with
   |true=>
    refine⟨fun _=>⟨c,by simp,h0,rfl,rfl⟩,fun d hd hd0=>⟨rfl,?_⟩⟩;rcases mA.1 hd with hd|hd;obtain⟨g1,g2⟩:=h.least d hd hd0;rw[g1]at hq;simp only[bT,Bool.false_or,dT]at hq;exact Int.le_trans (Int.le_of_lt hq) g2;simp only[a38]at hd;subst hd;exact Int.le_refl _
   |false=>
    simp only[a78,Bool.not_eq_false',decide_eq_false_iff_not]at hq;refine⟨fun ht=>?_,fun d hd hd0=>?_⟩;obtain⟨d,hd,g⟩:=h.one ht;exact⟨d,a79 _ hd,g⟩;rcases mA.1 hd with hd|hd;exact h.least d hd hd0;simp only[a38]at hd;subst hd;exact⟨hq.1,Int.not_lt.1 hq.2⟩
  have n1:((a1s c.1 l c).2 != 0)=true:=by simpa using h0
  rw[n1,cT];refine⟨fun ht=>?_,fun d hd hd0=>?_⟩;obtain⟨d,hd,g⟩:=h.one ht;exact⟨d,a79 _ hd,g⟩;rcases mA.1 hd with hd|hd;exact h.least d hd hd0;simp only[a38]at hd;subst hd;exact absurd hd0 h0
theorem c3M(l:List Int)(cs:List Sub):BestIs l cs (b7s l cs):=
 b9q cs [] _ ⟨fun h=>(by cases h),fun _ h=>(by cases h)⟩
theorem b7u{l:List Int}(h1:1≤l.length)(h2:l.length≤4096)(hw:l.all a0b=true):a1s 1 l (cS 1 0 0 [] [])=(a2d (a0M 1 (cS 1 0 0 [] [])) (a3v l) (a1a l) z0 [],0):=by
 unfold a1s;rw[if_neg (fun q=>q ⟨h1,h2,.inr (.inl rfl)⟩),if_neg (by rw[hw];decide),if_neg (by decide),if_pos rfl]
theorem d0q{l:List Int}(h1:1≤l.length)(h2:l.length≤4096)(hw:l.all a0b=true)(d:List Int)(k:Int):(b7s l (a4u d k)).2.1=true:=
 ((c3M l (a4u d k)).least (cS 1 0 0 [] []) (by simp[a4u,a2A]) (by rw[show(cS 1 0 0 [] []).1=1 from rfl,b7u h1 h2 hw])).1
end Go.Ab
namespace Go.Ab
open IntKind(wrap)
def inW(x:Int)(v:Nat):Bool:=decide (x=0) || a1U x (v:Int)
theorem d2L{x:Int}{v:Nat}:a1U x (v:Int)=true↔1≤v∧v≤31∧-((2^(v-1):Nat):Int)≤x∧x≤((2^(v-1):Nat):Int)-1:=by
 by_cases hv:1≤v∧v≤31
 have e:((v:Int)-1)=((v-1:Nat):Int):=by omega
 have hp:2^(v-1)≤2^30:=a17 (by omega) (by omega);have hp1:=a30 (v-1);have e1:a0z .i64 1 ((v-1:Nat):Int)=((2^(v-1):Nat):Int):=c6J (by omega);have e2:a0z .i64 (-1) ((v-1:Nat):Int)=-((2^(v-1):Nat):Int):=by
  have em:min (a24 ((v-1:Nat):Int)) (IntKind.bits .i64)=v-1:=by simp only[tN,IntKind.bits];omega
  unfold a0z;rw[em,show(-1:Int)*2^(v-1)=-((2^(v-1):Nat):Int)by simp];exact a0n (by omega)
 have e3:wrap .i64 (((2^(v-1):Nat):Int)-1)=((2^(v-1):Nat):Int)-1:=a0n (by omega);simp only[a1U,e,e1,e2,e3,bA,dT];constructor;intro h;exact⟨hv.1,hv.2,h.2.2.1,h.2.2.2⟩;intro h;exact⟨by omega,by omega,h.2.2.1,h.2.2.2⟩;constructor;intro h;simp only[a1U,bA,dT]at h;omega;intro h;omega
theorem c3N{x:Int}{v:Nat}:inW x v=true↔x=0∨(1≤v∧v≤31∧-((2^(v-1):Nat):Int)≤x∧x≤((2^(v-1):Nat):Int)-1):=by
 simp only[inW,a19,dT,d2L]
theorem d2M{x:Int}{v w:Nat}(h:v≤w)(hw:w≤31)(hx:inW x v=true):inW x w=true:=by
 rw[c3N]at hx⊢;rcases hx with hx|⟨h1,h2,h3,h4⟩;exact .inl hx
 have:2^(v-1)≤2^(w-1):=a17 (by omega) (by omega)
 exact .inr ⟨by omega,hw,by omega,by omega⟩
theorem d2N{x:Int}(h:a0b x=true):inW x 31=true:=by
 have:=a2z.1 h
 rw[c3N];exact .inr ⟨by omega,by omega,by rw[show((2^(31-1):Nat):Int)=1073741824 from rfl];omega,by rw[show((2^(31-1):Nat):Int)=1073741824 from rfl];omega⟩
theorem c4H{x:Int}(hx:a0b x=true):∀(k w:Nat),w+k=32→w≤31→w≤a2c x k w∧a2c x k w≤31∧inW x (a2c x k w)=true∧∀v,w≤v→inW x v=true→v≤31→a2c x k w≤v
 |0,w,h,h31=>absurd h31 (by omega)
 |k+1,w,h,h31=>by
  by_cases hin:inW x w=true
  ·have:a2c x (k+1) w=w:=by
    unfold a2c;cases hc:(x != 0)&&!a1U x (w:Int)with
    |false=>rfl
    |true=>
     simp only[bA,bne_iff_ne,ne_eq,a29]at hc;simp only[inW,a19,dT,hc.2,Bool.false_eq_true,or_false]at hin;exact absurd hin hc.1
   rw[this];exact⟨a34 _,h31,hin,fun v hv _ _=>hv⟩
  have hc:((x != 0)&&!a1U x (w:Int))=true:=by
   simp only[inW,a19,dT,not_or,Bool.not_eq_true]at hin;simp only[bA,bne_iff_ne,ne_eq,a29];exact hin
  have hne:w≠31:=fun e=>hin (by rw[e];exact d2N hx);have e:a2c x (k+1) w=a2c x k (w+1):=by
   show(bif (x != 0)&&!a1U x (w:Int)then a2c x k (w+1)else w)=_;rw[hc,cT]
  obtain⟨g1,g2,g3,g4⟩:=c4H hx k (w+1) (by omega) (by omega);rw[e];refine⟨by omega,g2,g3,fun v hv hvi h31=>g4 v ?_ hvi h31⟩;rcases Nat.lt_or_ge w v with q|q;exact q
  have:v=w:=by omega
  exact absurd (this▸hvi) hin
theorem b0M:∀(l:List Int)(w:Nat),l.all a0b=true→w≤31→
  w≤l.foldl (fun w x=>a2c x (32-w) w) w∧l.foldl (fun w x=>a2c x (32-w) w) w≤31∧(∀x∈l,inW x (l.foldl (fun w x=>a2c x (32-w) w) w)=true)∧∀v,w≤v→v≤31→(∀x∈l,inW x v=true)→l.foldl (fun w x=>a2c x (32-w) w) w≤v
 | [],w,_,h31=>⟨a34 _,h31,by simp,fun v hv _ _=>hv⟩
 |x::l,w,h,h31=>by
  rw[a09,bA]at h;obtain⟨g1,g2,g3,g4⟩:=c4H h.1 (32-w) w (by omega) h31;obtain⟨f1,f2,f3,f4⟩:=b0M l (a2c x (32-w) w) h.2 g2;simp only[a70];refine⟨by omega,f2,fun y hy=>?_,fun v hv hv31 hall=>?_⟩;rcases mC.1 hy with rfl|hy;exact d2M f1 f2 g3;exact f3 y hy;exact f4 v (g4 v hv (hall x a61) hv31) hv31 fun y hy=>hall y (a77 _ hy)
theorem d2O{l:List Int}(h:l.all a0b=true):∀x∈l,inW x (a0u l)=true:=(b0M l 0 h (by omega)).2.2.1
theorem c7X{l:List Int}(h:l.all a0b=true){v:Nat}(hv:v≤31)(hall:∀x∈l,inW x v=true):a0u l≤v:=(b0M l 0 h (by omega)).2.2.2 v (by omega) hv hall
theorem d2P{x:Int}{w v:Nat}(hw:w≤30)(hd:((2^w:Nat):Int) ∣ x)(h:inW x v=true):inW (a0A .i64 x (w:Int)) v=true:=by
 obtain⟨c,rfl⟩:=hd;rw[d2D (by omega)];rw[c3N]at h⊢;have hp:(1:Int)≤((2^w:Nat):Int):=by have:=a30 w;omega
 generalize ((2^w:Nat):Int)=p at h hp;rcases h with h|⟨h1,h2,h3,h4⟩;rcases Int.mul_eq_zero.1 h with h|h;omega;exact .inl h;refine .inr ⟨h1,h2,?_,?_⟩
 by_cases hc:0≤c
 have:(0:Int)≤((2^(v-1):Nat):Int):=a62 _
 omega;have hm:=a57 (show 0≤p-1 by omega) (show 0≤-c by omega);rw[Int.mul_neg,a88]at hm;omega
 by_cases hc:0≤c
 have hm:=a57 (show 0≤p-1 by omega) hc;rw[a88]at hm;omega
 have:(1:Int)≤((2^(v-1):Nat):Int):=by have:=a30 (v-1);omega
 omega
theorem d0r{l:List Int}(h2:l.length≤4096)(hw:l.all a0b=true):a0u (a1a l)≤a0u l:=by
 obtain⟨-,w3,w4⟩:=a9h (show short l by unfold short;omega) hw;obtain⟨-,d2,-,-⟩:=a6R h2 hw;have hdv:∀x∈l,((2^a3v l:Nat):Int) ∣ x:=by
  rcases w4 with⟨g,-⟩|⟨-,-,g,-⟩;exact fun x hx=>by rw[g x hx];exact a69 _
  exact g
 refine c7X d2 (b2a hw) fun y hy=>?_
 obtain⟨x,hx,rfl⟩:=a55.1 hy;exact d2P w3 (hdv x hx) (d2O hw x hx)
theorem d0s{l:List Int}(h1:1≤l.length)(h2:l.length≤4096)(hw:l.all a0b=true):a5b (a1s 1 l (cS 1 0 0 [] [])).1 (l.length:Int)=((13+a0u (a1a l)*l.length:Nat):Int):=by
 have hS:SmallS (cS 1 0 0 [] []):=b1t (by simp) (by simp);have hm:=b7u h1 h2 hw;obtain⟨a1,-,-,a4⟩:=c3L hS (k:=1) (l:=l) (by rw[hm]);obtain⟨zn,hc,-⟩:=d2K a1 (by rw[a4];rfl);obtain⟨-,-,d3,-⟩:=a6R h2 hw;rw[hc,hm];have e:d0o (a2d (a0M 1 (cS 1 0 0 [] [])) (a3v l) (a1a l) z0 []) zn=13+0+a0u (a1a l)*(a1a l).length+0:=rfl;rw[e,d3];rfl
theorem d0t{l:List Int}(h1:1≤l.length)(h2:l.length≤4096)(hw:l.all a0b=true)(hlag:c2P (a1a l)){k:Int}(h0:0≤k)(h3:k≤3):
  ∃s,a5G (l,k)=some (s,0)∧SmallS s∧a3K s (l.length:Int)=some l∧s=(b7s l (a4u (a1a l) k)).2.2∧a5b s (l.length:Int)=(b7s l (a4u (a1a l) k)).1∧a5b s (l.length:Int)≤((13+a0u l*l.length:Nat):Int)∧
   (∀c∈a4u (a1a l) k,(a1s c.1 l c).2=0→a5b s (l.length:Int)≤a5b (a1s c.1 l c).1 (l.length:Int)):=by
 obtain⟨-,d2,d3,-⟩:=a6R h2 hw;have hb:=d4s h1 h2 hw hlag h0 h3;have hfd:=d0q h1 h2 hw (a1a l) k;obtain⟨c,hc,g0,g1,g2⟩:=(c3M l (a4u (a1a l) k)).one hfd;have hSc:=c2Q d2 (by omega) hlag k c hc;obtain⟨f1,-,-,f4⟩:=c3L hSc g0;rw[←g1]at f1 f4;have hleast:∀c∈a4u (a1a l) k,(a1s c.1 l c).2=0→a5b (b7s l (a4u (a1a l) k)).2.2 (l.length:Int)≤a5b (a1s c.1 l c).1 (l.length:Int):=fun c hc h0=>by
  rw[←g2];exact((c3M l (a4u (a1a l) k)).least c hc h0).2
 refine⟨_,hb,f1,f4,rfl,g2.symm,?_,hleast⟩;have hp:=hleast (cS 1 0 0 [] []) (by simp[a4u,a2A]) (by rw[show(cS 1 0 0 [] []).1=1 from rfl,b7u h1 h2 hw]);rw[show(cS 1 0 0 [] []).1=1 from rfl,d0s h1 h2 hw]at hp
 have:=a35 l.length (d0r h2 hw)
 omega
end Go.Ab
namespace Go.Ab
def b9r(L:List Int):Prop:=∀b∈L,b=0∨b=1
theorem b9r.app{A B:List Int}(h:b9r A)(h':b9r B):b9r (A++B):=fun b hb=>(mA.1 hb).elim (h b) (h' b)
end Go.Ab
namespace Go.Ab
end Go.Ab
namespace Go.Ab
def OkR(P R:List Int):Prop:=b9r (P++R)∧(P++R).length<200000000
theorem OkR.shift{P A R:List Int}(h:OkR P (A++R)):OkR (P++A) R:=by
 unfold OkR at h⊢
 rwa [aA]
end Go.Ab
namespace Go.Ab
end Go.Ab
namespace Go.Ab
end Go.Ab
namespace Go.Ab
end Go.Ab
namespace Go.Ab
end Go.Ab
namespace Go.Ab
end Go.Ab
namespace Go.Ab
end Go.Ab
namespace Go.Ab
end Go.Ab
namespace Go.Ab
def b4y(n:Nat):List Int:=if h:n<128 then[(n:Int)]else((n%128+128:Nat):Int)::b4y (n / 128)
termination_by n
decreasing_by omega
theorem b7v{α β γ:Type}(f:α→List γ):∀(l:List α)(a:List γ),a3k (β:=β) (fun a x=>.inl (a++f x)) l a=.inl (a++l.flatMap f)
 | [],a=>by simp[a3k]
 |x::l,a=>by simp only[a3k];rw[b7v f l];simp
end Go.Ab
namespace Go.Ab
def d9P(g:Int):Nat:=if 0≤g then(2*g).toNat else(-2*g-1).toNat
def e8(s:Int):Int:=bif (a0A .u8 s 7)==(1:Int)then bits .u8 .xor (a0z .u8 s 1) 7 else a0z .u8 s 1
def rep{α:Type}(f:α→α):Nat→α→α
 |0,s=>s
 |n+1,s=>rep f n (f s)
def g8(s c:Int):Int:=rep e8 8 (bits .u8 .xor s c)
end Go.Ab
namespace Go.Ab
open IntKind(wrap)
@[reducible] def a1e:Type:=Int×(Int×(Int×Unit))
@[reducible] def a8n:Type:=Int×(Int×(a1e×(List a1e×(List Sub×Unit))))
@[reducible] def a1p:Type:=Int×(List (List Int)×Unit)
def a2W(n:Int)(s:a1e):Bool:=!(decide (s.1<0) || decide (s.1≥n) || decide (s.2.1<0) || decide (s.2.1≥n) || s.1==s.2.1)&&!(decide (s.2.2.1 < -1024) || decide (s.2.2.1 > 1024))
theorem a6B{n:Int}{s:a1e}:a2W n s=true↔0≤s.1∧s.1<n∧0≤s.2.1∧s.2.1<n∧s.1≠s.2.1∧-1024≤s.2.2.1∧s.2.2.1≤1024:=by
 simp only[a2W,bA,a29,a78,decide_eq_false_iff_not,beq_eq_false_iff_ne];omega
def a5d(l:List a1e)(n:Int):Prop:=1≤n∧n≤8∧l.length≤16∧l.all (a2W n)=true
instance (l:List a1e) (n:Int):Decidable (a5d l n):=by unfold a5d;infer_instance
theorem b5Q(l:List a1e)(n:Int):a8y (l,n)=some (decide (a5d l n)):=by
 unfold a8y a5d
 by_cases h1:n<1
 have:¬ 1≤n:=by omega
 simp[h1,this]
 by_cases h2:n > 8
 have:¬ n≤8:=by omega
 simp[h1,h2,this]
 by_cases h3:((l.length:Nat):Int) > 16
 have:¬ l.length≤16:=by omega
 simp[h1,h2,h3,this];have hall:=a1E (f:=a7a) (β:=Unit ⊕ (Bool×Unit)) l (fun i=>(n,l,(l.length:Int),(i:Int),())) (a2W n) (bt:=Sum.inl ()) (bf:=Sum.inr (false,()))
  (fun i h hp=>by
   obtain⟨a1,a2,a3,a4,a5,a6,a7⟩:=a6B.1 hp;have e1:decide (l[i].1<0)=false:=by simp;omega
   have e2:decide (l[i].1≥n)=false:=by simp;omega
   have e3:decide (l[i].2.1<0)=false:=by simp;omega
   have e4:decide (l[i].2.1≥n)=false:=by simp;omega
   have e5:(l[i].1==l[i].2.1)=false:=by simpa using a5
   have e6:decide (l[i].2.2.1 < -1024)=false:=by simp;omega
   have e7:decide (l[i].2.2.1 > 1024)=false:=by simp;omega
   simp only[a7a,dlt h,cT,a0c h,oB,e1,e2,e3,e4,e5,e6,e7,cF,a0f (show i<1000000 by omega)])
  (fun i h hp=>by
   simp only[a7a,dlt h,cT,a0c h,oB];unfold a2W at hp;generalize decide (l[i].1<0)=b1 at *;generalize decide (l[i].1≥n)=b2 at *;generalize decide (l[i].2.1<0)=b3 at *;generalize decide (l[i].2.1≥n)=b4 at *;generalize (l[i].1==l[i].2.1)=b5 at *;cases b1<;>cases b2<;>cases b3<;>cases b4<;>cases b5<;>simp at hp⊢;generalize hb6:decide (l[i].2.2.1 < -1024)=b6;cases b6;simp only[decide_eq_false_iff_not]at hb6
   have:1024<l[i].2.2.1:=hp (by omega)
   simp[this]
   simp)
  (by simp[a7a])
 simp only[nZ]at hall;have d3:decide (((l.length:Nat):Int) > 16)=false:=by simpa using h3
 have d1:decide (n<1)=false:=by simpa using h1
 have d2:decide (n > 8)=false:=by simpa using h2
 simp only[d1,d2,d3,cF,oB,hall];have e1:1≤n:=by omega
 have e2:n≤8:=by omega
 have e3:l.length≤16:=by omega
 by_cases hA:l.all (a2W n)=true
 rw[decide_eq_true (p:=1≤n∧n≤8∧l.length≤16∧l.all (a2W n)=true) ⟨e1,e2,e3,hA⟩,hA];rfl;rw[decide_eq_false (p:=1≤n∧n≤8∧l.length≤16∧l.all (a2W n)=true) (fun h=>hA h.2.2.2),a50.2 hA];rfl
def c1p(f:a1e):Prop:=1≤f.1∧f.1≤1048576∧1≤f.2.1∧f.2.1≤8∧4≤f.2.2.1∧f.2.2.1≤24
instance (f:a1e):Decidable (c1p f):=by unfold c1p;infer_instance
theorem b6F(f:a1e):a6Z f=some (decide (c1p f)):=by
 unfold a6Z a6Y c1p
 by_cases h1:1≤f.1<;>by_cases h2:f.1≤1048576<;>by_cases h3:1≤f.2.1<;>by_cases h4:f.2.1≤8<;>by_cases h5:4≤f.2.2.1<;>simp[h1,h2,h3,h4,h5]
def frP(f:a8n):Prop:=c1p f.2.2.1∧1≤f.2.1∧f.2.1≤4096∧0≤f.1∧f.1≤4194304-f.2.1∧a5d f.2.2.2.1 f.2.2.1.2.1
instance (f:a8n):Decidable (frP f):=by unfold frP;infer_instance
theorem c3O(f:a8n):a7b f=some (decide (frP f)):=by
 unfold a7b frP;rw[b6F,b5Q]
 by_cases h1:c1p f.2.2.1<;>by_cases h2:1≤f.2.1<;>by_cases h3:f.2.1≤4096<;>by_cases h4:0≤f.1<;>simp[h1,h2,h3,h4]
 have hw:wrap .i64 ((4194304:Int)-f.2.1)=4194304-f.2.1:=a0n (by omega);rw[hw]
 by_cases h5:f.1≤4194304-f.2.1<;>simp[h5]
def d6L(s:a1e):List Int:=b4y s.1.toNat++(b4y s.2.1.toNat++b4y (d9P s.2.2.1))
def hb(f:a8n)(body:Nat):List Int:=
 [245,75]++(b4y f.1.toNat++(b4y f.2.1.toNat++(b4y f.2.2.1.1.toNat++(b4y f.2.2.1.2.1.toNat++(b4y f.2.2.1.2.2.1.toNat++(b4y f.2.2.2.1.length++(f.2.2.2.1.flatMap d6L++b4y body)))))))
end Go.Ab
namespace Go.Ab
end Go.Ab
namespace Go.Ab
end Go.Ab
namespace Go.Ab
def c2R(f:a8n)(l:List Sub):a8n:=(f.1,f.2.1,f.2.2.1,f.2.2.2.1,l,())
end Go.Ab
namespace Go.Ab
open IntKind(wrap)
theorem b4z(x:Int):a9a x=some (a0b x):=by
 unfold a9a a0b
 by_cases h:-1073741824≤x<;>simp[h]
def a2X(c:List (List Int)):Prop:=1≤c.length∧c.length≤8∧(c.headD []).length≤4096∧c.all (fun r=>decide (r.length=(c.headD []).length)&&r.all a0b)=true
instance (c:List (List Int)):Decidable (a2X c):=by unfold a2X;infer_instance
theorem a8o{α:Type}{l:List α}{d:α}(h:0<l.length):l[0]=l.headD d:=by
 cases l with
 |nil=>simp at h
 |cons a l=>rfl
theorem c3P(c:List (List Int)):a7w c=some (decide (a2X c)):=by
 unfold a7w
 by_cases h1:((c.length:Nat):Int)<1
 have:¬ a2X c:=fun h=>by have:=h.1;omega
 simp[h1,this]
 by_cases h2:((c.length:Nat):Int) > 8
 have:¬ a2X c:=fun h=>by have:=h.2.1;omega
 simp[h1,h2,this];have hc:0<c.length:=by omega
 have hg:a0m c 0=some (c.headD []):=by rw[show(0:Int)=((0:Nat):Int)from rfl,a0c hc,a8o (d:=[]) hc]
 have d1:decide (((c.length:Nat):Int)<1)=false:=by simpa using h1
 have d2:decide (((c.length:Nat):Int) > 8)=false:=by simpa using h2
 simp only[d1,d2,cF,hg,oB]
 by_cases h3:(((c.headD []).length:Nat):Int) > 4096
 rw[decide_eq_true h3,decide_eq_false (show ¬ a2X c from fun h=>by have:=h.2.2.1;omega)];rfl;have d3:decide ((((c.headD []).length:Nat):Int) > 4096)=false:=by simpa using h3
 simp only[d3,cF];have inner:∀(i:Nat)(r:List Int),short r→a0h a4D (c,c,(c.length:Int),(i:Int),r,(r.length:Int),(0:Int),())=some (bif r.all a0b then Sum.inl (c,c,(c.length:Int),(i:Int),())else Sum.inr (false,())):=fun i r hr=>by
  have:=a1E (f:=a4D) r (fun j=>(c,c,(c.length:Int),(i:Int),r,(r.length:Int),(j:Int),())) a0b (bt:=Sum.inl (c,c,(c.length:Int),(i:Int),())) (bf:=Sum.inr (false,()))
   (fun j h hp=>by simp only[a4D,dlt h,cT,a0c h,oB,b4z,hp,bT,cF,a0f (a47 h hr)])
   (fun j h hp=>by simp only[a4D,dlt h,cT,a0c h,oB,b4z,hp,a06])
   (by simp only[a4D,dge,cF])
  exact this
 have hall:=a1E (f:=a4E) c (fun i=>(c,c,(c.length:Int),(i:Int),())) (fun r=>decide (r.length=(c.headD []).length)&&r.all a0b) (bt:=Sum.inl ()) (bf:=Sum.inr (false,()))
  (fun i h hp=>by
   simp only[bA,dT]at hp;have e:((((c[i]).length:Nat):Int) != (((c.headD []).length:Nat):Int))=false:=by rw[hp.1];exact bne_self_eq_false _
   have hi:=inner i c[i] (by unfold short;omega);rw[hp.2,cT]at hi;simp only[a4E,dlt h,cT,a0c h,oB,hg,e,cF,hi,a0f (show i<1000000 by omega)])
  (fun i h hp=>by
   by_cases hl:(c[i]).length=(c.headD []).length
   have e:((((c[i]).length:Nat):Int) != (((c.headD []).length:Nat):Int))=false:=by rw[hl];exact bne_self_eq_false _
   have hi:=inner i c[i] (by unfold short;omega);rw[decide_eq_true hl,a18]at hp;rw[hp,cF]at hi;simp only[a4E,dlt h,cT,a0c h,oB,hg,e,cF,hi];have e:((((c[i]).length:Nat):Int) != (((c.headD []).length:Nat):Int))=true:=by simp only[bne_iff_ne,ne_eq,a75];exact hl
   simp only[a4E,dlt h,cT,a0c h,oB,hg,e])
  (by simp only[a4E,dge,cF])
 simp only[nZ]at hall;rw[hall];have e1:1≤c.length:=by omega
 have e2:c.length≤8:=by omega
 have e3:(c.headD []).length≤4096:=by omega
 by_cases hA:c.all (fun r=>decide (r.length=(c.headD []).length)&&r.all a0b)=true
 rw[hA,decide_eq_true (show a2X c from⟨e1,e2,e3,hA⟩)];rfl;rw[a50.2 hA,decide_eq_false (show ¬ a2X c from fun h=>hA h.2.2.2)];rfl
def a3S(c:List (List Int))(n:Nat):Prop:=∀r∈c,r.length=n∧r.all a0b=true
theorem c8x{c:List (List Int)}(h:a2X c):a3S c (c.headD []).length:=fun r hr=>by
 have:=lA.1 h.2.2.2 r hr
 simpa using this
theorem c1q{c:List (List Int)}{n:Nat}(h:a3S c n)(h1:1≤c.length)(h8:c.length≤8)(hn:n≤4096):a2X c:=by
 have hd:(c.headD []).length=n:=by
  rw[←a8o (d:=[]) (show 0<c.length by omega)];exact(h _ (a03 _)).1
 refine⟨h1,h8,by omega,lA.2 fun r hr=>?_⟩
 have:=h r hr
 rw[decide_eq_true (show r.length=(c.headD []).length from by rw[hd];exact this.1),this.2];rfl
theorem c4I{c:List (List Int)}{n:Nat}(h:a3S c n)(hn:n≤5000)(h8:c.length≤100):a7f c=some c:=by
 have:=a3t (f:=a6I) (β:=List (List Int)×Unit) c (fun i (a:List (List Int))=>(c,(c.length:Int),(i:Int),a,())) (fun a x=>.inl (a++[x])) (fun i a=>a.length=i) (fun a=>(a,()))
  (fun i hi a ha=>⟨fun a' ha'=>by
   simp only[Sum.inl.injEq]at ha';subst ha';have hr:=(h _ (a03 hi)).1;have hs:∀y:List Int,List.set ([([]:List Int)]:List (List Int)) 0 y=[y]:=fun _=>rfl;refine⟨?_,by simp[ha]⟩;simp only[a6I,dlt hi,cT,a0c hi,oB,a6P (show short c[i]by unfold short;omega),hs];rw[a9g (by simp;omega),cT,a0f (show i<1000000 by omega)];rfl,fun b hb=>by cases hb⟩)
  (fun a ha=>by simp only[a6I,dge,cF]) (a:=[]) rfl
 rw[b7v (fun x:List Int=>[x])]at this;unfold a7f;simp only[nZ]at this;rw[this];simp[a9K]
def a6S(sign g:Int)(x y:Int):Int:=y+sign*(g*x / 256)
def a9L(sign g:Int)(xs ys:List Int):List Int:=List.zipWith (a6S sign g) xs ys
theorem d2Q(sign g:Int){xs ys:List Int}(h:xs.length=ys.length):(a9L sign g xs ys).length=ys.length:=by simp[a9L,h]
theorem d2R{sign g x y:Int}(hs:sign=1∨sign=-1)(hg:-1024≤g∧g≤1024)(hx:a0b x=true)(hy:a0b y=true):
  wrap .i64 (y+wrap .i64 (sign*a0A .i64 (wrap .i64 (g*x)) 8))=a6S sign g x y:=by
 have hx:=a2z.1 hx;have hy:=a2z.1 hy;have h1:-1099511627776≤g*x∧g*x≤1099511627776:=by
  have h1:g.natAbs≤1024:=by omega
  have h2:x.natAbs≤1073741824:=by omega
  have:=a76 h1 h2
  rw[←Int.natAbs_mul]at this;omega
 rw[a0n (n:=g*x) (by omega)];have h2:a0A .i64 (g*x) 8=g*x / 256:=by
  unfold a0A;show(g*x).fdiv (2^8)=_;rw[a43 _ (by omega)];rfl
 rw[h2];unfold a6S;rcases hs with rfl|rfl;rw[a0n (n:=1*(g*x / 256)) (by omega),a0n (by omega)];rw[a0n (n:=-1*(g*x / 256)) (by omega),a0n (by omega)]
end Go.Ab
namespace Go.Ab
open IntKind(wrap)
theorem a5R{α:Type}(c:List α){a b:Nat}(h:a≠b)(y d:α):(c.set b y).getD a d=c.getD a d:=by
 rw[lD,lD,a54 (Ne.symm h)]
theorem a7D{α:Type}(c:List α){b:Nat}(h:b<c.length)(y d:α):(c.set b y).getD b d=y:=by
 rw[lD,a51 h];rfl
theorem d3H{α:Type}(p:List α)(x:α)(s:List α)(d:α):(p++x::s).getD p.length d=x:=by
 rw[lD];simp
theorem d4u{α:Type}(p:List α)(x y:α)(s:List α):(p++x::s).set p.length y=p++y::s:=by simp
theorem c2S{c:List (List Int)}{s:a1e}{sign:Int}(hsg:sign=1∨sign=-1)(hg:-1024≤s.2.2.1∧s.2.2.1≤1024)(a0:0≤s.1)(b0:0≤s.2.1)(hab:s.1.toNat≠s.2.1.toNat)(hb:s.2.1.toNat<c.length)(hb':s.2.1<(c.length:Int))
  {xs:List Int}(hxs:c.getD s.1.toNat []=xs)(hn:xs.length≤5000):∀(sx suf px pre:List Int),px++sx=xs→px.length=pre.length→sx.length=suf.length→sx.all a0b=true→suf.all a0b=true→
  if(a9L sign s.2.2.1 sx suf).all a0b=true then
   a0h a3Y (sign,(xs.length:Int),(pre.length:Int),c.set s.2.1.toNat (pre++suf),s,((s.1.toNat:Nat):Int),())=some (.inl (c.set s.2.1.toNat (pre++a9L sign s.2.2.1 sx suf),()))
  else ∃c',a0h a3Y (sign,(xs.length:Int),(pre.length:Int),c.set s.2.1.toNat (pre++suf),s,((s.1.toNat:Nat):Int),())=some (.inr (false,c',()))
 | [],suf,px,pre,hx,hp,hl,_,_=>by
  have e:suf=[]:=List.length_eq_zero_iff.1 hl.symm;subst e;have e2:pre.length=xs.length:=by rw[←hx,←hp];simp
  rw[if_pos (by rfl),e2];exact a0q (by simp only[a3Y,dge,cF];rfl)
 |x::sx,[],px,pre,_,_,hl,_,_=>by simp at hl
 |x::sx,y::suf,px,pre,hx,hp,hl,hwx,hwy=>by
  simp only[a09,bA]at hwx hwy;have hlt:pre.length<xs.length:=by rw[←hx,←hp];simp
  have h1:(c.set s.2.1.toNat (pre++y::suf)).getD (a24 ((s.1.toNat:Nat):Int)) []=xs:=by rw[tN,a5R _ hab];exact hxs
  have h2:(c.set s.2.1.toNat (pre++y::suf)).getD s.2.1.toNat []=pre++y::suf:=a7D _ hb _ _;have h3:a86 xs (a24 (pre.length:Int)) 0=x:=by rw[tN,←hp,←hx];exact d3H _ _ _ _
  have h4:a86 (pre++y::suf) (a24 (pre.length:Int)) 0=y:=by rw[tN];exact d3H _ _ _ _
  have d0:decide ((0:Int)≤(pre.length:Int))=true:=by simp
  have d1:decide ((pre.length:Int)<(xs.length:Int))=true:=by simp;omega
  have d2:decide ((0:Int)≤s.2.1)=true:=by simpa using b0
  have d3:decide (s.2.1<(((c.set s.2.1.toNat (pre++y::suf)).length:Nat):Int))=true:=by rw[List.length_set];simpa using hb'
  have d4:decide ((pre.length:Int)<(((pre++y::suf).length:Nat):Int))=true:=by simp;omega
  have hv:=d2R hsg hg hwx.1 hwy.1;have hw:wrap .i64 ((pre.length:Int)+1)=((pre.length+1:Nat):Int):=a0f (by omega);have hz:a9L sign s.2.2.1 (x::sx) (y::suf)=a6S sign s.2.2.1 x y::a9L sign s.2.2.1 sx suf:=rfl;have hset:List.set (c.set s.2.1.toNat (pre++y::suf)) s.2.1.toNat (List.set (pre++y::suf) (a24 (pre.length:Int)) (a6S sign s.2.2.1 x y))=c.set s.2.1.toNat ((pre++[a6S sign s.2.2.1 x y])++suf):=by
   rw[tN,List.set_set,d4u];simp
  have hround:a3Y (sign,(xs.length:Int),(pre.length:Int),c.set s.2.1.toNat (pre++y::suf),s,((s.1.toNat:Nat):Int),()) =
    bif !(a0b (a6S sign s.2.2.1 x y))then some (.inr (Sum.inr (false,c.set s.2.1.toNat (pre++y::suf),())))
    else some (.inl (sign,(xs.length:Int),((pre.length+1:Nat):Int),c.set s.2.1.toNat ((pre++[a6S sign s.2.2.1 x y])++suf),s,((s.1.toNat:Nat):Int),())):=by
   simp only[a3Y,d1,cT,h1,h2,d0,a02,d2,d3,d4,h3,h4,b4z,hv,oB,hw];cases hwv:a0b (a6S sign s.2.2.1 x y);rfl;simp only[bT,cF];rw[hset,tN]
  cases hwv:a0b (a6S sign s.2.2.1 x y)with
  |false=>
   rw[hz,if_neg (by simp[hwv])];rw[hwv]at hround;exact⟨_,a0q hround⟩
  |true=>
   rw[hwv]at hround;have ih:=c2S hsg hg a0 b0 hab hb hb' hxs hn sx suf (px++[x]) (pre++[a6S sign s.2.2.1 x y]) (by simpa using hx) (by simp[hp]) (by simpa using hl) hwx.2 hwy.2;rw[a0x hround,hz];simp only[a09,hwv,a18];rw[show((pre++[a6S sign s.2.2.1 x y]).length)=pre.length+1 from by simp]at ih;split;rename_i hA;rw[if_pos hA]at ih;rw[ih]
   simp
   rename_i hA;rw[if_neg hA]at ih;exact ih
def a4b(sign:Int)(s:a1e)(c:List (List Int)):Option (List (List Int)):=
 let r:=a9L sign s.2.2.1 (c.getD s.1.toNat []) (c.getD s.2.1.toNat [])
 if r.all a0b=true then some (c.set s.2.1.toNat r)else none
theorem a6C{c:List (List Int)}{n:Nat}(h:a3S c n){i:Nat}(hi:i<c.length):(c.getD i []).length=n∧(c.getD i []).all a0b=true:=by
 rw[lD,lG hi];exact h _ (a03 hi)
theorem c7c{c:List (List Int)}{n:Nat}(hc:a3S c n)(hn:n≤5000){s:a1e}(hs:a2W (c.length:Int) s=true){sign:Int}(hsg:sign=1∨sign=-1):
  ∃b c',a8c (c,s,sign)=some (b,c')∧match a4b sign s c with|some r=>b=true∧c'=r|none=>b=false:=by
 obtain⟨a1,a2,a3,a4,a5,a6,a7⟩:=a6B.1 hs;have hx:=a6C hc (i:=s.1.toNat) (by omega);have hy:=a6C hc (i:=s.2.1.toNat) (by omega);have hb:s.2.1.toNat<c.length:=by omega
 have hset:c.set s.2.1.toNat (c.getD s.2.1.toNat [])=c:=by
  apply a63;intro i
  by_cases hi:s.2.1.toNat=i
  subst hi;rw[a51 hb,lD,lG hb];rfl;rw[a54 hi]
 have:=c2S hsg ⟨a6,a7⟩ a1 a3 (by omega) hb a4 (rfl:c.getD s.1.toNat []=_) (by omega) (c.getD s.1.toNat []) (c.getD s.2.1.toNat []) [] [] rfl rfl (by omega) hx.2 hy.2
 rw[a20,hset]at this;simp only[a96,nZ,a20,a33]at this;have d1:decide ((0:Int)≤s.1)=true:=by simpa using a1
 have d2:decide (s.1<(c.length:Int))=true:=by simpa using a2
 unfold a8c a4b;simp only[d1,d2,a02,cT]
 by_cases hA:(a9L sign s.2.2.1 (c.getD s.1.toNat []) (c.getD s.2.1.toNat [])).all a0b=true
 rw[if_pos hA]at this⊢;refine⟨true,_,?_,rfl,rfl⟩
 erw[this]
 rfl;rw[if_neg hA]at this⊢;obtain⟨c',h⟩:=this;refine⟨false,c',?_,rfl⟩
 erw[h]
 rfl
theorem b3s{c c':List (List Int)}{n:Nat}(hc:a3S c n){s:a1e}(hs:a2W (c.length:Int) s=true){sign:Int}(h:a4b sign s c=some c'):a3S c' n∧c'.length=c.length:=by
 obtain⟨a1,a2,a3,a4,a5,a6,a7⟩:=a6B.1 hs;have hx:=a6C hc (i:=s.1.toNat) (by omega);have hy:=a6C hc (i:=s.2.1.toNat) (by omega);unfold a4b at h;simp only at h
 split at h
 rename_i hA;cases h;refine⟨fun r hr=>?_,by simp⟩;rcases List.mem_or_eq_of_mem_set hr with hr|rfl;exact hc r hr;exact⟨by rw[d2Q _ _ (by omega)];exact hy.1,hA⟩;cases h
theorem c7d(g:Int):∀xs ys:List Int,xs.length=ys.length→a9L (-1) g xs (a9L 1 g xs ys)=ys
 | [],[],_=>rfl
 |x::xs,y::ys,h=>by
  have ih:=c7d g xs ys (by simpa using h);show a6S (-1) g x (a6S 1 g x y)::a9L (-1) g xs (a9L 1 g xs ys)=_;rw[ih];unfold a6S;congr 1;omega
 | [],_::_,h=>by simp at h
 |_::_,[],h=>by simp at h
theorem d1E{c c':List (List Int)}{n:Nat}(hc:a3S c n){s:a1e}(hs:a2W (c.length:Int) s=true)(h:a4b 1 s c=some c'):a4b (-1) s c'=some c:=by
 obtain⟨a1,a2,a3,a4,a5,a6,a7⟩:=a6B.1 hs;have hx:=a6C hc (i:=s.1.toNat) (by omega);have hy:=a6C hc (i:=s.2.1.toNat) (by omega);have hb:s.2.1.toNat<c.length:=by omega
 unfold a4b at h;simp only at h
 split at h
 cases h;unfold a4b;simp only;rw[a5R _ (show s.1.toNat≠s.2.1.toNat by omega),a7D _ hb,c7d _ _ _ (by omega),if_pos hy.2,List.set_set];congr 1;apply a63;intro i
 by_cases hi:s.2.1.toNat=i
 subst hi;rw[a51 hb,lD,lG hb];rfl;rw[a54 hi];cases h
def doO:List a1e→List (List Int)→Option (List (List Int))
 | [],c=>some c
 |s::l,c=>(a4b 1 s c).bind (doO l)
def b0N:List a1e→List (List Int)→Option (List (List Int))
 | [],c=>some c
 |s::l,c=>(b0N l c).bind (a4b (-1) s)
theorem b3z{n:Nat}{N:Nat}:∀(l:List a1e){c c':List (List Int)},a3S c n→c.length=N→l.all (a2W (N:Int))=true→doO l c=some c'→a3S c' n∧c'.length=N
 | [],c,c',hc,hl,_,h=>by cases h;exact⟨hc,hl⟩
 |s::l,c,c',hc,hl,hs,h=>by
  simp only[a09,bA]at hs;simp only[doO,a22]at h;obtain⟨d,h1,h2⟩:=h;obtain⟨k1,k2⟩:=b3s hc (by rw[hl];exact hs.1) h1;exact b3z l k1 (by omega) hs.2 h2
theorem c8y{n:Nat}{N:Nat}:∀(l:List a1e){c c':List (List Int)},a3S c n→c.length=N→l.all (a2W (N:Int))=true→doO l c=some c'→b0N l c'=some c
 | [],c,c',_,_,_,h=>by cases h;rfl
 |s::l,c,c',hc,hl,hs,h=>by
  simp only[a09,bA]at hs;simp only[doO,a22]at h;obtain⟨d,h1,h2⟩:=h;obtain⟨k1,k2⟩:=b3s hc (by rw[hl];exact hs.1) h1;simp only[b0N];rw[c8y l k1 (by omega) hs.2 h2];exact d1E hc (by rw[hl];exact hs.1) h1
end Go.Ab
namespace Go.Ab
def c1r:Option (List (List Int))→List (List Int)×Int
 |some r=>(r,0)
 |none=>([],6)
theorem c8z{n N:Nat}(hn:n≤5000){l:List a1e}(hl:l.length≤16)(hN:l.all (a2W (N:Int))=true):∀(k i:Nat)(c:List (List Int)),i+k=l.length→a3S c n→c.length=N→
  a0h a8f (l,(l.length:Int),(i:Int),c,())=some (match doO (l.drop i) c with|some r=>Sum.inl (r,())|none=>Sum.inr ([],6,()))
 |0,i,c,h,_,_=>by
  obtain rfl:i=l.length:=by omega
  rw[a08];exact a0q (by simp only[a8f,dge,cF];rfl)
 |k+1,i,c,h,hc,hcl=>by
  have hi:i<l.length:=by omega
  rw[a00 hi];have hs:a2W (c.length:Int) l[i]=true:=by rw[hcl];exact lA.1 hN _ (a03 hi)
  obtain⟨b,c',h1,h2⟩:=c7c hc hn hs (sign:=1) (.inl rfl);simp only[doO];cases hst:a4b 1 l[i] c with
  |none=>
   rw[hst]at h2;simp only at h2;subst h2;exact a0q (by simp only[a8f,dlt hi,cT,a0c hi,oB,h1,a06];rfl)
  |some r=>
   rw[hst]at h2;obtain⟨rfl,rfl⟩:=h2;obtain⟨k1,k2⟩:=b3s hc hs hst;rw[a0x (s':=(l,(l.length:Int),((i+1:Nat):Int),c',())) (by
    simp only[a8f,dlt hi,cT,a0c hi,oB,h1,bT,cF,a0f (show i<1000000 by omega)])]
   rw[c8z hn hl hN k (i+1) c' (by omega) k1 (by omega)];rfl
theorem c5t(c:List (List Int))(l:List a1e):b2x (c,l)=some (if a2X c∧a5d l (c.length:Int)then c1r (doO l c)else([],1)):=by
 unfold b2x;simp only[c3P,oB]
 by_cases hq:a2X c
 have hN:=c8x hq;simp only[hq,decide_true,bT,cF,b5Q,oB,true_and]
 by_cases hm:a5d l (c.length:Int)
 simp only[hm,decide_true,bT,cF,if_true];rw[c4I hN (by have:=hq.2.2.1;omega) (by have:=hq.2.1;omega)]
 have:=c8z (N:=c.length) (by have:=hq.2.2.1;omega:(c.headD []).length≤5000) hm.2.2.1 hm.2.2.2 l.length 0 c (by omega) hN rfl
 simp only[nZ,a07,a33]at this;simp only[oB]
 erw[this]
 cases doO l c<;>rfl;simp only[hm,decide_false,a06,cT,if_false];simp only[hq,decide_false,a06,cT,oB,false_and,if_false]
theorem c2T(s:a1e):∀(l:List a1e)(c:List (List Int)),b0N (l++[s]) c=(a4b (-1) s c).bind (b0N l)
 | [],c=>by
  show a4b (-1) s c=_;cases a4b (-1) s c<;>rfl
 |t::l,c=>by
  simp only[a66,b0N,c2T s l];cases a4b (-1) s c<;>rfl
theorem c4J{n N:Nat}(hn:n≤5000){l:List a1e}(hN:l.all (a2W (N:Int))=true)(z:List (List Int))(e:Int):∀(k:Nat)(c:List (List Int)),k≤l.length→a3S c n→c.length=N→
  match b0N (l.take k) c with
  |some r=>a5t a3I l k (l,z,e,c,())=some (.inl (l,z,e,r,()))
  |none=>∃d,a5t a3I l k (l,z,e,c,())=some (.inr (.ret,l,[],6,d,()))
 |0,c,_,_,_=>rfl
 |k+1,c,hk,hc,hcl=>by
  have hi:k<l.length:=by omega
  have hs:a2W (c.length:Int) l[k]=true:=by rw[hcl];exact lA.1 hN _ (a03 hi)
  obtain⟨b,c',h1,h2⟩:=c7c hc hn hs (sign:=-1) (.inr rfl);rw[a36 hi,c2T];cases hst:a4b (-1) l[k] c with
  |none=>
   rw[hst]at h2;simp only at h2;subst h2;refine⟨c',?_⟩;simp only[a5t,lG hi,a3I,h1,oB,a06,cT]
  |some r=>
   rw[hst]at h2;obtain⟨rfl,rfl⟩:=h2;obtain⟨k1,k2⟩:=b3s hc hs hst;have ih:=c4J hn hN z e k c' (by omega) k1 (by omega);have hb:a5t a3I l (k+1) (l,z,e,c,())=a5t a3I l k (l,z,e,c',()):=by
    simp only[a5t,lG hi,a3I,h1,oB,bT,cF]
   rw[hb];exact ih
theorem d4v(c:List (List Int))(l:List a1e):b1M (c,l)=some (if a2X c∧a5d l (c.length:Int)then c1r (b0N l c)else([],1)):=by
 unfold b1M;simp only[c3P,oB]
 by_cases hq:a2X c
 ·have hN:=c8x hq;simp only[hq,decide_true,bT,cF,b5Q,oB,true_and]
  by_cases hm:a5d l (c.length:Int)
  ·simp only[hm,decide_true,bT,cF,if_true];rw[c4I hN (by have:=hq.2.2.1;omega) (by have:=hq.2.1;omega)]
   have:=c4J (N:=c.length) (by have:=hq.2.2.1;omega:(c.headD []).length≤5000) hm.2.2.2 [] 0 l.length c (a34 _) hN rfl
   rw[a21]at this;simp only[oB,a9g (show l.length<2147483648 by have:=hm.2.2.1;omega),cT];cases hu:b0N l c with
   |some r=>
    rw[hu]at this;simp only at this
    erw[this]
    rfl
   |none=>
    rw[hu]at this;obtain⟨d,hd⟩:=this
    erw[hd]
    rfl
  simp only[hm,decide_false,a06,cT,if_false]
 simp only[hq,decide_false,a06,cT,oB,false_and,if_false]
def a0E(b:a1p):Nat:=(b.2.1.headD []).length
theorem a4W(b:a1p):a3M b=some ((a0E b:Nat):Int):=by
 unfold a3M a0E;obtain⟨d,c,u⟩:=b;cases c with
 |nil=>rfl
 |cons r c=>
  have:((((r::c).length:Nat):Int)==0)=false:=by simp;omega
  simp only[this,cF];rfl
def a4X(b:a1p):Prop:=4≤b.1∧b.1≤24∧1≤b.2.1.length∧b.2.1.length≤8∧1≤a0E b∧a0E b≤4096∧b.2.1.all (fun r=>decide (r.length=a0E b)&&r.all fun x=>a1U x b.1)=true
instance (b:a1p):Decidable (a4X b):=by unfold a4X;infer_instance
theorem c7e{x w:Int}(h:4≤w∧w≤24):a4d (x,w)=some (a1U x w):=by
 have:=a6u (x:=x) (w:=w.toNat) (by omega)
 rwa [a80 (by omega)]at this
theorem b0O(b:a1p):a5N b=some (decide (a4X b)):=by
 unfold a5N a6Y
 by_cases h1:4≤b.1
 rotate_left;rw[decide_eq_false (show ¬ a4X b from fun h=>h1 h.1),decide_eq_false h1];rfl
 by_cases h2:b.1≤24
 rotate_left;rw[decide_eq_false (show ¬ a4X b from fun h=>h2 h.2.1),decide_eq_true h1,decide_eq_false h2];rfl
 by_cases h3:((b.2.1.length:Nat):Int)<1
 rw[decide_eq_false (show ¬ a4X b from fun h=>by have:=h.2.2.1;omega),decide_eq_true h1,decide_eq_true h2,decide_eq_true h3];rfl
 by_cases h4:((b.2.1.length:Nat):Int) > 8
 rw[decide_eq_false (show ¬ a4X b from fun h=>by have:=h.2.2.2.1;omega),decide_eq_true h1,decide_eq_true h2,decide_eq_false h3,decide_eq_true h4];rfl;have d3:decide (((b.2.1.length:Nat):Int)<1)=false:=by simpa using h3
 have d4:decide (((b.2.1.length:Nat):Int) > 8)=false:=by simpa using h4
 simp only[decide_eq_true h1,decide_eq_true h2,d3,d4,cT,cF,oB,bT,a4W]
 by_cases h5:((a0E b:Nat):Int)<1
 rw[decide_eq_false (show ¬ a4X b from fun h=>by have:=h.2.2.2.2.1;omega),decide_eq_true h5];rfl
 by_cases h6:((a0E b:Nat):Int) > 4096
 rw[decide_eq_false (show ¬ a4X b from fun h=>by have:=h.2.2.2.2.2.1;omega),decide_eq_false h5,decide_eq_true h6];rfl;have d5:decide (((a0E b:Nat):Int)<1)=false:=by simpa using h5
 have d6:decide (((a0E b:Nat):Int) > 4096)=false:=by simpa using h6
 simp only[d5,d6,cF,oB];have inner:∀(i:Nat)(r:List Int),short r→a0h a4F (b.2.1,(b.2.1.length:Int),(i:Int),r,(r.length:Int),(0:Int),b,())=some (bif r.all (fun x=>a1U x b.1)then Sum.inl (b.2.1,(b.2.1.length:Int),(i:Int),b,())else Sum.inr (false,())):=fun i r hr=>by
  have:=a1E (f:=a4F) r (fun j=>(b.2.1,(b.2.1.length:Int),(i:Int),r,(r.length:Int),(j:Int),b,())) (fun x=>a1U x b.1) (bt:=Sum.inl (b.2.1,(b.2.1.length:Int),(i:Int),b,())) (bf:=Sum.inr (false,()))
   (fun j h hp=>by simp only[a4F,dlt h,cT,a0c h,oB,c7e ⟨h1,h2⟩,hp,bT,cF,a0f (a47 h hr)])
   (fun j h hp=>by simp only[a4F,dlt h,cT,a0c h,oB,c7e ⟨h1,h2⟩,hp,a06])
   (by simp only[a4F,dge,cF])
  exact this
 have hall:=a1E (f:=a4G) b.2.1 (fun i=>(b.2.1,(b.2.1.length:Int),(i:Int),b,())) (fun r=>decide (r.length=a0E b)&&r.all fun x=>a1U x b.1) (bt:=Sum.inl ()) (bf:=Sum.inr (false,()))
  (fun i h hp=>by
   simp only[bA,dT]at hp;have e:((((b.2.1[i]).length:Nat):Int) != ((a0E b:Nat):Int))=false:=by rw[hp.1];exact bne_self_eq_false _
   have hi:=inner i b.2.1[i] (by unfold short;omega);rw[hp.2,cT]at hi;simp only[a4G,dlt h,cT,a0c h,oB,a4W,e,cF,hi,a0f (show i<1000000 by omega)])
  (fun i h hp=>by
   by_cases hl:(b.2.1[i]).length=a0E b
   have e:((((b.2.1[i]).length:Nat):Int) != ((a0E b:Nat):Int))=false:=by rw[hl];exact bne_self_eq_false _
   have hi:=inner i b.2.1[i] (by unfold short;omega);rw[decide_eq_true hl,a18]at hp;rw[hp,cF]at hi;simp only[a4G,dlt h,cT,a0c h,oB,a4W,e,cF,hi];have e:((((b.2.1[i]).length:Nat):Int) != ((a0E b:Nat):Int))=true:=by simp only[bne_iff_ne,ne_eq,a75];exact hl
   simp only[a4G,dlt h,cT,a0c h,oB,a4W,e])
  (by simp only[a4G,dge,cF])
 simp only[nZ]at hall;rw[hall]
 by_cases hA:b.2.1.all (fun r=>decide (r.length=a0E b)&&r.all fun x=>a1U x b.1)=true
 rw[hA,decide_eq_true (show a4X b from⟨h1,h2,by omega,by omega,by omega,by omega,hA⟩)];rfl;rw[a50.2 hA,decide_eq_false (show ¬ a4X b from fun h=>hA h.2.2.2.2.2.2)];rfl
end Go.Ab
namespace Go.Ab
def a8S{α β:Type}(g:α→Option β):List α→Option (List β)
 | []=>some []
 |a::l=>(g a).bind fun b=>(a8S g l).bind fun r=>some (b::r)
theorem c1s{α β:Type}{g:α→Option β}:∀{l:List α}{r:List β},a8S g l=some r→r.length=l.length
 | [],r,h=>by cases h;rfl
 |a::l,r,h=>by
  simp only[a8S,a22]at h;obtain⟨b,-,r',h2,h3⟩:=h;cases h3;simp[c1s h2]
def b9s(f:a8n):Option a1p:=
 if frP f∧((f.2.2.2.2.1.length:Nat):Int)=f.2.2.1.2.1 then
  (a8S (fun s=>a3K s f.2.1) f.2.2.2.2.1).bind fun rs=>
   if a2X rs∧a5d f.2.2.2.1 (rs.length:Int)then
    (b0N f.2.2.2.1 rs).bind fun ch=>if a4X (f.2.2.1.2.2.1,ch,())then some (f.2.2.1.2.2.1,ch,())else none
   else none
 else none
def b6G:a1p:=(0,[],())
def d5m:Option a1p→a1p×Int
 |some b=>(b,0)
 |none=>(b6G,1)
theorem c0M(f:a8n)(all:List Sub)(h8:all.length≤8):∀(rest done:List Sub)(rows:List (List Int)),done++rest=all→rows.length=done.length→(∀s∈rest,SmallS s)→
  a0h a4N (all,(all.length:Int),(done.length:Int),rows,b6G,f,())=some (match a8S (fun s=>a3K s f.2.1) rest with|some rs=>Sum.inl (rows++rs,b6G,f,())|none=>Sum.inr (1,b6G,()))
 | [],done,rows,hd,hr,_=>by
  have e:done=all:=by simpa using hd
  subst e;rw[a0q (b:=Sum.inl (rows,b6G,f,())) (by simp only[a4N,dge,cF])];simp[a8S]
 |s::rest,done,rows,hd,hr,h=>by
  have hs:=h s (by simp);have hlt:done.length<all.length:=by rw[←hd];simp
  have hg:a0m all (done.length:Int)=some s:=by rw[a0c hlt];subst hd;simp
  have hrow:=c2y hs f.2.1;simp only[a8S];cases ho:a3K s f.2.1 with
  |none=>
   rw[ho]at hrow;have b1:((1:Int) != 0)=true:=rfl;exact a0q (by simp only[a4N,dlt hlt,cT,hg,oB,hrow,b1];rfl)
  |some r=>
   rw[ho]at hrow;have b0:((0:Int) != 0)=false:=rfl;rw[a0x (s':=(all,(all.length:Int),(((done++[s]).length:Nat):Int),rows++[r],b6G,f,())) (by
    simp only[a4N,dlt hlt,cT,hg,oB,hrow,b0,cF,a9g (show rows.length+1<2147483648 by omega),a0f (show done.length<1000000 by omega)]
    simp)]
   rw[c0M f all h8 rest (done++[s]) (rows++[r]) (by simpa using hd) (by simp[hr]) (fun t ht=>h t (by simp[ht]))];simp only[oB];cases a8S (fun s=>a3K s f.2.1) rest<;>simp
theorem c7f{f:a8n}(hS:∀s∈f.2.2.2.2.1,SmallS s):a4e f=some (d5m (b9s f)):=by
 unfold a4e b9s;simp only[c3O,oB]
 by_cases hf:frP f
 rotate_left;simp only[hf,decide_false,a06,cT,oB,false_and,if_false];rfl
 by_cases hl:((f.2.2.2.2.1.length:Nat):Int)=f.2.2.1.2.1
 rotate_left;have e:(((f.2.2.2.2.1.length:Nat):Int) != f.2.2.1.2.1)=true:=by simpa using hl
 simp only[hf,decide_true,bT,cF,oB,e,cT,hl,and_false,if_false];rfl;have e:(((f.2.2.2.2.1.length:Nat):Int) != f.2.2.1.2.1)=false:=by simpa using hl
 have h8:f.2.2.2.2.1.length≤8:=by have:=hf.1.2.2.2.1;omega
 have d0:decide ((0:Int)≤((f.2.2.2.2.1.length:Nat):Int))=true:=by simp
 have hloop:=c0M f f.2.2.2.2.1 h8 f.2.2.2.2.1 [] [] rfl rfl hS;rw[a96]at hloop;rw[if_pos ⟨hf,hl⟩];simp only[hf,decide_true,bT,cF,oB,e,d0,tN,a9g (show f.2.2.2.2.1.length<2147483648 by omega),a02,cT]
 erw[hloop]
 cases hm:a8S (fun s=>a3K s f.2.1) f.2.2.2.2.1 with
 |none=>rfl
 |some rs=>
  simp only[oB,a20,d4v]
  by_cases hq:a2X rs∧a5d f.2.2.2.1 (rs.length:Int)
  ·simp only[if_pos hq];cases hu:b0N f.2.2.2.1 rs with
   |none=>rfl
   |some ch=>
    have b0:((0:Int) != 0)=false:=rfl;simp only[c1r,b0,cF,b0O,oB]
    by_cases hb:a4X (f.2.2.1.2.2.1,ch,())
    simp only[hb,decide_true,bT,cF,if_true];rfl;simp only[hb,decide_false,a06,cT,if_false];rfl
  simp only[if_neg hq];rfl
end Go.Ab
namespace Go.Ab
set_option maxRecDepth 100000 in
theorem d4w:b5K ()=some true:=by kernel_rfl
end Go.Ab
namespace Go.Ab
open IntKind(wrap)
theorem c5f{x:List (List Int)}(h:∀r∈x,short r)(hl:x.length<1000000):a8F (x,x)=some true:=by
 unfold a8F
 have:=a1E (f:=a5X) (β:=Unit ⊕ (Bool×Unit)) x (fun i=>(x,x,(i:Int),())) (fun _=>true) (bt:=Sum.inl ()) (bf:=Sum.inr (false,()))
  (fun i hi _=>by simp only[a5X,dlt hi,cT,a0c hi,oB,c7J (h _ (a03 hi)),decide_true,bT,cF,a0f (show i<1000000 by omega)])
  (fun i hi hp=>by cases hp) (by simp only[a5X,dge,cF])
 simp only[nZ]at this;simp only[bne_self_eq_false,cF];rw[this]
 have:x.all (fun _=>true)=true:=by simp
 rw[this];rfl
theorem c3Q{b:a1p}(h:∀r∈b.2.1,short r)(hl:b.2.1.length<1000000):a5x (b,b)=some true:=by
 unfold a5x;simp only[beq_self_eq_true,cT,c5f h hl,oB]
def d5n(b:a1p)(m:Nat):Prop:=b.2.1.length≤12∧∀r∈b.2.1,r.length≤m
theorem d1F(b:a1p)(m:Nat):∃t,b3l (b,(m:Int))=some t∧(t=true→d5n b m):=by
 unfold b3l
 by_cases h1:((b.2.1.length:Nat):Int) > 12
 exact⟨false,by rw[decide_eq_true h1];rfl,fun h=>by cases h⟩;have d1:decide (((b.2.1.length:Nat):Int) > 12)=false:=decide_eq_false h1
 have:=a1E (f:=a7m) (β:=Unit ⊕ (Bool×Unit)) b.2.1 (fun i=>((m:Int),(i:Int),b,())) (fun r=>decide (r.length≤m)) (bt:=Sum.inl ()) (bf:=Sum.inr (false,()))
  (fun i hi hp=>by
   have e:decide (((b.2.1[i].length:Nat):Int) > (m:Int))=false:=by simp only[dT]at hp;simp only[decide_eq_false_iff_not];omega
   simp only[a7m,dlt hi,cT,a0c hi,oB,e,cF,a0f (show i<1000000 by omega)])
  (fun i hi hp=>by
   have e:decide (((b.2.1[i].length:Nat):Int) > (m:Int))=true:=by simp only[decide_eq_false_iff_not]at hp;simp only[dT];omega
   simp only[a7m,dlt hi,cT,a0c hi,oB,e]) (by simp only[a7m,dge,cF])
 simp only[nZ]at this;simp only[d1,cF];rw[this];cases hA:b.2.1.all (fun r=>decide (r.length≤m))with
 |true=>exact⟨true,rfl,fun _=>⟨by omega,fun r hr=>by simpa using lA.1 hA r hr⟩⟩
 |false=>exact⟨false,rfl,fun h=>by cases h⟩
theorem d2S{c:List (List Int)}:b1U c=some (decide (1≤c.length∧c.length≤8∧c.all (fun r=>decide (r.length=(c.headD []).length))=true)):=by
 unfold b1U
 by_cases h1:((c.length:Nat):Int)<1
 rw[decide_eq_false (show ¬ (1≤c.length∧_)from fun h=>by have:=h.1;omega),decide_eq_true h1];rfl
 by_cases h2:((c.length:Nat):Int) > 8
 rw[decide_eq_false (show ¬ (1≤c.length∧c.length≤8∧_)from fun h=>by have:=h.2.1;omega),decide_eq_false h1,decide_eq_true h2];rfl;have hc:0<c.length:=by omega
 have hg:a0m c 0=some (c.headD []):=by rw[show(0:Int)=((0:Nat):Int)from rfl,a0c hc,a8o (d:=[]) hc]
 have:=a1E (f:=a6p) (β:=Unit ⊕ (Bool×Unit)) c (fun i=>(c,(i:Int),())) (fun r=>decide (r.length=(c.headD []).length)) (bt:=Sum.inl ()) (bf:=Sum.inr (false,()))
  (fun i hi hp=>by
   simp only[dT]at hp;have e:((((c[i]).length:Nat):Int) != (((c.headD []).length:Nat):Int))=false:=by rw[hp];exact bne_self_eq_false _
   simp only[a6p,dlt hi,cT,a0c hi,oB,hg,e,cF,a0f (show i<1000000 by omega)])
  (fun i hi hp=>by
   simp only[decide_eq_false_iff_not]at hp;have e:((((c[i]).length:Nat):Int) != (((c.headD []).length:Nat):Int))=true:=by simp only[bne_iff_ne,ne_eq,a75];exact hp
   simp only[a6p,dlt hi,cT,a0c hi,oB,hg,e]) (by simp only[a6p,dge,cF])
 simp only[nZ]at this;simp only[decide_eq_false h1,decide_eq_false h2,cF,oB];rw[this]
 by_cases hA:c.all (fun r=>decide (r.length=(c.headD []).length))=true
 rw[hA,decide_eq_true (show 1≤c.length∧c.length≤8∧true=true from⟨by omega,by omega,rfl⟩)];rfl;rw[a50.2 hA,decide_eq_false (show ¬ (1≤c.length∧c.length≤8∧false=true)from fun h=>by cases h.2.2)];rfl
theorem b9t{x w:Int}(h:4≤w∧w≤24):b2y (x,w)=some (a1U x w):=by
 have:=c7L (x:=x) (w:=w.toNat) (by omega)
 rwa [a80 (by omega)]at this
theorem c7Y{b:a1p}(hs:∀r∈b.2.1,r.length≤100):∃t,a8K b=some t∧(t=true→a4X b):=by
 unfold a8K
 by_cases h1:b.1<4
 exact⟨false,by rw[decide_eq_true h1];rfl,fun h=>by cases h⟩
 by_cases h2:b.1 > 24
 exact⟨false,by rw[decide_eq_false h1,decide_eq_true h2];rfl,fun h=>by cases h⟩;simp only[decide_eq_false h1,decide_eq_false h2,cF,d2S,oB]
 by_cases h3:1≤b.2.1.length∧b.2.1.length≤8∧b.2.1.all (fun r=>decide (r.length=(b.2.1.headD []).length))=true
 rotate_left;exact⟨false,by rw[decide_eq_false h3];rfl,fun h=>by cases h⟩;have hc:0<b.2.1.length:=by omega
 have hg:a0m b.2.1 0=some (b.2.1.headD []):=by rw[show(0:Int)=((0:Nat):Int)from rfl,a0c hc,a8o (d:=[]) hc]
 simp only[decide_eq_true h3,bT,cF,hg,oB]
 by_cases h4:(((b.2.1.headD []).length:Nat):Int)<1
 exact⟨false,by rw[decide_eq_true h4];rfl,fun h=>by cases h⟩
 by_cases h5:(((b.2.1.headD []).length:Nat):Int) > 4096
 exact⟨false,by rw[decide_eq_false h4,decide_eq_true h5];rfl,fun h=>by cases h⟩;simp only[decide_eq_false h4,decide_eq_false h5,cF,oB];have hb:4≤b.1∧b.1≤24:=by omega
 have inner:∀(i:Nat)(hi:i<b.2.1.length),a0h a3q ((i:Int),(0:Int),b,())=some (bif (b.2.1[i]).all (fun x=>a1U x b.1)then Sum.inl ((i:Int),b,())else Sum.inr (false,())):=fun i hi=>by
  have hl:=hs _ (a03 hi)
  have:=a1E (f:=a3q) (β:=(Int×a1p×Unit) ⊕ (Bool×Unit)) b.2.1[i] (fun j=>((i:Int),(j:Int),b,())) (fun x=>a1U x b.1) (bt:=Sum.inl ((i:Int),b,())) (bf:=Sum.inr (false,()))
   (fun j h hp=>by simp only[a3q,a0c hi,oB,dlt h,cT,a0c h,b9t hb,hp,bT,cF,a0f (show j<1000000 by omega)])
   (fun j h hp=>by simp only[a3q,a0c hi,oB,dlt h,cT,a0c h,b9t hb,hp,a06])
   (by simp only[a3q,a0c hi,oB,dge,cF])
  exact this
 have hall:=a1E (f:=a4n) (β:=Unit ⊕ (Bool×Unit)) b.2.1 (fun i=>((i:Int),b,())) (fun r=>r.all fun x=>a1U x b.1) (bt:=Sum.inl ()) (bf:=Sum.inr (false,()))
  (fun i h hp=>by
   have hi:=inner i h;rw[hp,cT]at hi;simp only[a4n,dlt h,cT];rw[hi];simp only[oB,a0f (show i<1000000 by omega)])
  (fun i h hp=>by
   have hi:=inner i h;rw[hp,cF]at hi;simp only[a4n,dlt h,cT];rw[hi];rfl)
  (by simp only[a4n,dge,cF])
 simp only[nZ]at hall;rw[hall];cases hA:b.2.1.all (fun r=>r.all fun x=>a1U x b.1)with
 |false=>exact⟨false,rfl,fun h=>by cases h⟩
 |true=>
  refine⟨true,rfl,fun _=>⟨hb.1,hb.2,h3.1,h3.2.1,by unfold a0E;omega,by unfold a0E;omega,lA.2 fun r hr=>?_⟩⟩;have g1:=lA.1 h3.2.2 r hr;have g2:=lA.1 hA r hr;simp only[dT]at g1;unfold a0E;rw[decide_eq_true g1,g2];rfl
theorem d1G{x w:Int}(hw:4≤w∧w≤24)(h:a1U x w=true):a0b x=true:=by
 unfold a1U at h;simp only[bA,dT]at h;obtain⟨-,-,h1,h2⟩:=h;obtain⟨o,ho⟩:∃o:Nat,w-1=(o:Int):=⟨(w-1).toNat,by omega⟩;rw[ho]at h1 h2;rw[c6J (by omega)]at h2;have hp:2^o≤2^24:=a17 (by omega) (by omega);have hm:a0z .i64 (-1) (o:Int)=wrap .i64 (-((2^o:Nat):Int)):=by
  unfold a0z;show wrap .i64 (-1*2^(min (o:Int).toNat 64))=_;rw[tN,a71 (by omega),show((2^o:Nat):Int)=(2:Int)^o from by rw[a94];rfl,Int.neg_one_mul]
 rw[hm]at h1;generalize 2^o=p at hp h1 h2;have hp':p≤16777216:=hp;rw[a0n (by omega)]at h1 h2;exact a2z.2 (by omega)
theorem b4A{b:a1p}(h:a4X b):a3S b.2.1 (a0E b)∧a2X b.2.1:=by
 obtain⟨h1,h2,h3,h4,h5,h6,h7⟩:=h;have hN:a3S b.2.1 (a0E b):=fun r hr=>by
  have:=lA.1 h7 r hr
  simp only[bA,dT]at this;exact⟨this.1,lA.2 fun x hx=>d1G ⟨h1,h2⟩ (lA.1 this.2 x hx)⟩
 exact⟨hN,c1q hN h3 h4 h6⟩
theorem d0u{b:a1p}(hb:a4X b){l:List a1e}(hl:a5d l (b.2.1.length:Int)){rows:List (List Int)}(hd:doO l b.2.1=some rows){ss:List Sub}(hs:a8S (fun s=>a3K s ((a0E b:Nat):Int)) ss=some rows)
  {start rate:Int}(hst:0≤start∧start≤4194304-((a0E b:Nat):Int))(hr:1≤rate∧rate≤1048576):
  b9s (start,((a0E b:Nat):Int),(rate,((b.2.1.length:Nat):Int),b.1,()),l,ss,())=some b:=by
 obtain⟨hN,hQ⟩:=b4A hb;obtain⟨k1,k2⟩:=b3z l hN rfl hl.2.2.2 hd;have hlen:=c1s hs;obtain⟨h1,h2,h3,h4,h5,h6,h7⟩:=hb;have hfr:frP (start,((a0E b:Nat):Int),(rate,((b.2.1.length:Nat):Int),b.1,()),l,ss,()):=⟨⟨hr.1,hr.2,by show(1:Int)≤((b.2.1.length:Nat):Int);omega,by show((b.2.1.length:Nat):Int)≤8;omega,h1,h2⟩,by show(1:Int)≤((a0E b:Nat):Int);omega,by show((a0E b:Nat):Int)≤4096;omega,hst.1,hst.2,hl⟩;have hch:((ss.length:Nat):Int)=((b.2.1.length:Nat):Int):=by omega
 have hQ':a2X rows:=c1q k1 (by omega) (by omega) h6;have hm':a5d l ((rows.length:Nat):Int):=by rw[k2];exact hl
 have hu:=c8y l hN rfl hl.2.2.2 hd;have hbe:((b.1,b.2.1,()):a1p)=b:=rfl;unfold b9s;rw[if_pos ⟨hfr,hch⟩];simp only[hs,oB];rw[if_pos ⟨hQ',hm'⟩,hu];simp only[oB,hbe];rw[if_pos ⟨h1,h2,h3,h4,h5,h6,h7⟩]
end Go.Ab
namespace Go.Ab
open IntKind(wrap)
def c2U:a8n:=(0,0,(0,0,0,()),[],[],())
theorem d0v(k:Nat)(hk:k≤62)(y:Int):∃v:Nat,bits .i64 .and y ((2^k-1:Nat):Int)=(v:Int)∧v<2^k:=by
 have hp:2^k≤2^62:=a17 (by omega) hk;have h0:0<2^k:=Nat.pow_pos (by omega);have h:((a16 64 y) &&& (a16 64 ((2^k-1:Nat):Int))).toNat=(a16 64 y).toNat%2^k:=by
  rw[a65];have e:(a16 64 ((2^k-1:Nat):Int)).toNat=2^k-1:=by
   rw[a83];generalize 2^k=p at *;omega
  rw[e,a53]
 have hlt:=a56 (a16 64 y).toNat h0;refine⟨(a16 64 y).toNat%2^k,?_,hlt⟩;show wrap .i64 ((((a16 64 y) &&& (a16 64 ((2^k-1:Nat):Int))).toNat:Nat):Int)=_;rw[h];generalize (a16 64 y).toNat%2^k=z at *;exact a0n (by omega)
end Go.Ab
namespace Go.Ab
open IntKind(wrap)
theorem c2V(c:List (List Int))(n i:Int){r:List Int}(hr:short r):∀(k j:Nat)(s:Int),2≤j→j+k=r.length∨(k=0∧r.length≤j)→∃s',a0h a6N (s,r,(j:Int),c,n,i,())=some (s',c,n,i,())
 |0,j,s,h2,h=>⟨s,a0q (by
   have d:decide ((j:Int)<(r.length:Int))=false:=by simp;omega
   simp only[a6N,d,cF])⟩
 |k+1,j,s,h2,h=>by
  have hj:j<r.length:=by omega
  unfold short at hr;have e1:wrap .i64 ((j:Int)-1)=((j-1:Nat):Int):=by rw[a0n (by omega)];omega
  have e2:wrap .i64 ((j:Int)-2)=((j-2:Nat):Int):=by rw[a0n (by omega)];omega
  have g1:=a0c (l:=r) (i:=j-1) (by omega);have g2:=a0c (l:=r) (i:=j-2) (by omega);obtain⟨s',hs'⟩:=c2V c n i hr k (j+1) (wrap .i64 (s+a2m (wrap .i64 (wrap .i64 (r[j]-wrap .i64 (2*r[j-1]))+r[j-2])) (wrap .i64 (0-wrap .i64 (wrap .i64 (r[j]-wrap .i64 (2*r[j-1]))+r[j-2]))))) (by omega) (by omega);refine⟨s',?_⟩;rw[←hs'];exact a0x (by simp only[a6N,dlt hj,cT,a0c hj,oB,e1,e2,g1,g2,a0f (show j<1000000 by omega)])
theorem c4K{c:List (List Int)}{n:Nat}(h:a3S c n)(hn:n≤4096)(hl:c.length<1000):∃w,a7l c=some w:=by
 unfold a7l;simp only[c3P,oB]
 by_cases hq:a2X c
 rotate_left;exact⟨0,by simp only[hq,decide_false,a06,cT]⟩;simp only[hq,decide_true,bT,cF];have loop:∀(k i:Nat)(s:Int),i+k=c.length→∃s',a0h a6O (s,c,(c.length:Int),(i:Int),())=some (s',()):=by
  intro k
  induction k with
  |zero=>
   intro i s hi;obtain rfl:i=c.length:=by omega
   exact⟨s,a0q (by simp only[a6O,dge,cF])⟩
  |succ k ih=>
   intro i s hi;have hlt:i<c.length:=by omega
   have hr:=(h _ (a03 hlt)).1;obtain⟨s1,h1⟩:=c2V c (c.length:Int) (i:Int) (r:=c[i]) (by unfold short;omega) (c[i].length-2) 2 s (a34 _) (by omega);obtain⟨s2,h2⟩:=ih (i+1) s1 (by omega);refine⟨s2,?_⟩;rw[←h2];rw[show((2:Nat):Int)=2 from rfl]at h1;exact a0x (by simp only[a6O,dlt hlt,cT,a0c hlt,oB,h1,a0f (show i<1000000 by omega)])
 obtain⟨s',hs'⟩:=loop c.length 0 0 (by omega);rw[show((0:Nat):Int)=0 from rfl]at hs';rw[hs'];exact⟨s',rfl⟩
def a4Y(m:Nat):List a1e:=match m with
 | 1=>[(0,1,-256,())]
 | 2=>[(1,0,-256,())]
 | 3=>[(1,0,-256,()),(0,1,128,())]
 | 4=>[(1,0,-106,()),(0,1,181,()),(1,0,-106,())]
 |_=>[]
theorem c1t{m:Nat}(h:m≤4):b0E (m:Int)=some (a4Y m):=by
 match m,h with
 |0,_=>rfl
 | 1,_=>rfl
 | 2,_=>rfl
 | 3,_=>rfl
 | 4,_=>rfl
theorem c4L{m:Nat}(h:m≤4):a5d (a4Y m) 2:=by
 match m,h with
 |0,_=>decide
 | 1,_=>decide
 | 2,_=>decide
 | 3,_=>decide
 | 4,_=>decide
theorem b5j{p:List (List Int)}{n:Nat}(hp:a3S p n)(h2:p.length=2)(hq:a2X p)(hn:n≤4096):∀(k m best:Nat)(least:Int),m+k=5→best≤4→(doO (a4Y best) p).isSome=true→
  ∃best',a0h a6n (p,(best:Int),least,(m:Int),())=some (((best':Nat):Int),())∧best'≤4∧(doO (a4Y best') p).isSome=true
 |0,m,best,least,hm,hb,hd=>by
  obtain rfl:m=5:=by omega
  exact⟨best,a0q rfl,hb,hd⟩
 |k+1,m,best,least,hm,hb,hd=>by
  have d:decide ((m:Int)<5)=true:=by simp;omega
  have hw:wrap .i64 ((m:Int)+1)=((m+1:Nat):Int):=a0f (by omega);have hmay:a5d (a4Y m) (p.length:Int):=by rw[h2];exact c4L (by omega)
  cases hdo:doO (a4Y m) p with
  |none=>
   have b1:((6:Int) != 0)=true:=rfl;rw[a0x (s':=(p,(best:Int),least,((m+1:Nat):Int),())) (by
    simp only[a6n,d,cT,c1t (show m≤4 by omega),oB,c5t,if_pos (show a2X p∧a5d (a4Y m) (p.length:Int)from⟨hq,hmay⟩),hdo,c1r,b1,hw])]
   exact b5j hp h2 hq hn k (m+1) best least (by omega) hb hd
  |some r=>
   have b0:((0:Int) != 0)=false:=rfl;obtain⟨k1,k2⟩:=b3z (a4Y m) hp rfl hmay.2.2.2 hdo
   obtain⟨w,hwt⟩:=c4K k1 hn (by omega);have step:a6n (p,(best:Int),least,(m:Int),())=bif decide (w<least)then some (.inl (p,(m:Int),w,((m+1:Nat):Int),()))else some (.inl (p,(best:Int),least,((m+1:Nat):Int),())):=by
    simp only[a6n,d,cT,c1t (show m≤4 by omega),oB,c5t,if_pos (show a2X p∧a5d (a4Y m) (p.length:Int)from⟨hq,hmay⟩),hdo,c1r,b0,cF,hwt,hw]
   cases hlt:decide (w<least)with
   |true=>
    rw[hlt]at step;rw[a0x step];exact b5j hp h2 hq hn k (m+1) m w (by omega) (by omega) (by rw[hdo];rfl)
   |false=>
    rw[hlt]at step;rw[a0x step];exact b5j hp h2 hq hn k (m+1) best least (by omega) hb hd
theorem d4x{p:List (List Int)}{n:Nat}(hp:a3S p n)(h2:p.length=2)(hn:n≤4096):∃m,m≤4∧b1T p=some (a4Y m)∧(doO (a4Y m) p).isSome=true:=by
 have hq:=c1q hp (by omega) (by omega) hn;obtain⟨w,hw⟩:=c4K hp hn (by omega);obtain⟨m,h1,h2',h3⟩:=b5j hp h2 hq hn 4 1 0 w rfl (by omega) rfl;refine⟨m,h2',?_,h3⟩;unfold b1T;simp only[hw,oB]
 erw[h1]
 simp only[oB,c1t h2']
end Go.Ab
namespace Go.Ab
open IntKind(wrap)
def b0P(i:Nat)(s:a1e):a1e:=(s.1+(i:Int),s.2.1+(i:Int),s.2.2.1,())
theorem d2T{i N:Nat}(h:i+2≤N){s:a1e}(hs:a2W 2 s=true):a2W (N:Int) (b0P i s)=true:=by
 obtain⟨a1,a2,a3,a4,a5,a6,a7⟩:=a6B.1 hs;exact a6B.2 ⟨by show 0≤s.1+(i:Int);omega,by show s.1+(i:Int)<(N:Int);omega,by show 0≤s.2.1+(i:Int);omega,by show s.2.1+(i:Int)<(N:Int);omega,by show s.1+(i:Int)≠s.2.1+(i:Int);omega,a6,a7⟩
def c5u(i:Nat)(c c' p:List (List Int)):Prop:=c'.length=c.length∧p.length=2∧c'.getD i []=p.getD 0 []∧c'.getD (i+1) []=p.getD 1 []∧∀j,j≠i→j≠i+1→c'.getD j []=c.getD j []
theorem d0w{i:Nat}{c0 c p p':List (List Int)}(hi:i+2≤c0.length)(h:c5u i c0 c p){s:a1e}(hs:a2W 2 s=true)(hst:a4b 1 s p=some p'):∃c',a4b 1 (b0P i s) c=some c'∧c5u i c0 c' p':=by
 obtain⟨h1,h2,h3,h4,h5⟩:=h;obtain⟨a1,a2,a3,a4,a5,a6,a7⟩:=a6B.1 hs;unfold a4b at hst⊢;simp only at hst⊢;have key:∀x:Int,0≤x→x<2→c.getD (x+(i:Int)).toNat []=p.getD x.toNat []:=fun x hx hx2=>by
  have:x=0∨x=1:=by omega
  rcases this with rfl|rfl;rw[show((0:Int)+(i:Int)).toNat=i from by omega];exact h3;rw[show((1:Int)+(i:Int)).toNat=i+1 from by omega];exact h4
 have e1:=key s.1 a1 a2;have e2:=key s.2.1 a3 a4;simp only[b0P];have hr:a9L 1 s.2.2.1 (c.getD (s.1+(i:Int)).toNat []) (c.getD (s.2.1+(i:Int)).toNat [])=a9L 1 s.2.2.1 (p.getD s.1.toNat []) (p.getD s.2.1.toNat []):=by rw[e1,e2]
 simp only[hr]
 split at hst
 rename_i hA;cases hst;rw[if_pos hA];generalize a9L 1 s.2.2.1 (p.getD s.1.toNat []) (p.getD s.2.1.toNat [])=r at *;refine⟨_,rfl,by simp[h1],by simp[h2],?_,?_,fun j hj hj1=>?_⟩
 have:s.2.1=0∨s.2.1=1:=by omega
 rcases this with e|e;rw[e,show((0:Int)+(i:Int)).toNat=i from by omega,a7D _ (by omega),show(0:Int).toNat=0 from rfl,a7D _ (by omega)];rw[e,show((1:Int)+(i:Int)).toNat=i+1 from by omega,a5R _ (by omega),show(1:Int).toNat=1 from rfl,a5R _ (by omega)];exact h3
 have:s.2.1=0∨s.2.1=1:=by omega
 rcases this with e|e;rw[e,show((0:Int)+(i:Int)).toNat=i from by omega,a5R _ (by omega),show(0:Int).toNat=0 from rfl,a5R _ (by omega)];exact h4;rw[e,show((1:Int)+(i:Int)).toNat=i+1 from by omega,a7D _ (by omega),show(1:Int).toNat=1 from rfl,a7D _ (by omega)];rw[a5R _ (by omega)];exact h5 j hj hj1;cases hst
theorem c7g{i:Nat}{c0:List (List Int)}(hi:i+2≤c0.length):∀(l:List a1e){c p p':List (List Int)},l.all (a2W 2)=true→c5u i c0 c p→doO l p=some p'→∃c',doO (l.map (b0P i)) c=some c'∧c5u i c0 c' p'
 | [],c,p,p',_,h,hd=>by cases hd;exact⟨c,rfl,h⟩
 |s::l,c,p,p',hl,h,hd=>by
  simp only[a09,bA]at hl;simp only[doO,a22]at hd;obtain⟨q,g1,g2⟩:=hd;obtain⟨d,k1,k2⟩:=d0w hi h hl.1 g1;obtain⟨c',j1,j2⟩:=c7g hi l hl.2 k2 g2;exact⟨c',by simp only[a45,doO,k1,oB];exact j1,j2⟩
theorem c8A:∀(l m:List a1e)(c:List (List Int)),doO (l++m) c=(doO l c).bind (doO m)
 | [],m,c=>rfl
 |s::l,m,c=>by
  simp only[a66,doO];cases a4b 1 s c with
  |none=>rfl
  |some d=>exact c8A l m d
theorem c7h{α β:Type}(f:α→β):∀l:List α,l.flatMap (fun x=>[f x])=l.map f
 | []=>rfl
 |x::l=>by simp[c7h f l]
theorem c7Z(b:a1p)(first:Nat)(hf:first≤100){y:List a1e}(hy:y.all (a2W 2)=true)(h3:y.length≤10)(out:List a1e)(ho:out.length≤1000):
  a0h a6o ((first:Int),(y.length:Int),(0:Int),out,y,b,())=some ((first:Int),out++y.map (b0P first),b,()):=by
 have:=a3t (f:=a6o) (β:=Int×(List a1e×(a1p×Unit))) y (fun i (a:List a1e)=>((first:Int),(y.length:Int),(i:Int),a,y,b,())) (fun a x=>.inl (a++[b0P first x])) (fun i a=>a.length=out.length+i) (fun a=>((first:Int),a,b,()))
  (fun i hi a ha=>⟨fun a' ha'=>by
   simp only[Sum.inl.injEq]at ha';subst ha';obtain⟨a1,a2,a3,a4,a5,a6,a7⟩:=a6B.1 (lA.1 hy _ (a03 hi));have d0:decide ((0:Int)≤(i:Int))=true:=by simp
   have hg:a86 y (a24 (i:Int)) ((0:Int),(0:Int),(0:Int),())=y[i]:=by rw[tN,lD,lG hi];rfl
   refine⟨?_,by simp[ha];omega⟩;simp only[a6o,dlt hi,cT,d0,a02,a9g (show a.length+1<2147483648 by omega),hg,a0f (show i<1000000 by omega),a32];rw[a0n (n:=y[i].1+(first:Int)) (by omega),a0n (n:=y[i].2.1+(first:Int)) (by omega)]
   rfl,fun b hb=>by cases hb⟩)
  (fun a ha=>by simp only[a6o,dge,cF]) (a:=out) (by simp)
 rw[b7v (fun x:a1e=>[b0P first x])]at this
 simp only[nZ]at this;rw[this];simp only[a9K,c7h]
theorem d6M{c:List (List Int)}{i:Nat}(h:i+2≤c.length):a98 i (a99 (i+2) c)=[c.getD i [],c.getD (i+1) []]:=by
 apply a63;intro j;rw[a60]
 match j with
 |0=>rw[a37,if_pos (by omega),a41,lD,lG (by omega)];rfl
 | 1=>rw[a37,if_pos (by omega),lD,lD,lG (by omega)];rfl
 |j+2=>rw[a37,if_neg (by omega)];rfl
theorem c2W{b:a1p}{n:Nat}(hN:a3S b.2.1 n)(hn:n≤4096)(h8:b.2.1.length≤8):∀(k j:Nat)(out:List a1e)(c:List (List Int)),j+k=5→out.length≤3*j→out.all (a2W (b.2.1.length:Int))=true→doO out b.2.1=some c→(∀i,2*j≤i→c.getD i []=b.2.1.getD i [])→3*j≤12∨b.2.1.length≤2*j→
  ∃l c',a0h a8J (((2*j:Nat):Int),out,b,())=some (l,())∧l.length≤16∧l.all (a2W (b.2.1.length:Int))=true∧doO l b.2.1=some c'
 |k,j,out,c,hk,hol,hob,hdo,hag,h12=>by
  have hw1:wrap .i64 (((2*j:Nat):Int)+1)=((2*j+1:Nat):Int):=by rw[a0n (by omega)];omega
  by_cases hlt:2*j+1<b.2.1.length
  ·cases k with
   |zero=>omega
   |succ k=>
    have hw2:wrap .i64 (((2*j:Nat):Int)+2)=((2*j+2:Nat):Int):=by rw[a0n (by omega)];omega
    have hp:a3S [b.2.1.getD (2*j) [],b.2.1.getD (2*j+1) []] n:=fun r hr=>by
     simp only[mC,a68,or_false]at hr;rcases hr with rfl|rfl;exact a6C hN (by omega);exact a6C hN (by omega)
    obtain⟨m,m1,m2,m3⟩:=d4x hp rfl hn;obtain⟨p',hp'⟩:=Option.isSome_iff_exists.1 m3;have hmay:=(c4L m1).2.2.2;have hnl:(a4Y m).length≤3:=by
     match m,m1 with
     |0,_=>decide
     | 1,_=>decide
     | 2,_=>decide
     | 3,_=>decide
     | 4,_=>decide
    have hcl:c.length=b.2.1.length:=(b3z out hN rfl hob hdo).2;obtain⟨c',g1,g2,g3,g4,g5,g6⟩:=c7g (i:=2*j) (c0:=c) (by omega) (a4Y m) hmay ⟨rfl,rfl,hag _ (a34 _),hag _ (by omega),fun _ _ _=>rfl⟩ hp';have hin:=c7Z b (2*j) (by omega) hmay (by omega) out (by omega);have d1:decide (((2*j+1:Nat):Int)<((b.2.1.length:Nat):Int))=true:=by simp only[dT];omega
    have d2:decide ((0:Int)≤((2*j+2:Nat):Int))=true:=by simp only[dT];omega
    have d3:decide (((2*j+2:Nat):Int)≤((b.2.1.length:Nat):Int))=true:=by simp only[dT];omega
    have d4:decide ((0:Int)≤((2*j:Nat):Int))=true:=by simp only[dT];omega
    have d5:decide (((2*j:Nat):Int)≤((2*j+2:Nat):Int))=true:=by simp only[dT];omega
    rw[a0x (s':=(((2*(j+1):Nat):Int),out++(a4Y m).map (b0P (2*j)),b,())) (by
     simp only[a8J,hw1,d1,cT,hw2,d2,d3,a02,tN,d4,d5];rw[d6M (by omega),m2];simp only[oB];rw[hin];simp only[oB,hw2];rfl)]
    refine c2W hN hn h8 k (j+1) (out++(a4Y m).map (b0P (2*j))) c' (by omega) (by simp;omega) ?_ (by rw[c8A,hdo];exact g1) (fun i hi=>by rw[g6 i (by omega) (by omega)];exact hag i (by omega)) (by omega);rw[List.all_append,hob,a18,lA];intro s hs;obtain⟨t,ht,rfl⟩:=a55.1 hs;exact d2T (by omega) (lA.1 hmay t ht)
  refine⟨out,c,a0q ?_,by omega,hob,hdo⟩;have d1:decide (((2*j+1:Nat):Int)<((b.2.1.length:Nat):Int))=false:=by simp only[decide_eq_false_iff_not];omega
  simp only[a8J,hw1,d1,cF]
termination_by k=>k
theorem c7i{b:a1p}(hb:a4X b):∃l c',a7A b=some l∧a5d l (b.2.1.length:Int)∧doO l b.2.1=some c':=by
 obtain⟨hN,-⟩:=b4A hb;have h8:=hb.2.2.2.1;obtain⟨l,c',h1,h2,h3,h4⟩:=c2W hN hb.2.2.2.2.2.1 h8 5 0 [] b.2.1 rfl (by simp) rfl rfl (fun _ _=>rfl) (by omega);refine⟨l,c',?_,⟨by have:=hb.2.2.1;omega,by omega,h2,h3⟩,h4⟩;unfold a7A;simp only[b0O,decide_eq_true hb,oB,bT,cF];rw[show((2*0:Nat):Int)=0 from rfl]at h1;rw[h1];rfl
end Go.Ab
namespace Go.Ab
open IntKind(wrap)
theorem d2U{r:List Int}{n:Nat}(hr:r.length=n∧r.all a0b=true)(h1:1≤n)(h2:n≤256){k:Int}(h0:0≤k)(h3:k≤3):
  ∃s,a5G (r,k)=some (s,0)∧SmallS s∧a3K s (n:Int)=some r∧a5b s (n:Int)≤((13+a0u r*n:Nat):Int):=by
 obtain⟨hl,hw⟩:=hr;have hd:=a6R (l:=r) (by omega) hw;obtain⟨s,k1,k2,k3,-,-,k6,-⟩:=d0t (l:=r) (by omega) (by omega) hw (d5l (by have:=hd.1;omega)) h0 h3;exact⟨s,k1,k2,by rw[hl]at k3;exact k3,by rw[hl]at k6;exact k6⟩
theorem c2X{effort:Int}(h0:0≤effort)(h3:effort≤3){rows:List (List Int)}{n:Nat}(hN:a3S rows n)(h1:1≤n)(h2:n≤256)(h8:rows.length≤8)(f:a8n):∀(rest d:List (List Int)) (done:List Sub),d++rest=rows→done.length=d.length→
  ∃outs,a0h a5H (effort,rows,(rows.length:Int),(d.length:Int),c2U,c2R f done,())=some (.inl (c2U,c2R f (done++outs),()))∧a8S (fun s=>a3K s (n:Int)) outs=some rest∧(∀s∈outs,SmallS s)∧a8S (fun r=>a5G (r,effort)) rest=some (outs.map fun s=>(s,0))
 | [],d,done,hd,hdl=>by
  have e:d=rows:=by simpa using hd
  subst e;refine⟨[],?_,rfl,by simp,rfl⟩;rw[a25];exact a0q (by simp only[a5H,dge,cF])
 |r::rest,d,done,hd,hdl=>by
  have hlt:d.length<rows.length:=by rw[←hd];simp
  have hg:a0m rows (d.length:Int)=some r:=by rw[a0c hlt];subst hd;simp
  obtain⟨s,b1,b2,b3,-⟩:=d2U (hN r (by rw[←hd];simp)) h1 h2 h0 h3;have z0:((0:Int) != 0)=false:=rfl;have step:a5H (effort,rows,(rows.length:Int),(d.length:Int),c2U,c2R f done,())=some (.inl (effort,rows,(rows.length:Int),(((d++[r]).length:Nat):Int),c2U,c2R f (done++[s]),())):=by
   simp only[a5H,dlt hlt,cT,hg,oB,b1,z0,cF];rw[show(c2R f done).2.2.2.2.1=done from rfl,a9g (show done.length+1<2147483648 by omega),cT,a0f (show d.length<1000000 by omega)];rw[show(((d++[r]).length:Nat):Int)=((d.length+1:Nat):Int)from by simp];rfl
  rw[a0x step];obtain⟨outs,k1,k2,k3,k4⟩:=c2X h0 h3 hN h1 h2 h8 f rest (d++[r]) (done++[s]) (by simpa using hd) (by simp[hdl]);refine⟨s::outs,?_,?_,fun t ht=>?_,?_⟩;rw[k1];simp;simp only[a8S,b3,k2,oB];rcases mC.1 ht with rfl|ht;exact b2;exact k3 t ht;simp only[a8S,b1,k4,oB,a45]
theorem d0x{b:a1p}(hb:a4X b)(h256:a0E b≤256){rate start effort:Int}(hr:1≤rate∧rate≤1048576)(hst:0≤start∧start≤4194304-((a0E b:Nat):Int))(h0:0≤effort)(h3:effort≤3):
  ∃l rows outs,a4T (b,(rate,((b.2.1.length:Nat):Int),b.1,()),start,effort)=some ((start,((a0E b:Nat):Int),(rate,((b.2.1.length:Nat):Int),b.1,()),l,outs,()),0)∧
   a5d l (b.2.1.length:Int)∧doO l b.2.1=some rows∧a8S (fun s=>a3K s ((a0E b:Nat):Int)) outs=some rows∧(∀s∈outs,SmallS s)∧a8S (fun r=>a5G (r,effort)) rows=some (outs.map fun s=>(s,0))∧
   (effort=0→l=[])∧(0<effort→a7A b=some l):=by
 obtain⟨hN,hQ⟩:=b4A hb;have hb':=hb;obtain⟨g1,g2,g3,g4,g5,g6,-⟩:=hb';have hfm:c1p (rate,((b.2.1.length:Nat):Int),b.1,()):=⟨hr.1,hr.2,by show(1:Int)≤((b.2.1.length:Nat):Int);omega,by show((b.2.1.length:Nat):Int)≤8;omega,g1,g2⟩;have lifts:∃l rows,a5d l (b.2.1.length:Int)∧doO l b.2.1=some rows∧(effort=0→l=[])∧(0<effort→a7A b=some l):=by
  by_cases he:effort=0
  exact⟨[],b.2.1,⟨by omega,by omega,by simp,rfl⟩,rfl,fun _=>rfl,fun h=>by omega⟩;obtain⟨l,c,k1,k2,k3⟩:=c7i hb;exact⟨l,c,k2,k3,fun h=>absurd h he,fun _=>k1⟩
 obtain⟨l,rows,hm,hd,hl0,hl1⟩:=lifts;obtain⟨k1,k2⟩:=b3z l hN rfl hm.2.2.2 hd;obtain⟨outs,j1,j2,j3,j4⟩:=c2X h0 h3 k1 (by omega) h256 (by omega) (start,((a0E b:Nat):Int),(rate,((b.2.1.length:Nat):Int),b.1,()),l,([]:List Sub),()) rows [] [] rfl rfl;refine⟨l,rows,outs,?_,hm,hd,j2,j3,j4,hl0,hl1⟩;have e1:(b.1 != b.1)=false:=bne_self_eq_false _;have e2:(((b.2.1.length:Nat):Int) != ((b.2.1.length:Nat):Int))=false:=bne_self_eq_false _;have d1:decide (effort<0)=false:=by simp only[decide_eq_false_iff_not];omega
 have d2:decide (effort > 3)=false:=by simp only[decide_eq_false_iff_not];omega
 have d3:decide (start<0)=false:=by simp only[decide_eq_false_iff_not];omega
 have d4:decide (start > wrap .i64 (4194304-((a0E b:Nat):Int)))=false:=by rw[a0n (by omega)];simp only[decide_eq_false_iff_not];omega
 have z0:((0:Int) != 0)=false:=rfl;unfold a4T;simp only[b0O,decide_eq_true hb,oB,bT,cF,b6F,decide_eq_true hfm,e1,e2,d1,d2,d3,a4W,d4];cases he:decide (effort > 0)with
 |true=>
  have:=hl1 (by simpa using he)
  simp only[cT,this,oB,c5t,if_pos (show a2X b.2.1∧a5d l (b.2.1.length:Int)from⟨hQ,hm⟩),hd,c1r,z0,cF]
  erw[j1]
  rfl
 |false=>
  have:=hl0 (by simp only[decide_eq_false_iff_not]at he;omega)
  subst this;simp only[cF,oB,c5t,if_pos (show a2X b.2.1∧a5d ([]:List a1e) (b.2.1.length:Int)from⟨hQ,hm⟩),hd,c1r,z0]
  erw[j1]
  rfl
end Go.Ab
namespace Go.Ab
theorem made{b:a1p}(hb:a4X b)(h256:a0E b≤256){rate start effort:Int}(hr:1≤rate∧rate≤1048576)(hst:0≤start∧start≤4194304-((a0E b:Nat):Int))(h0:0≤effort)(h3:effort≤3):
  ∃g:Int×(a1e×(List a1e×(List Sub×Unit))),a4T (b,(rate,((b.2.1.length:Nat):Int),b.1,()),start,effort)=some ((start,g),0)∧g.1=((a0E b:Nat):Int)∧g.2.1=(rate,((b.2.1.length:Nat):Int),b.1,())∧
   g.2.2.1.length≤16∧g.2.2.2.1.length≤8∧(∀s∈g.2.2.2.1,SmallS s)∧∀start',0≤start'∧start'≤4194304-((a0E b:Nat):Int)→b9s (start',g)=some b:=by
 obtain⟨l,rows,outs,h1,h2,h4,h5,h6,-⟩:=d0x hb h256 hr hst h0 h3;obtain⟨hN,-⟩:=b4A hb;have hl:=c1s h5;have hl2:=(b3z l hN rfl h2.2.2.2 h4).2;exact⟨_,h1,rfl,rfl,h2.2.2.1,by have:=hb.2.2.2.1;show outs.length≤8;omega,h6,fun start' hs=>d0u hb h2 h4 h5 hs hr⟩
end Go.Ab
namespace Go.Ab
open IntKind(wrap)
def c1u(f t:Nat)(r:List Int):List Int:=a98 f (a99 t r)
def b4B(b:a1p)(f t:Nat):a1p:=(b.1,b.2.1.map (c1u f t),())
theorem d5o{b:a1p}(hb:a4X b){f t:Nat}(h1:f<t)(h2:t≤a0E b):a9f (b,(f:Int),(t:Int),())=some (b4B b f t,0):=by
 obtain⟨hN,-⟩:=b4A hb;have d1:decide ((f:Int)<0)=false:=by simp only[decide_eq_false_iff_not];omega
 have d2:decide ((f:Int)≥(t:Int))=false:=by simp only[decide_eq_false_iff_not];omega
 have d3:decide ((t:Int) > ((a0E b:Nat):Int))=false:=by simp only[decide_eq_false_iff_not];omega
 have hl:=hb.2.2.2.2.2.1;have loop:=a3t (f:=a8L) (β:=a1p×(a1p×Unit)) b.2.1 (fun i (a:List (List Int))=>(b.2.1,((b.2.1.length:Nat):Int),(i:Int),((0:Int),([]:List (List Int)),()),(b.1,a,()),((f:Int),(t:Int),()),())) (fun a x=>.inl (a++[c1u f t x])) (fun i a=>a.length=i) (fun a=>(((0:Int),([]:List (List Int)),()),(b.1,a,()),()))
  (fun i hi a ha=>⟨fun a' ha'=>by
   simp only[Sum.inl.injEq]at ha';subst ha';have hr:=(hN _ (a03 hi)).1;have e0:decide ((0:Int)≤(t:Int))=true:=by simp
   have e1:decide ((t:Int)≤((b.2.1[i].length:Nat):Int))=true:=by simp only[dT];omega
   have e2:decide ((0:Int)≤(f:Int))=true:=by simp
   have e3:decide ((f:Int)≤(t:Int))=true:=by simp only[dT];omega
   have hb8:=hb.2.2.2.1;refine⟨?_,by simp[ha]⟩;simp only[a8L,dlt hi,cT,a0c hi,oB,tN,e0,e1,e2,e3,a02];rw[b0H (show short (a98 f (a99 t b.2.1[i]))by unfold short;rw[a04,a01];omega)];simp only[oB];rw[a9g (show a.length+1<2147483648 by omega),cT,a0f (show i<1000000 by omega)];rfl,fun b hb=>by cases hb⟩)
  (fun a ha=>by simp only[a8L,dge,cF]) (a:=[]) rfl
 rw[b7v (fun x:List Int=>[c1u f t x])]at loop;simp only[nZ,a9K,c7h,a20]at loop;unfold a9f;simp only[b0O,decide_eq_true hb,oB,bT,cF,d1,d2,a4W,d3]
 erw[loop]
 rfl
theorem c8B{b:a1p}(hb:a4X b){f t:Nat}(h1:f<t)(h2:t≤a0E b):a0E (b4B b f t)=t-f:=by
 unfold a0E b4B;have h3:=hb.2.2.1;have hc:0<b.2.1.length:=by omega
 have hd:a0E b=(b.2.1[0]).length:=by unfold a0E;rw[a8o (d:=[]) hc]
 rw[←a8o (d:=[]) (show 0<(b.2.1.map (c1u f t)).length by simpa using hc)];simp only[List.getElem_map,c1u,a04,a01];omega
theorem d5p{b:a1p}(hb:a4X b){f t:Nat}(h1:f<t)(h2:t≤a0E b):a4X (b4B b f t):=by
 have hl:=c8B hb h1 h2;obtain⟨g1,g2,g3,g4,g5,g6,g7⟩:=hb;refine⟨g1,g2,by simpa[b4B]using g3,by simpa[b4B]using g4,by omega,by omega,lA.2 fun r hr=>?_⟩;obtain⟨r0,hr0,rfl⟩:=a55.1 hr
 have:=lA.1 g7 r0 hr0
 simp only[bA,dT]at this;simp only[bA,dT];refine⟨by rw[hl];simp only[c1u,a04,a01];omega,lA.2 fun x hx=>lA.1 this.2 x (a27 (a28 hx))⟩
theorem c5g(x:a1p×(Int×Int×Int)):b0F x=some true:=by
 obtain⟨b,effort,start,to⟩:=x;unfold b0F;simp only[d4w,oB,bT,cF];obtain⟨t1,h1,s1⟩:=d1F b 50;rw[show((50:Nat):Int)=50 from rfl]at h1;simp only[h1,oB];cases t1 with
 |false=>rfl
 |true=>
  obtain⟨s1,s2⟩:=s1 rfl;obtain⟨t2,h2,hb⟩:=c7Y (b:=b) (fun r hr=>by have:=s2 r hr;omega);simp only[bT,cF,h2,oB];cases t2 with
  |false=>rfl
  |true=>
   have hb:=hb rfl;simp only[bT,cF,oB];have hlb:a0E b≤50:=by
    unfold a0E;rw[←a8o (d:=[]) (show 0<b.2.1.length by have:=hb.2.2.1;omega)];exact s2 _ (a03 _)
   have hl1:=hb.2.2.2.2.1;obtain⟨v,hv,hv2⟩:=d0v 16 (by omega) to;obtain⟨u,hu,hu2⟩:=d0v 16 (by omega) start;obtain⟨w,hw,hw2⟩:=d0v 2 (by omega) effort;obtain⟨w',hw',hw2'⟩:=d0v 2 (by omega) (a0A .i64 effort 2);rw[show((2^16-1:Nat):Int)=65535 from rfl]at hv hu;rw[show((2^2-1:Nat):Int)=3 from rfl]at hw hw';have hw3:w<4:=hw2;have hw3':w'<4:=hw2';have n0:(((a0E b:Nat):Int)==0)=false:=by simp;omega
   have e1:a81 (u:Int) ((a0E b:Nat):Int)=((u%a0E b:Nat):Int):=rfl;have hum:u%a0E b<a0E b:=a56 _ (by omega);have e2:wrap .i64 (((a0E b:Nat):Int)-((u%a0E b:Nat):Int))=((a0E b-u%a0E b:Nat):Int):=by rw[a0n (by omega)];omega
   have n1:((((a0E b-u%a0E b:Nat):Int))==0)=false:=by simp;omega
   have e3:a81 (v:Int) ((a0E b-u%a0E b:Nat):Int)=((v%(a0E b-u%a0E b):Nat):Int):=rfl;have hvm:v%(a0E b-u%a0E b)<a0E b-u%a0E b:=a56 _ (by omega);have e4:wrap .i64 (wrap .i64 (((u%a0E b:Nat):Int)+1)+((v%(a0E b-u%a0E b):Nat):Int))=((u%a0E b+1+v%(a0E b-u%a0E b):Nat):Int):=by
    rw[a0n (n:=((u%a0E b:Nat):Int)+1) (by omega),a0n (by omega)];omega
   generalize hf:u%a0E b=f at *;generalize ht:f+1+v%(a0E b-f)=t at *;have hft:f<t:=by omega
   have htl:t≤a0E b:=by omega
   have hcut:=d5o hb hft htl;have hcb:=d5p hb hft htl;have hcl:=c8B hb hft htl;obtain⟨g,m1,m2,m3,m4,m5,m6,m7⟩:=made hcb (by omega) (rate:=44100) (start:=0) (effort:=(w:Int)) (by omega) (by omega) (by omega) (by omega);obtain⟨g',m1',m2',m3',m4',m5',m6',m7'⟩:=made hb (by omega) (rate:=44100) (start:=0) (effort:=(w':Int)) (by omega) (by omega) (by omega) (by omega);have hk:=c7f (f:=((0:Int),g)) m6;have hk':=c7f (f:=((0:Int),g')) m6';rw[m7 0 (by omega)]at hk;rw[m7' 0 (by omega)]at hk';have hsb:=c3Q (b:=b4B b f t) (fun r hr=>by
    obtain⟨r0,hr0,rfl⟩:=a55.1 hr
    have:=s2 r0 hr0
    unfold short c1u;rw[a04,a01];omega) (by simp[b4B];omega)
   have hcc:((b4B b f t).2.1.length:Nat)=b.2.1.length:=by simp[b4B]
   rw[hcc]at m1;have hc1:(b4B b f t).1=b.1:=rfl;rw[hc1]at m1;simp only[a4W,oB,n0,cF,hu,e1,hf,e2,n1,hv,e3,e4,hw,hw'];rw[hcut];simp only[oB,m1,m1',hk,hk',d5m,hcut,beq_self_eq_true,cT,hsb]
end Go.Ab
namespace Go.Proofs.YtimgpmdfgkgobaaGreatDoor
open Go.Ab Go.ChangeShapes Go.WideShapes Go.ChangeAt Go.RowKit
theorem b9u{α:Type}{f:Nat→Option (α×a0U×List Nat)}:∀(L:List α)(i:Nat),(∀(j:Nat) x,L[j]?=some x→f (i+j)=some (x,[],[]))→a0d f L.length i=some (L,[],[])
 | [],_,_=>rfl
 |a::L,i,h=>by
  have h0:=h 0 a rfl;have h1:=b9u L (i+1) (fun j x hx=>by have:=h (j+1) x (by simpa using hx);rw[←this];congr 1;omega);simp only[lC,a0d];simp only[a41]at h0;rw[h0,h1];rfl
section
variable {H:Type} {enc:TypeId×Value→H} {P:Program} {w:World} {base:Nat} {spare:Nat→Bool} {held:Bool}
theorem c5h{k:IntKind}{n:Nat}{t e:TypeId}{fuel:Nat}{cs:List Value}{L:List Int}{p:List MemPlace}(ht:P.underlying t=some (.array n e))(he:P.underlying e=some (.int k))(hc:P.cellsOf e=1)
  (h:DataW.trod enc P w base spare held fuel t cs=some (.agg (L.map fun i=>.lit (.int k i)),p)):L.length=n∧∀(j:Nat) x,L[j]?=some x→cs[j]?=some (.int k x):=by
 obtain⟨xs,m,rfl,hx,-,hn,hel⟩:=DataW.trod_array ht h;simp only[pJ,DataW.agg.injEq]at hx;have hl:L.length=n:=by rw[←hn];simpa using congrArg List.length hx.1
 refine⟨hl,fun j x hj=>?_⟩;obtain⟨hjl,-⟩:=lS.1 hj;have h1:=hel j (by omega);rw[hc]at h1;obtain⟨y,hy⟩:∃y,xs[j]?=some y:=⟨_,lG (by omega)⟩;rw[hy]at h1;obtain⟨i,e1,e2,-⟩:=DataW.trod_int he h1;have h2:=congrArg (fun l=>l[j]?) hx.1;simp only[List.getElem?_map,hj,hy,Option.map_some,e2]at h2;simp only[sj,DataW.lit.injEq,Lit.int.injEq,true_and]at h2;subst h2;have h3:=congrArg (fun l=>l[0]?) e1;simpa[a60,a37]using h3
end
def c8C : String := (Rows.frameTellsRow.laid.map Prod.fst).headD ""
theorem d9Q:Tryz.prog.globalNamed c8C=some 0:=by kernel_rfl
def d2V:TypeId:=((Tryz.prog.globals[0]?).map (·.type)).getD 0
theorem d4y:(Tryz.prog.globals[0]?).map (·.type)=some d2V:=by kernel_rfl
def d2W:TypeId:=match Tryz.prog.underlying d2V with
 |some (.array _ e)=>e
 |_=>0
theorem d9R:Tryz.prog.underlying d2V=some (.array 64 d2W):=by kernel_rfl
theorem d6N:Tryz.prog.underlying d2W=some (.int .u8):=by kernel_rfl
theorem d6O:Tryz.prog.cellsOf d2W=1:=by kernel_rfl
@[reducible] def laidTab:List (String×DataW Unit):=[(c8C,Rows.laid_math_bits_deBruijn64tab)]

theorem d5q {g:Nat} {t:Ty} {x:t.den} (h:G0 g=some ⟨t,x⟩):g=0∧(⟨t,x⟩:(t:Ty)×t.den)=⟨.arr 64 (.int .u8),b1F⟩:=by
 unfold G0 find at h
 cases g with
 |zero=>exact⟨rfl,(Option.some.inj h).symm⟩
 |succ n=>exact absurd h (by simp[find])
theorem c7j{W:World}(h:laidMetH Tryz.prog laidTab W):∀g t x,G0 g=some ⟨t,x⟩→g<W.heap.size∧dec (a0a W none) t ((Src.at g 0).rd (a0a W none))=some (x,[],[]):=by
 rw[MakeChecks.laidMetH_plain _ _ _ (by kernel_rfl)]at h;obtain⟨ps,⟨g0,t0,cs0,f0,p0,q0,hg0,ht0,hv0,hd0,_⟩,_,_⟩:=h;obtain rfl:=Option.some.inj (d9Q.symm.trans hg0);obtain rfl:=Option.some.inj (d4y.symm.trans ht0);have e0:(Rows.laid_math_bits_deBruijn64tab:DataW Unit)=.agg (b1F.map fun i=>.lit (.int .u8 i)):=rfl;rw[e0]at hd0;obtain⟨hl,hc⟩:=c5h d9R d6N d6O hd0;have hcell:∀(j:Nat) x,b1F[j]?=some x→W.cell? ⟨0,j,none⟩=some (.int .u8 x):=fun j x hx=>by
  rw[World.var?_cell hg0 hv0 j];simpa using hc j x hx
 intro g t x hG;obtain⟨rfl,e⟩:=d5q hG;cases e;refine⟨c8l (hcell 0 0 rfl),?_⟩;exact b9u (f:=fun i=>dec (a0a W none) (.int .u8) fun j=>(Src.at 0 0).rd (a0a W none) (i*1+j)) b1F 0 (fun j x hx=>by
  have:=hcell j x hx
  simp only[dec,Src.rd,a0a,Nat.zero_add,a90,a41,this,if_true])
set_option maxRecDepth 100000 in
theorem d2X (os:Os) (args:Array Value):laidMetH Tryz.prog laidTab ((World.doorLaid Tryz.prog 400 os).forCall (fun _ _=>0) ⟨#[],args,[]⟩).memory:=
 laidMetH_of_parts3 (fuel:=8) (laidMet_of_run' 8 (by kernel_rfl) (by kernel_rfl)) (by kernel_rfl) (by kernel_rfl)
end Go.Proofs.YtimgpmdfgkgobaaGreatDoor
