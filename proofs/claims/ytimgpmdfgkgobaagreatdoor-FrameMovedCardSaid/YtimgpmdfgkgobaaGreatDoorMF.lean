/- Part of the proof: QN. Conditions: as each statement tells. -/
import Derived.KernelRfl
import Derived.Test.YtimgpmdfgkgobaaGreatDoorME
noncomputable section
set_option linter.unusedSimpArgs false
set_option linter.unusedVariables false
open BitVec renaming ofInt→a04,ofInt_natCast→a27,toNat_ofNat→a30,toNat_ofInt→a31,toNat_and→a59,toNat_or→a63
open Bool renaming and_self→a02,or_eq_true→a24,true_and→a32,not_eq_true'→a34,not_false→a38,false_and→a55,or_eq_false_iff→a97,eq_false_iff→b19
open Int renaming eq_ofNat_of_zero_le→a00,cast_ofNat_Int→a17,toNat_of_nonneg→a26,natCast_dvd_natCast→a33,toNat→a35,fdiv_eq_ediv_of_nonneg→a37,tmod→a43,tmod_eq_emod_of_nonneg→a44,tdiv_eq_ediv_of_nonneg→a60,dvd_mul_of_dvd_left→a64,mul_nonneg→a66,tdiv→a68,natCast_mul→a77,natCast_nonneg→a82,mul_fdiv_cancel_left→a83,dvd_add_left→a86,mul_comm→a88,dvd_zero→a89,bmod_add_bmod→b07,emod_eq_of_lt→b09,sub_mul→b21,fdiv→b28,natCast_add→b29
open List renaming replicate→a01,drop_eq_getElem_cons→a03,length_take→a05,nil_append→a06,length_drop→a07,all_cons→a08,getElem_mem→a09,append_eq→a16,drop_zero→a18,length_nil→a19,drop_length→a22,getElem?_append_right→a23,append_nil→a25,take_length→a29,mem_of_mem_take→a40,mem_of_mem_drop→a41,length→a46,length_eq_zero_iff→a48,mem_singleton→a50,sum_cons→a52,singleton_append→a53,length_singleton→a54,map_cons→a61,getElem?_append_left→a62,flatMap_cons→a67,getElem?_set_self→a69,take_succ_eq_append_getElem→a70,not_mem_nil→a71,getElem?_eq_none→a72,getElem?_set_ne→a75,mem_cons_self→a81,cons_append→a85,foldl_cons→a91,take_of_length_le→a92,eq_nil_or_concat→a93,concat_eq_append→a94,mem_cons_of_mem→a96,mem_append_left→a98,mem_replicate→b04,map_nil→b06,take→b18,ext_getElem?→b20,mem_flatMap→b26,take_zero→b30,getD→b31,drop→b32
open Nat renaming pow_le_pow_right→a20,two_pow_pos→a21,mod_eq_of_lt→a28,mul_le_mul_right→a39,le_refl→a42,mod_lt→a45,lt_of_le_of_lt→a49,div_le_self→a51,two_pow_add_eq_or_of_lt→a56,lt_trans→a57,pow_succ→a58,dvd_iff_mod_eq_zero→a65,div_lt_iff_lt_mul→a73,and_two_pow_sub_one_eq_mod→a74,min_eq_left→a76,pow_dvd_pow→a78,mul_comm→a79,testBit_two_pow_mul_add→a80,div_eq_of_lt→a84,add_zero→a87,add_sub_cancel_left→a90,mul_le_mul→a95,mul_assoc→a99,testBit_two_pow→b00,one_le_two_pow→b01,lt_of_lt_of_le→b02,and_one_is_mod→b03,le_of_lt→b05,or_lt_two_pow→b08,add_mod_right→b17,mul_add→b22,mul_one→b23,le_of_not_lt→b24,lt_of_not_le→b25,div_add_mod→b27
open Option renaming map_eq_some_iff→a36,bind_eq_some_iff→a47
namespace Go.Ab
variable {A L P R d ks l part r wm:List Int}{N a b i m o v w:Nat}{c:List (List Int)}{g k n sign warm x:Int}{p:Prt}{s:Sub}{st:List Stg}{zn:List Nat}{α:Type}
open IntKind(wrap)
def a1W(x w:Int):Bool:=decide (1≤w)&&(decide (w≤31)&&(decide (a0z .i64 (-1) (w-1)≤x)&&decide (x≤wrap .i64 (a0z .i64 1 (w-1)-1))))
theorem a7r(hw:w≤32):a4H (x,(w:Int))=some (a1W x w):=by
 unfold a4H a1W b5M b4z
 by_cases h1:1≤(w:Int)
 by_cases h2:(w:Int)≤31
 have g1:decide ((w:Int)<1)=false:=by simp;omega
 have g2:decide ((w:Int) > 31)=false:=by simp;omega
 have e:wrap .i64 ((w:Int)-1)=(w:Int)-1:=a0f (by omega);have g3:decide ((w:Int)-1<0)=false:=by simp;omega
 have h1':decide ((w:Int)≥1)=true:=by simp;omega
 simp only[h1',h1,h2,g1,g2,g3,e,decide_true,cT,cF,oB,a32]
 by_cases h3:a0z .i64 (-1) ((w:Int)-1)≤x<;>simp[h3]
 have h1':decide ((w:Int)≥1)=true:=by simp;omega
 simp only[h1',h1,h2,decide_true,decide_false,cT,cF,a32,a55];have h1':decide ((w:Int)≥1)=false:=by simp;omega
 simp only[h1',h1,decide_false,cF,a55]
theorem c9N(hw:w≤32):b4k (x,(w:Int))=some (a1W x w):=by
 unfold b4k a1W c2I c0P
 by_cases h1:1≤(w:Int)
 by_cases h2:(w:Int)≤31
 have g1:decide ((w:Int)<1)=false:=by simp;omega
 have g2:decide ((w:Int) > 31)=false:=by simp;omega
 have e:wrap .i64 ((w:Int)-1)=(w:Int)-1:=a0f (by omega);have eu:wrap .u64 ((w:Int)-1)=(w:Int)-1:=a0G (by omega);have g3:decide ((w:Int)-1<0)=false:=by simp;omega
 have h1':decide ((w:Int)≥1)=true:=by simp;omega
 simp only[h1',h1,h2,g1,g2,g3,e,eu,decide_true,cT,cF,oB,a32]
 by_cases h3:a0z .i64 (-1) ((w:Int)-1)≤x<;>simp[h3]
 have h1':decide ((w:Int)≥1)=true:=by simp;omega
 simp only[h1',h1,h2,decide_true,decide_false,cT,cF,a32,a55];have h1':decide ((w:Int)≥1)=false:=by simp;omega
 simp only[h1',h1,decide_false,cF,a55]
def a2o(x:Int):Nat→Nat→Nat
 |0,w=>w
 |k+1,w=>bif (x != 0)&&!a1W x w then a2o x k (w+1)else w
theorem c2M(x:Int):∀(k w:Nat),a2o x k w≤w+k
 |0,w=>a42 _
 |k+1,w=>by
  simp only[a2o];cases (x != 0)&&!a1W x w with
  |true=>have:=c2M x k (w+1);simp only[cT];omega
  |false=>simp only[cF];omega
def a0l(l:List Int):Nat:=l.foldl (fun w x=>a2o x (32-w) w) 0
theorem b9G:∀(l:List Int)(w:Nat),w≤32→l.foldl (fun w x=>a2o x (32-w) w) w≤32
 | [],w,h=>h
 |x::l,w,h=>b9G l _ (show a2o x (32-w) w≤32 by have:=c2M x (32-w) w;omega)
theorem a7x(l:List Int):a0l l≤32:=b9G l 0 (by omega)
theorem c6i{x:Int}{l:List Int}{n i:Int}:∀(k w:Nat),w+k=32→a0h a3L ((w:Int),x,l,n,i,())=some (((a2o x k w:Nat):Int),l,n,i,())
 |0,w,h=>by
  obtain rfl:w=32:=by omega
  exact a0o (by cases hx:(x != 0)<;>simp[a3L,hx,a2o])
 |k+1,w,h=>by
  have h1:decide ((w:Int)<32)=true:=by simp;omega
  simp only[a2o];cases hx:(x != 0)with
  |false=>exact a0o (by simp only[a3L,hx,cF,a55])
  |true=>
   cases hf:a1W x w with
   |true=>exact a0o (by simp only[a3L,hx,h1,a7r (show w≤32 by omega),hf,oB,cT,cF,bT,Bool.and_false])
   |false=>
    rw[a0q (s':=(((w+1:Nat):Int),x,l,n,i,())) (by simp only[a3L,hx,h1,a7r (show w≤32 by omega),hf,oB,cT,a38,a0d (show w<1000000 by omega)])];exact c6i k (w+1) (by omega)
theorem a2U(hs:short l):a1H l=some ((a0l l:Nat):Int):=by
 have hs:l.length<1000000:=hs
 have:=a2x (f:=a6P) l (fun i (w:Nat)=>((w:Int),l,(l.length:Int),(i:Int),())) (fun w x=>(.inl (a2o x (32-w) w):Nat ⊕ (Int×Unit))) (fun _ w=>w≤32) (fun w=>((w:Int),()))
  (fun i h w hw=>⟨fun a' ha=>by
   simp only[Sum.inl.injEq]at ha;subst ha;refine⟨?_,by have:=c2M l[i] (32-w) w;omega⟩;simp only[a6P,dlt h,cT,a0c h,oB,c6i (32-w) w (by omega),a0d (show i<1000000 by omega)],fun b hb=>(by cases hb)⟩)
  (fun w _=>by simp[a6P]) (a:=0) (by omega)
 simp only[nZ]at this;unfold a1H;rw[this];have key:∀(l:List Int)(w:Nat),a3H (fun w x=>(.inl (a2o x (32-w) w):Nat ⊕ (Int×Unit))) l w=.inl (l.foldl (fun w x=>a2o x (32-w) w) w):=by
  intro l
  induction l with
  |nil=>intro w;rfl
  |cons x l ih=>intro w;simp only[a3H,a91,ih]
 rw[key];rfl
theorem b2q(x:Int):a8D x=some (a0b x):=by
 unfold a8D a0b
 by_cases h:-1073741824≤x<;>simp[h]
def a0u(x:Int):Nat:=if 0≤x then(2*x).toNat else(-2*x-1).toNat
theorem b1p(h:a0b x=true):a0u x<2147483648:=by
 have:=a2j.1 h
 unfold a0u
 split<;>omega
theorem b2r(h:a0b x=true):b0B x=some ((a0u x:Nat):Int):=by
 have hx:=a2j.1 h;unfold b0B a0u;simp only[b2q,h,oB,bT,cF]
 by_cases h0:0≤x
 have h0':decide (x≥0)=true:=by simp;omega
 simp only[h0',cT,if_pos h0];rw[a0f (n:=2*x) (by omega),a0G (by omega)];congr 1;omega;have h0':decide (x≥0)=false:=by simp;omega
 simp only[h0',cF,if_neg h0];rw[a0f (n:=-2*x) (by omega),a0f (n:=-2*x-1) (by omega),a0G (by omega)];congr 1;omega
theorem a7y(h:o≤64):a0C .u64 (N:Int) (o:Int)=((N / 2^o:Nat):Int):=c8t h
theorem b4n(h:o≤64)(hs:N*2^o<9223372036854775808):a0z .u64 (N:Int) (o:Int)=((N*2^o:Nat):Int):=by
 unfold a0z;show wrap .u64 ((N:Int)*2^(min (o:Int).toNat 64))=_;rw[tN,a76 h];have e:(N:Int)*2^o=((N*2^o:Nat):Int):=by rw[a77,Int.natCast_pow];rfl
 rw[e];exact a0G (by omega)
theorem c8y{y k:Nat}(hy:y<18446744073709551616)(hk:k≤62):bits .u64 .and (y:Int) (wrap .u64 (a0z .u64 1 (k:Int)-1))=((y%2^k:Nat):Int):=by
 have hp:2^k≤2^62:=a20 (by decide) hk;have hp1:1≤2^k:=b01;have hp2:(2:Nat)^62=4611686018427387904:=by decide
 have e0:a0z .u64 1 (k:Int)=((2^k:Nat):Int):=by have:=b4n (N:=1) (o:=k) (by omega) (by omega);simpa using this
 have e1:wrap .u64 (((2^k:Nat):Int)-1)=((2^k-1:Nat):Int):=by rw[a0G (by omega)];omega
 rw[e0,e1];show wrap .u64 (((a04 64 (y:Int)) &&& (a04 64 ((2^k-1:Nat):Int))).toNat:Int)=_;rw[a27,a27,a59,a30,a30,a28 hy,a28 (by omega),a74]
 have:y%2^k<2^k:=a45 _ (by omega)
 exact a0G (by omega)
theorem b6g{q:Nat}(h:q<2147483648):wrap .i64 (q:Int)=(q:Int):=a0f (by omega)
def a7R(k:Nat)(x:Int)(L:List Int):List Int:=
 if a0u x / 2^k<32 then a0w ((a0u x%2^k:Nat):Int) k (unL (a0u x / 2^k) L)else a0w ((a0u x:Nat):Int) 32 (unL 32 L)
def a4T(k:Nat)(l:List Int)(L:List Int):List Int:=l.foldl (fun L x=>a7R k x L) L
theorem c0U{k:Nat}(hk:k≤25)(x:Int)(L:List Int):L.length≤(a7R k x L).length∧(a7R k x L).length≤L.length+100:=by
 unfold a7R;split;rename_i hq;have h1:=a0F ((a0u x%2^k:Nat):Int) k (unL (a0u x / 2^k) L);have h2:=b0g (a0u x / 2^k) L;generalize unL (a0u x / 2^k) L=M at h1 h2⊢;generalize a0u x / 2^k=q at hq h2;omega;have h1:=a0F ((a0u x:Nat):Int) 32 (unL 32 L);have h2:=b0g 32 L;omega
theorem b9H{k:Nat}(hk:k≤25):∀(l L:List Int),L.length≤(a4T k l L).length∧(a4T k l L).length≤L.length+100*l.length
 | [],L=>by simp[a4T]
 |x::l,L=>by
  have h1:=c0U hk x L;have h2:=b9H hk l (a7R k x L);have e:a4T k (x::l) L=a4T k l (a7R k x L):=rfl;rw[e,lC];omega
theorem b0q{k:Nat}(hk:k≤25):a2w (k:Int)=some true:=by
 unfold a2w;have h1:decide ((0:Int)≤(k:Int))=true:=by simp
 have h2:decide ((k:Int)≤25)=true:=by simp;omega
 simp only[h1,h2,cT]
theorem c9O{k:Nat}(hk:k≤25)(hl:l.length<10000)(hw:l.all a0b=true)(hL:L.length<900000000):b4T (wL L,(k:Int),l)=some (0,wL (a4T k l L)):=by
 have h0:=a1v (f:=b0S) l (fun i=>((k:Int),l,l,(l.length:Int),(i:Int),wL L,())) (fun _=>true) (bt:=Sum.inl ((k:Int),l,wL L,())) (bf:=Sum.inl ((k:Int),l,wL L,()))
  (fun i h _=>by
   have:=lA.1 hw _ (a09 h)
   simp only[b0S,dlt h,cT,a0c h,oB,b2q,this,bT,cF,a0d (show i<1000000 by omega)])
  (fun i h hp=>by simp at hp) (by simp[b0S])
 have key:∀(j i:Nat)(L':List Int),i+j=l.length→L'.length+100*j<999990000→a0h a8k ((k:Int),l,(l.length:Int),(i:Int),wL L',())=some (wL (a4T k (l.drop i) L'),()):=by
  intro j
  induction j with
  |zero=>
   intro i L' hi _;obtain rfl:i=l.length:=by omega
   rw[a22];exact a0o (by simp[a8k,a4T])
  |succ j ih=>
   intro i L' hi hb;have hlt:i<l.length:=by omega
   have hwi:=lA.1 hw _ (a09 hlt);have hy:=b1p hwi;have hrl:=c0U hk l[i] L';have hk0:decide ((k:Int)<0)=false:=by simp
   have eq:a0C .u64 ((a0u l[i]:Nat):Int) (k:Int)=((a0u l[i] / 2^k:Nat):Int):=a7y (by omega);have hql:=a51 (a0u l[i]) (2^k);have hmod:=b27 (a0u l[i]) (2^k);have emul:a0z .u64 ((a0u l[i] / 2^k:Nat):Int) (k:Int)=((a0u l[i] / 2^k*2^k:Nat):Int):=b4n (by omega) (by rw[a79];omega);have em:wrap .u64 (((a0u l[i]:Nat):Int)-((a0u l[i] / 2^k*2^k:Nat):Int))=((a0u l[i]%2^k:Nat):Int):=by
    rw[a79 (a0u l[i] / 2^k)];rw[a0G (by omega)];omega
   have ew:wrap .i64 ((a0u l[i] / 2^k:Nat):Int)=((a0u l[i] / 2^k:Nat):Int):=b6g (a49 hql hy);rw[a03 hlt,a0q (s':=((k:Int),l,(l.length:Int),((i+1:Nat):Int),wL (a7R k l[i] L'),())) (by
    by_cases hq:a0u l[i] / 2^k<32
    have hd:decide (((a0u l[i] / 2^k:Nat):Int)<32)=true:=decide_eq_true (by omega);have hu:(unL (a0u l[i] / 2^k) L').length<999999000:=by
     rw[b0g];exact b02 (Nat.add_lt_add_right (Nat.add_lt_add_left hq _) 1) (by omega)
    have hun:=c8x (L:=L') (n:=a0u l[i] / 2^k) (b05 (a57 hq (by decide))) (by omega);have hp:=a4e (L:=unL (a0u l[i] / 2^k) L') (v:=((a0u l[i]%2^k:Nat):Int)) (n:=k) (by omega) hu;simp only[a8k,dlt hlt,cT,a0c hlt,oB,b2r hwi,hk0,cF,eq,hd,ew,hun,emul,em,hp,a7R,if_pos hq,a0d (show i<1000000 by omega)];have hd:decide (((a0u l[i] / 2^k:Nat):Int)<32)=false:=decide_eq_false (by omega);have hu:=b0g 32 L';have hun:a2Y (wL L',(32:Int))=some (0,wL (unL 32 L')):=c8x (L:=L') (n:=32) (by omega) (by omega);have hp:a0m (wL (unL 32 L'),((a0u l[i]:Nat):Int),(32:Int))=some (a9C ((a0u l[i]:Nat):Int) 32,wL (a0w ((a0u l[i]:Nat):Int) 32 (unL 32 L'))):=a4e (L:=unL 32 L') (v:=((a0u l[i]:Nat):Int)) (n:=32) (by omega) (by omega);simp only[a8k,dlt hlt,cT,a0c hlt,oB,b2r hwi,hk0,cF,eq,hd,hun,hp,a7R,if_neg hq,a0d (show i<1000000 by omega)])]
   exact ih (i+1) _ (by omega) (by omega)
 have h1:=key l.length 0 L (by omega) (by omega);simp only[nZ,a18]at h0 h1;unfold b4T;simp only[b0q hk,oB,bT,cF,h0];cases l.all (fun _=>true)<;>simp only[cT,cF,h1,oB]
def a1r(zn:List Nat):List Int:=zn.map fun(a:Nat)=>(a:Int)
theorem c6V(n M:Nat):(a01 n M).sum=n*M:=by
 induction n with
 |zero=>simp
 |succ n ih=>rw[List.replicate_succ,a52,ih,Nat.succ_mul,Nat.add_comm]
theorem b7v{o:Int}(h:(a1C o n warm).length≠0):∃zn:List Nat,a1C o n warm=a1r zn∧(zn.sum:Int)=n-warm∧zn.length≤256:=by
 unfold a1C at h⊢;cases hr:(a6J n warm&&(decide (0≤o)&&decide (o≤8)))with
 |false=>rw[hr]at h;simp at h
 |true=>
  rw[hr]at h;simp only[cT]at h⊢;simp only[a6J,bA,dT]at hr;unfold b8c at h⊢
  split at h
  rename_i hc;rw[if_pos hc];obtain⟨O,rfl⟩:=a00 hr.2.1;obtain⟨N,rfl⟩:=a00 (show 0≤n by omega);obtain⟨w,rfl⟩:=a00 (show 0≤warm by omega);simp only[tN]at hc⊢;have hp:=d7V (o:=O) (by omega);have hm:=b27 N (2^O);rw[hc.1,a87]at hm;have hw:w≤N / 2^O:=by have:=hc.2;omega
  generalize N / 2^O=M at hc hw hm⊢;generalize 2^O=P at hp hm⊢;refine⟨(M-w)::a01 (P-1) M,?_,?_,?_⟩;simp only[a1r,a61,List.map_replicate];congr 1;omega;rw[a52,c6V];obtain⟨q,rfl⟩:∃q,P=q+1:=⟨P-1,by omega⟩;rw[Nat.add_sub_cancel];rw[Nat.succ_mul]at hm;omega
  simp;omega
  exact absurd rfl h
def b1b(k:Int)(part L:List Int):List Int:=
 if k=31 then a1P (a0l part) part (a0w ((a0l part:Nat):Int) 5 (a0w (wrap .u64 k) 5 L))else a4T k.toNat part (a0w (wrap .u64 k) 5 L)
def a4y:List Nat→List Int→List Int→List Int→List Int
 |z::zs,k::ks,l,L=>a4y zs ks (l.drop z) (b1b k (l.take z) L)
 |_,_,_,L=>L
theorem c0V(hk:kB k=true)(part L:List Int):L.length≤(b1b k part L).length∧(b1b k part L).length≤L.length+10+100*part.length:=by
 unfold b1b;have h1:=a0F (wrap .u64 k) 5 L;split;have h2:=a0F ((a0l part:Nat):Int) 5 (a0w (wrap .u64 k) 5 L);have h3:=a7q (a0l part) part (a0w ((a0l part:Nat):Int) 5 (a0w (wrap .u64 k) 5 L));have hw:=a7x part
 have:a0l part*part.length≤32*part.length:=a39 _ hw
 omega;rename_i hne;simp only[kB,a24,bA,dT,beq_iff_eq]at hk;have h3:=b9H (k:=k.toNat) (by omega) part (a0w (wrap .u64 k) 5 L);omega
theorem a9D(h:i<zn.length):b31 (a1r zn) i 0=((zn[i]:Nat):Int):=by
 rw[b8P (by simpa[a1r]using h)];simp[a1r]
theorem a1L(zn:List Nat):(a1r zn).length=zn.length:=by simp[a1r]
theorem b8T(h:i<zn.length):(zn.drop i).sum=zn[i]+(zn.drop (i+1)).sum:=by
 rw[a03 h,a52]
theorem c8z{part rest:List Int}{wd:Nat}{a b:Int}{z:List Int}{p:Prt}(hw:wd≤32)(hp:part.length<10000):∀(j i:Nat)(L:List Int),i+j=part.length→L.length+64*j<999990000→
  a0h a9U (rest,(wd:Int),a,b,part,(part.length:Int),(i:Int),z,wL L,p,())=some (rest,a,b,z,wL (a1P wd (part.drop i) L),p,())
 |0,i,L,hi,_=>by
  obtain rfl:i=part.length:=by omega
  rw[a22];exact a0o (by simp[a9U,a1P])
 |j+1,i,L,hi,hb=>by
  have hlt:i<part.length:=by omega
  have h2:decide ((wd:Int)<0)=false:=by simp
  have hpl:=a0F (a0H part[i] wd) wd L;rw[a03 hlt,a0q (s':=(rest,(wd:Int),a,b,part,(part.length:Int),((i+1:Nat):Int),z,wL (a0w (a0H part[i] wd) wd L),p,())) (by
   simp only[a9U,dlt hlt,cT,a0c hlt,oB,h2,cF,show bits .u64 .and (wrap .u64 part[i]) (wrap .u64 ((a0z .u64 1 (wd:Int))-1))=a0H part[i] wd from rfl,a4e (show wd≤63 by omega) (show L.length<999999000 by omega),a0d (show i<1000000 by omega)])]
  exact c8z hw hp j (i+1) _ (by omega) (by omega)
theorem b8g{zn:List Nat}{p:Prt}(hk:p.2.1.length=zn.length)(hall:p.2.1.all kB=true)(hz:zn.length≤256):∀(j i:Nat)(l L:List Int),i+j=zn.length→(zn.drop i).sum=l.length→l.all a0b=true→l.length≤5000→L.length+10*j+100*l.length<800000000→
  a0h a5u (l,(zn.length:Int),(i:Int),a1r zn,wL L,p,())=some (wL (a4y (zn.drop i) (p.2.1.drop i) l L),())
 |0,i,l,L,hi,_,_,_,_=>by
  obtain rfl:i=zn.length:=by omega
  rw[a22];exact a0o (by simp[a5u,a4y])
 |j+1,i,l,L,hi,hsum,hw,hl5,hb=>by
  have hlt:i<zn.length:=by omega
  have hki:i<p.2.1.length:=by omega
  have hkb:=lA.1 hall _ (a09 hki);rw[b8T hlt]at hsum;have h0:decide ((0:Int)≤(i:Int))=true:=by simp
  have h1:decide ((i:Int)<(((a1r zn).length:Nat):Int))=true:=by rw[a1L];simp;omega
  have h2:decide ((0:Int)≤((zn[i]:Nat):Int))=true:=by simp
  have h3:decide (((zn[i]:Nat):Int)≤((l.length:Nat):Int))=true:=by simp;omega
  have hpart:(l.take zn[i]).length=zn[i]:=by rw[a05];omega
  have hrest:(l.drop zn[i]).length=(zn.drop (i+1)).sum:=by rw[a07];omega
  have hwp:(l.take zn[i]).all a0b=true:=lA.2 fun x hx=>lA.1 hw x (a40 hx);have hwr:(l.drop zn[i]).all a0b=true:=lA.2 fun x hx=>lA.1 hw x (a41 hx);have hpl:=c0V hkb (l.take zn[i]) L;have hp1:=a0F (wrap .u64 p.2.1[i]) 5 L;have hput:a0m (wL L,wrap .u64 p.2.1[i],(5:Int))=some (a9C (wrap .u64 p.2.1[i]) 5,wL (a0w (wrap .u64 p.2.1[i]) 5 L)):=a4e (n:=5) (by omega) (by omega);have ed:zn.drop i=zn[i]::zn.drop (i+1):=a03 hlt;have ek:p.2.1.drop i=p.2.1[i]::p.2.1.drop (i+1):=a03 hki;rw[ed,ek,a4y];have goal:a5u (l,(zn.length:Int),(i:Int),a1r zn,wL L,p,())=some (.inl (l.drop zn[i],(zn.length:Int),((i+1:Nat):Int),a1r zn,wL (b1b p.2.1[i] (l.take zn[i]) L),p,())):=by
   by_cases h31:p.2.1[i]=31
   have hne:(p.2.1[i] != 31)=false:=by rw[h31];rfl
   have hwd:=a7x (l.take zn[i]);have hsw:=a2U (l:=l.take zn[i]) (by unfold short;omega);have hp2:=a0F ((a0l (l.take zn[i]):Nat):Int) 5 (a0w (wrap .u64 p.2.1[i]) 5 L);have ew:wrap .u64 ((a0l (l.take zn[i]):Nat):Int)=((a0l (l.take zn[i]):Nat):Int):=a0G (by omega);have hput2:a0m (wL (a0w (wrap .u64 p.2.1[i]) 5 L),((a0l (l.take zn[i]):Nat):Int),(5:Int))=some (a9C ((a0l (l.take zn[i]):Nat):Int) 5,wL (a0w ((a0l (l.take zn[i]):Nat):Int) 5 (a0w (wrap .u64 p.2.1[i]) 5 L))):=a4e (n:=5) (by omega) (by omega);have hraw:=c8z (part:=l.take zn[i]) (rest:=l.drop zn[i]) (a:=(zn.length:Int)) (b:=(i:Int)) (z:=a1r zn) (p:=p) hwd (by omega) (l.take zn[i]).length 0 (a0w ((a0l (l.take zn[i]):Nat):Int) 5 (a0w (wrap .u64 p.2.1[i]) 5 L)) (by omega) (by omega);simp only[nZ,a18]at hraw;simp only[a5u,dlt hlt,h0,h1,a9D hlt,h2,h3,cT,a02,tN,a0c hki,oB,hput,hne,cF,hsw,ew,hput2,a29,hraw,a0d (show i<1000000 by omega),b1b,if_pos h31];have hne:(p.2.1[i] != 31)=true:=by simp[h31]
   simp only[kB,a24,bA,dT,beq_iff_eq]at hkb;obtain⟨K,hK⟩:=a00 (show 0≤p.2.1[i]by omega);have hrice:=c9O (k:=K) (l:=l.take zn[i]) (L:=a0w (wrap .u64 p.2.1[i]) 5 L) (by omega) (by omega) hwp (by omega);rw[←hK]at hrice;have eK:K=p.2.1[i].toNat:=by rw[hK,tN]
   simp only[a5u,dlt hlt,h0,h1,a9D hlt,h2,h3,cT,a02,tN,a0c hki,oB,hput,hne,hrice,a29,a0d (show i<1000000 by omega),b1b,if_neg h31,eK]
  rw[a0q goal];exact b8g hk hall hz j (i+1) (l.drop zn[i]) _ (by omega) hrest.symm hwr (by rw[a07];omega) (by rw[a07];omega)
theorem c5o{k:Nat}(hk:k≤25)(hw:a0b x=true):∃c,a8E ((k:Int),x)=some c∧0≤c∧c≤65:=by
 have hy:=b1p hw;have eq:a0C .u64 ((a0u x:Nat):Int) (k:Int)=((a0u x / 2^k:Nat):Int):=a7y (by omega);have ew:wrap .i64 ((a0u x / 2^k:Nat):Int)=((a0u x / 2^k:Nat):Int):=b6g (a49 (a51 _ _) hy);have hk0:decide ((k:Int)<0)=false:=by simp
 unfold a8E;simp only[b0q hk,b2q,hw,oB,bT,cF,b2r hw,hk0,eq,ew];generalize a0u x / 2^k=q
 by_cases hq:q<32
 have hd:decide ((q:Int)<32)=true:=decide_eq_true (by omega);refine⟨(q:Int)+1+k,?_,by omega,by omega⟩;simp only[hd,cT];rw[a0f (n:=(q:Int)+1) (by omega),a0f (by omega)];have hd:decide ((q:Int)<32)=false:=decide_eq_false (by omega);exact⟨65,by simp only[hd,cF],by omega,by omega⟩
theorem c6W{k:Nat}(hk:k≤25)(hw:l.all a0b=true)(hl:l.length<10000):∃c,a4m ((k:Int),l)=some c∧0≤c∧c≤65*l.length:=by
 have key:∀(j i:Nat)(c:Int),i+j=l.length→0≤c→c≤65*i→∃c',a0h a4I ((k:Int),c,l,(l.length:Int),(i:Int),())=some (c',())∧0≤c'∧c'≤65*l.length:=by
  intro j
  induction j with
  |zero=>
   intro i c hi h0 h1;obtain rfl:i=l.length:=by omega
   exact⟨c,a0o (by simp[a4I]),h0,h1⟩
  |succ j ih=>
   intro i c hi h0 h1;have hlt:i<l.length:=by omega
   obtain⟨d,hd,hd0,hd1⟩:=c5o hk (lA.1 hw _ (a09 hlt));have e:wrap .i64 (c+d)=c+d:=a0f (by omega);rw[a0q (s':=((k:Int),c+d,l,(l.length:Int),((i+1:Nat):Int),())) (by simp only[a4I,dlt hlt,cT,a0c hlt,oB,hd,e,a0d (show i<1000000 by omega)])];exact ih (i+1) _ (by omega) (by omega) (by omega)
 obtain⟨c,h1,h2,h3⟩:=key l.length 0 0 (by omega) (by omega) (by omega);simp only[nZ]at h1;exact⟨c,by unfold a4m;simp only[h1,oB],h2,h3⟩
theorem d3D{n:Nat}(hw:w≤32)(hn:n<10000):0≤(w:Int)*(n:Int)∧(w:Int)*(n:Int)≤32*n:=by
 have h:w*n≤32*n:=a39 _ hw;have e:(w:Int)*(n:Int)=((w*n:Nat):Int):=by rw[a77]
 omega
theorem c5p(hl:l.length<10000):∃c,a6I l=some c∧0≤c∧c≤5+32*l.length:=by
 have hm:=d3D (a7x l) hl;refine⟨5+((a0l l:Nat):Int)*((l.length:Nat):Int),?_,by omega,by omega⟩;unfold a6I;simp only[a2U (show short l by unfold short;omega),oB];rw[a0f (n:=((a0l l:Nat):Int)*((l.length:Nat):Int)) (by omega),a0f (by omega)]
theorem b6L{zn:List Nat}{p:Prt}(hk:p.2.1.length=zn.length)(hall:p.2.1.all kB=true)(hz:zn.length≤256):∀(j i:Nat)(l:List Int)(c:Int),i+j=zn.length→(zn.drop i).sum=l.length→l.all a0b=true→l.length≤5000→4≤c→c+10*j+65*l.length<1000000→
  ∃c',a0h a1K (l,c,(zn.length:Int),(i:Int),a1r zn,p,())=some (c',())∧4≤c'
 |0,i,l,c,hi,_,_,_,hc,_=>by
  obtain rfl:i=zn.length:=by omega
  exact⟨c,a0o (by simp[a1K]),hc⟩
 |j+1,i,l,c,hi,hsum,hw,hl5,hc,hb=>by
  have hlt:i<zn.length:=by omega
  have hki:i<p.2.1.length:=by omega
  have hkb:=lA.1 hall _ (a09 hki);rw[b8T hlt]at hsum;have h0:decide ((0:Int)≤(i:Int))=true:=by simp
  have h1:decide ((i:Int)<(((a1r zn).length:Nat):Int))=true:=by rw[a1L];simp;omega
  have h2:decide ((0:Int)≤((zn[i]:Nat):Int))=true:=by simp
  have h3:decide (((zn[i]:Nat):Int)≤((l.length:Nat):Int))=true:=by simp;omega
  have hpart:(l.take zn[i]).length=zn[i]:=by rw[a05];omega
  have hrest:(l.drop zn[i]).length=(zn.drop (i+1)).sum:=by rw[a07];omega
  have hwp:(l.take zn[i]).all a0b=true:=lA.2 fun x hx=>lA.1 hw x (a40 hx);have hwr:(l.drop zn[i]).all a0b=true:=lA.2 fun x hx=>lA.1 hw x (a41 hx);have goal:∃d,a1K (l,c,(zn.length:Int),(i:Int),a1r zn,p,())=some (.inl (l.drop zn[i],c+d,(zn.length:Int),((i+1:Nat):Int),a1r zn,p,()))∧0≤d∧d≤10+65*zn[i]:=by
   by_cases h31:p.2.1[i]=31
   have hne:(p.2.1[i]==31)=true:=by rw[h31];rfl
   obtain⟨r,hr,hr0,hr1⟩:=c5p (l:=l.take zn[i]) (by omega);have e1:wrap .i64 (5+r)=5+r:=a0f (by omega);have e2:wrap .i64 (c+(5+r))=c+(5+r):=a0f (by omega);refine⟨5+r,?_,by omega,by omega⟩;simp only[a1K,dlt hlt,h0,h1,a9D hlt,h2,h3,cT,a02,tN,a0c hki,oB,hne,hr,e1,e2,a29,a0d (show i<1000000 by omega)];have hne:(p.2.1[i]==31)=false:=by simp[h31]
   simp only[kB,a24,bA,dT,beq_iff_eq]at hkb;obtain⟨K,hK⟩:=a00 (show 0≤p.2.1[i]by omega);obtain⟨r,hr,hr0,hr1⟩:=c6W (k:=K) (by omega) hwp (by omega);rw[←hK]at hr;have e1:wrap .i64 (5+r)=5+r:=a0f (by omega);have e2:wrap .i64 (c+(5+r))=c+(5+r):=a0f (by omega);refine⟨5+r,?_,by omega,by omega⟩;simp only[a1K,dlt hlt,h0,h1,a9D hlt,h2,h3,cT,cF,a02,tN,a0c hki,oB,hne,hr,e1,e2,a29,a0d (show i<1000000 by omega)]
  obtain⟨d,hd,hd0,hd1⟩:=goal;rw[a0q hd];exact b6L hk hall hz j (i+1) (l.drop zn[i]) _ (by omega) hrest.symm hwr (by rw[a07];omega) (by omega) (by rw[a07];omega)
structure PartsOk (p:Prt) (n warm:Int) (l:List Int) (zn:List Nat):Prop where
 may:a6B p n warm=true
 sizes:a1C p.1 n warm=a1r zn
 sum:zn.sum=l.length
 len:zn.length≤256
 ks:p.2.1.length=zn.length
 all:p.2.1.all kB=true
 wide:l.all a0b=true
 short:l.length≤5000
 row:a6J n warm=true
 rest:(l.length:Int)=n-warm
 order:0≤p.1∧p.1≤8
theorem PartsOk.of(h:a6B p n warm=true)(hl:(l.length:Int)=n-warm)(hw:l.all a0b=true)(h5:l.length≤5000):∃zn,PartsOk p n warm l zn:=by
 have h':=h;simp only[a6B,bA,a34,beq_eq_false_iff_ne,ne_eq,beq_iff_eq]at h';obtain⟨h1,h2,h3⟩:=h';obtain⟨zn,g1,g2,g3⟩:=b7v h1;have hr:a6J n warm=true∧0≤p.1∧p.1≤8:=by
  unfold a1C at h1;cases hr:(a6J n warm&&(decide (0≤p.1)&&decide (p.1≤8)))with
  |false=>rw[hr]at h1;simp at h1
  |true=>simpa using hr
 exact⟨zn,h,g1,by omega,g3,by rw[←h2,g1,a1L],h3,hw,h5,hr.1,hl,hr.2⟩
theorem b2V(hr:a6J n warm=true)(hl:(l.length:Int)=n-warm)(hw:l.all a0b=true)(h5:l.length≤5000):a8j (n,warm,l)=some true:=by
 have e:wrap .i64 (n-warm)=n-warm:=by
  simp only[a6J,bA,dT]at hr;exact a0f (by omega)
 have h1:(((l.length:Nat):Int) != n-warm)=false:=by rw[hl];simp
 have e2:b5N=a3j:=rfl;have hs:short l:=by unfold short;omega
 have ha:=a5v hs;unfold a2A at ha;unfold a8j;simp only[b6c,hr,oB,bT,cF,e,h1,e2];rw[hw]at ha;exact ha
theorem c3X(h:PartsOk p n warm l zn):∃c,a5B (p,n,warm,l)=some c∧4≤c:=by
 have hk:Go.Ab.short p.2.1:=by have:=h.ks;have:=h.len;unfold Go.Ab.short;omega
 have h5:=h.short;have hz:=h.len;obtain⟨c,h1,h2⟩:=b6L h.ks h.all h.len zn.length 0 l 4 (by omega) (by rw[a18];exact h.sum) h.wide h.short (by omega) (by omega);simp only[nZ]at h1;refine⟨c,?_,h2⟩;unfold a5B;simp only[b6d hk,h.may,b2V h.row h.rest h.wide h.short,oB,bT,cF,a2E,h.sizes,a1L,h1]
def a5i(p:Prt)(zn:List Nat)(l L:List Int):List Int:=a4y zn p.2.1 l (a0w (wrap .u64 p.1) 4 L)
theorem c8A(h:PartsOk p n warm l zn)(hL:L.length<700000000):b3t (wL L,p,n,warm,l)=some (0,wL (a5i p zn l L)):=by
 have h5:=h.short;have hz:=h.len;obtain⟨c,hc,hc4⟩:=c3X h;have hne:(c==0)=false:=by simp only[beq_eq_false_iff_ne,ne_eq];omega
 have hpl:=a0F (wrap .u64 p.1) 4 L;have hput:a0m (wL L,wrap .u64 p.1,(4:Int))=some (a9C (wrap .u64 p.1) 4,wL (a0w (wrap .u64 p.1) 4 L)):=a4e (n:=4) (by omega) (by omega);have hloop:=b8g h.ks h.all h.len zn.length 0 l (a0w (wrap .u64 p.1) 4 L) (by omega) (by rw[a18];exact h.sum) h.wide h.short (by omega);simp only[nZ,a18]at hloop;unfold b3t;simp only[hc,oB,hne,cF,hput,a2E,h.sizes,a1L,hloop,a5i]
theorem c3Y{c:List Int}{wd:Nat}(hw:wd≤32)(hc:c.length<10000):∀(j i:Nat)(L:List Int),i+j=c.length→L.length+64*j<999990000→
  a0h a6R ((wd:Int),c,(c.length:Int),(i:Int),wL L,())=some (wL (a1P wd (c.drop i) L),())
 |0,i,L,hi,_=>by
  obtain rfl:i=c.length:=by omega
  rw[a22];exact a0o (by simp[a6R,a1P])
 |j+1,i,L,hi,hb=>by
  have hlt:i<c.length:=by omega
  have hpl:=a0F (a0H c[i] wd) wd L;rw[a03 hlt,a0q (s':=((wd:Int),c,(c.length:Int),((i+1:Nat):Int),wL (a0w (a0H c[i] wd) wd L),())) (by
   simp only[a6R,dlt hlt,cT,a0c hlt,oB,b6f (show wd≤63 by omega) (show L.length<999999000 by omega),a0d (show i<1000000 by omega)])]
  exact c3Y hw hc j (i+1) _ (by omega) (by omega)
theorem c6j{t:List Int}{n wd:Int}{s:Sub}(ht:t.length=3):∀(j i:Nat)(L:List Int),i+j=3→L.length+64*j<999990000→
  a0h b2c (n,wd,t,(i:Int),wL L,s,())=some (n,wd,wL (a1P 8 (t.drop i) L),s,())
 |0,i,L,hi,_=>by
  obtain rfl:i=t.length:=by omega
  rw[a22];exact a0o (by rw[ht];simp[b2c,a1P])
 |j+1,i,L,hi,hb=>by
  have hlt:i<t.length:=by omega
  have h3:decide ((i:Int)<3)=true:=by simp;omega
  have hpl:=a0F (a0H t[i] 8) 8 L;have hps:a3B (wL L,t[i],(8:Int))=some (wL (a0w (a0H t[i] 8) 8 L)):=b6f (n:=8) (by omega) (by omega);rw[a03 hlt,a0q (s':=(n,wd,t,((i+1:Nat):Int),wL (a0w (a0H t[i] 8) 8 L),s,())) (by
   simp only[b2c,h3,cT,a0c hlt,oB,hps,a0d (show i<1000000 by omega)])]
  exact c6j ht j (i+1) _ (by omega) (by omega)
theorem c6k{l:List Int}{n:Int}{wd:Nat}{s:Sub}(hw:wd≤32)(hl:l.length<10000):∀(j i:Nat)(L:List Int),i+j=l.length→L.length+64*j<999990000→
  a0h b2e (n,(wd:Int),l,(l.length:Int),(i:Int),wL L,s,())=some (n,wL (a1P wd (l.drop i) L),s,())
 |0,i,L,hi,_=>by
  obtain rfl:i=l.length:=by omega
  rw[a22];exact a0o (by simp[b2e,a1P])
 |j+1,i,L,hi,hb=>by
  have hlt:i<l.length:=by omega
  have hpl:=a0F (a0H l[i] wd) wd L;rw[a03 hlt,a0q (s':=(n,(wd:Int),l,(l.length:Int),((i+1:Nat):Int),wL (a0w (a0H l[i] wd) wd L),s,())) (by
   simp only[b2e,dlt hlt,cT,a0c hlt,oB,b6f (show wd≤63 by omega) (show L.length<999999000 by omega),a0d (show i<1000000 by omega)])]
  exact c6k hw hl j (i+1) _ (by omega) (by omega)
def a7s(s:Stg)(L:List Int):List Int:=a0w (wrap .u64 s.2.1) 4 (a0w (wrap .u64 (wrap .i64 (s.1-1))) 5 L)
def a3O(st:List Stg)(L:List Int):List Int:=st.foldl (fun L s=>a7s s L) L
theorem b9I(s:Stg)(L:List Int):(a7s s L).length≤L.length+9:=by
 have h1:=a0F (wrap .u64 (wrap .i64 (s.1-1))) 5 L;have h2:=a0F (wrap .u64 s.2.1) 4 (a0w (wrap .u64 (wrap .i64 (s.1-1))) 5 L);unfold a7s;omega
theorem b8h:∀(st:List Stg)(L:List Int),(a3O st L).length≤L.length+9*st.length
 | [],L=>by simp[a3O]
 |s::st,L=>by
  have h1:=b9I s L;have h2:=b8h st (a7s s L);have e:a3O (s::st) L=a3O st (a7s s L):=rfl;rw[e,lC];omega
theorem c2g{st:List Stg}{n wd:Int}{s:Sub}(hs:st.length<10000):∀(j i:Nat)(L:List Int),i+j=st.length→L.length+64*j<999990000→
  a0h b2d (n,wd,st,(st.length:Int),(i:Int),wL L,s,())=some (n,wd,wL (a3O (st.drop i) L),s,())
 |0,i,L,hi,_=>by
  obtain rfl:i=st.length:=by omega
  rw[a22];exact a0o (by simp[b2d,a3O])
 |j+1,i,L,hi,hb=>by
  have hlt:i<st.length:=by omega
  have hp1:=a0F (wrap .u64 (wrap .i64 (st[i].1-1))) 5 L;have hsl:=b9I st[i] L;have h1:a0m (wL L,wrap .u64 (wrap .i64 (st[i].1-1)),(5:Int))=some (a9C (wrap .u64 (wrap .i64 (st[i].1-1))) 5,wL (a0w (wrap .u64 (wrap .i64 (st[i].1-1))) 5 L)):=a4e (n:=5) (by omega) (by omega);have h2:a0m (wL (a0w (wrap .u64 (wrap .i64 (st[i].1-1))) 5 L),wrap .u64 st[i].2.1,(4:Int))=some (a9C (wrap .u64 st[i].2.1) 4,wL (a7s st[i] L)):=a4e (n:=4) (by omega) (by omega);rw[a03 hlt,a0q (s':=(n,wd,st,(st.length:Int),((i+1:Nat):Int),wL (a7s st[i] L),s,())) (by
   simp only[b2d,dlt hlt,cT,a0c hlt,oB,h1,h2,a0d (show i<1000000 by omega)])]
  exact c2g hs j (i+1) _ (by omega) (by omega)
def a7t(s:Sub)(L:List Int):List Int:=
 a1P (a0l s.2.2.2.2.2.1) s.2.2.2.2.2.1 (a0w ((a0l s.2.2.2.2.2.1:Nat):Int) 5 (a0w (wrap .u64 s.2.2.2.1) 4 (a0w (wrap .u64 (wrap .i64 (((s.2.2.2.2.2.1.length:Nat):Int)-1))) 5 L)))
theorem b9J(h:s.2.2.2.2.2.1.length≤40)(L:List Int):(a7t s L).length≤L.length+2000:=by
 unfold a7t;have h1:=a0F (wrap .u64 (wrap .i64 (((s.2.2.2.2.2.1.length:Nat):Int)-1))) 5 L;have h2:=a0F (wrap .u64 s.2.2.2.1) 4 (a0w (wrap .u64 (wrap .i64 (((s.2.2.2.2.2.1.length:Nat):Int)-1))) 5 L);have h3:=a0F ((a0l s.2.2.2.2.2.1:Nat):Int) 5 (a0w (wrap .u64 s.2.2.2.1) 4 (a0w (wrap .u64 (wrap .i64 (((s.2.2.2.2.2.1.length:Nat):Int)-1))) 5 L));have h4:=a7q (a0l s.2.2.2.2.2.1) s.2.2.2.2.2.1 (a0w ((a0l s.2.2.2.2.2.1:Nat):Int) 5 (a0w (wrap .u64 s.2.2.2.1) 4 (a0w (wrap .u64 (wrap .i64 (((s.2.2.2.2.2.1.length:Nat):Int)-1))) 5 L)));have hw:=a7x s.2.2.2.2.2.1
 have:a0l s.2.2.2.2.2.1*s.2.2.2.2.2.1.length≤32*40:=a95 hw h
 omega
theorem c2h(h:s.2.2.2.2.2.1.length≤40)(hL:L.length<900000000):a9T (wL L,s)=some (wL (a7t s L)):=by
 have h1:=a0F (wrap .u64 (wrap .i64 (((s.2.2.2.2.2.1.length:Nat):Int)-1))) 5 L;have h2:=a0F (wrap .u64 s.2.2.2.1) 4 (a0w (wrap .u64 (wrap .i64 (((s.2.2.2.2.2.1.length:Nat):Int)-1))) 5 L);have h3:=a0F ((a0l s.2.2.2.2.2.1:Nat):Int) 5 (a0w (wrap .u64 s.2.2.2.1) 4 (a0w (wrap .u64 (wrap .i64 (((s.2.2.2.2.2.1.length:Nat):Int)-1))) 5 L));have hw:=a7x s.2.2.2.2.2.1;have ew:wrap .u64 ((a0l s.2.2.2.2.2.1:Nat):Int)=((a0l s.2.2.2.2.2.1:Nat):Int):=a0G (by omega);have p1:a0m (wL L,wrap .u64 (wrap .i64 (((s.2.2.2.2.2.1.length:Nat):Int)-1)),(5:Int))=some (a9C (wrap .u64 (wrap .i64 (((s.2.2.2.2.2.1.length:Nat):Int)-1))) 5,wL (a0w (wrap .u64 (wrap .i64 (((s.2.2.2.2.2.1.length:Nat):Int)-1))) 5 L)):=a4e (n:=5) (by omega) (by omega);have p2:a0m (wL (a0w (wrap .u64 (wrap .i64 (((s.2.2.2.2.2.1.length:Nat):Int)-1))) 5 L),wrap .u64 s.2.2.2.1,(4:Int))=some (a9C (wrap .u64 s.2.2.2.1) 4,wL (a0w (wrap .u64 s.2.2.2.1) 4 (a0w (wrap .u64 (wrap .i64 (((s.2.2.2.2.2.1.length:Nat):Int)-1))) 5 L))):=a4e (n:=4) (by omega) (by omega);have p3:a0m (wL (a0w (wrap .u64 s.2.2.2.1) 4 (a0w (wrap .u64 (wrap .i64 (((s.2.2.2.2.2.1.length:Nat):Int)-1))) 5 L)),((a0l s.2.2.2.2.2.1:Nat):Int),(5:Int))=some (a9C ((a0l s.2.2.2.2.2.1:Nat):Int) 5,wL (a0w ((a0l s.2.2.2.2.2.1:Nat):Int) 5 (a0w (wrap .u64 s.2.2.2.1) 4 (a0w (wrap .u64 (wrap .i64 (((s.2.2.2.2.2.1.length:Nat):Int)-1))) 5 L)))):=a4e (n:=5) (by omega) (by omega);have hlp:=c3Y (c:=s.2.2.2.2.2.1) hw (by omega) s.2.2.2.2.2.1.length 0 (a0w ((a0l s.2.2.2.2.2.1:Nat):Int) 5 (a0w (wrap .u64 s.2.2.2.1) 4 (a0w (wrap .u64 (wrap .i64 (((s.2.2.2.2.2.1.length:Nat):Int)-1))) 5 L))) (by omega) (by omega);simp only[nZ,a18]at hlp;unfold a9T;simp only[p1,p2,a2U (show short s.2.2.2.2.2.1 by unfold short;omega),ew,p3,hlp,oB,a7t]
def b3M(s:Sub)(L:List Int):List Int:=
 a0w ((a0l s.2.2.2.2.2.2.2.2.1:Nat):Int) 5 (a0w (wrap .u64 s.2.1) 5 (a0w (wrap .u64 s.1) 3 L))
def a3g(s:Sub)(L:List Int):List Int:=
 if s.1=2 then a0w (wrap .u64 s.2.2.1) 3 L
 else if s.1=3 then a7t s L
 else if s.1=4 then a7t s (a1P 8 s.2.2.2.2.2.2.1 (a0w (wrap .u64 (wrap .i64 (s.2.2.2.2.1-1))) 10 L))
 else if s.1=5 then a3O s.2.2.2.2.2.2.2.1 (a0w (wrap .u64 ((s.2.2.2.2.2.2.2.1.length:Nat):Int)) 2 L)
 else L
theorem c8B(h:SmallS s)(L:List Int):(a3g s L).length≤L.length+3000:=by
 have hc:=h.coefs;have ht:=h.taps;have hst:=h.stages;unfold a3g;split
 have:=a0F (wrap .u64 s.2.2.1) 3 L;omega
 split
 have:=b9J hc L;omega
 split;have h1:=a0F (wrap .u64 (wrap .i64 (s.2.2.2.2.1-1))) 10 L;have h2:=a7q 8 s.2.2.2.2.2.2.1 (a0w (wrap .u64 (wrap .i64 (s.2.2.2.2.1-1))) 10 L);have h3:=b9J hc (a1P 8 s.2.2.2.2.2.2.1 (a0w (wrap .u64 (wrap .i64 (s.2.2.2.2.1-1))) 10 L));omega;split;have h1:=a0F (wrap .u64 ((s.2.2.2.2.2.2.2.1.length:Nat):Int)) 2 L;have h2:=b8h s.2.2.2.2.2.2.2.1 (a0w (wrap .u64 ((s.2.2.2.2.2.2.2.1.length:Nat):Int)) 2 L);omega;omega
theorem b9K:∀(zs:List Nat)(ks l L:List Int),ks.all kB=true→(a4y zs ks l L).length≤L.length+10*zs.length+100*l.length
 |z::zs,k::ks,l,L,h=>by
  simp only[a08,bA]at h;have h1:=c0V h.1 (l.take z) L;have h2:=b9K zs ks (l.drop z) (b1b k (l.take z) L) h.2;rw[a05]at h1;rw[a07]at h2;simp only[a4y,lC];omega
 | [],_,_,_,_=>by simp only[a4y];omega
 |_::_,[],_,_,_=>by simp only[a4y];omega
def a6c(s:Sub)(zn:List Nat)(L:List Int):List Int:=
 if s.1=0∨s.1=1 then a1P (a0l s.2.2.2.2.2.2.2.2.1) s.2.2.2.2.2.2.2.2.1 (a3g s (b3M s L))
 else a5i s.2.2.2.2.2.2.2.2.2.1 zn s.2.2.2.2.2.2.2.2.2.2.1 (a1P (a0l s.2.2.2.2.2.2.2.2.1) s.2.2.2.2.2.2.2.2.1 (a3g s (b3M s L)))
theorem b8U(h:SmallS s)(hL:L.length<100000000):
  ∃(e:Int)(L':List Int),b1y (wL L,s,n)=some (e,wL L')∧(e=0∨L'=L)∧L'.length≤L.length+700000∧
   ((a2Q s n).isSome=true→e=0∧∃zn,L'=a6c s zn L∧(s.1≠0∧s.1≠1→PartsOk s.2.2.2.2.2.2.2.2.2.1 n ((s.2.2.2.2.2.2.2.2.1.length:Nat):Int) s.2.2.2.2.2.2.2.2.2.2.1 zn))∧((a2Q s n).isSome=false→e=1∧L'=L):=by
 unfold b1y;simp only[c3U h,oB];cases hs:(a2Q s n).isSome with
 |false=>exact⟨1,L,rfl,.inr rfl,by omega,fun h=>(by cases h),fun _=>⟨rfl,rfl⟩⟩
 |true=>
  have hp:a1I s n:=by
   unfold a2Q at hs
   split at hs
   assumption
   cases hs
  obtain⟨h1,h2,hf,-,-,-,-,hlen,hww,hrw,-,hparts⟩:=hp;have hkind:=d3B hf;have hwd:=a7x s.2.2.2.2.2.2.2.2.1;have hsw:short s.2.2.2.2.2.2.2.2.1:=by have:=h.warm;unfold short;omega
  have hwarm:=h.warm;have hrest:=h.rest;have hst:=h.stages;have ht:=h.taps;have q1:=a0F (wrap .u64 s.1) 3 L;have q2:=a0F (wrap .u64 s.2.1) 5 (a0w (wrap .u64 s.1) 3 L);have q3:=a0F ((a0l s.2.2.2.2.2.2.2.2.1:Nat):Int) 5 (a0w (wrap .u64 s.2.1) 5 (a0w (wrap .u64 s.1) 3 L));have ew:wrap .u64 ((a0l s.2.2.2.2.2.2.2.2.1:Nat):Int)=((a0l s.2.2.2.2.2.2.2.2.1:Nat):Int):=a0G (by omega);have p1:a0m (wL L,wrap .u64 s.1,(3:Int))=some (a9C (wrap .u64 s.1) 3,wL (a0w (wrap .u64 s.1) 3 L)):=a4e (n:=3) (by omega) (by omega);have p2:a0m (wL (a0w (wrap .u64 s.1) 3 L),wrap .u64 s.2.1,(5:Int))=some (a9C (wrap .u64 s.2.1) 5,wL (a0w (wrap .u64 s.2.1) 5 (a0w (wrap .u64 s.1) 3 L))):=a4e (n:=5) (by omega) (by omega);have p3:a0m (wL (a0w (wrap .u64 s.2.1) 5 (a0w (wrap .u64 s.1) 3 L)),((a0l s.2.2.2.2.2.2.2.2.1:Nat):Int),(5:Int))=some (a9C ((a0l s.2.2.2.2.2.2.2.2.1:Nat):Int) 5,wL (b3M s L)):=a4e (n:=5) (by omega) (by omega);have q4:(b3M s L).length≤L.length+13:=by unfold b3M;omega
  generalize hM:b3M s L=M at p3 q4;have q5:=c8B h M;have q6:=a7q (a0l s.2.2.2.2.2.2.2.2.1) s.2.2.2.2.2.2.2.2.1 (a3g s M);have q7:a0l s.2.2.2.2.2.2.2.2.1*s.2.2.2.2.2.2.2.2.1.length≤32*5000:=a95 hwd hwarm;have hwl:=c6k (l:=s.2.2.2.2.2.2.2.2.1) (n:=n) (s:=s) hwd (by omega) s.2.2.2.2.2.2.2.2.1.length 0 (a3g s M) (by omega) (by omega);simp only[nZ,a18]at hwl

  have hsl:=c2g (st:=s.2.2.2.2.2.2.2.1) (n:=n) (wd:=((a0l s.2.2.2.2.2.2.2.2.1:Nat):Int)) (s:=s) (by omega) s.2.2.2.2.2.2.2.1.length 0 (a0w (wrap .u64 ((s.2.2.2.2.2.2.2.1.length:Nat):Int)) 2 M) (by omega) (by have:=a0F (wrap .u64 ((s.2.2.2.2.2.2.2.1.length:Nat):Int)) 2 M;omega);have q8:=a0F (wrap .u64 (wrap .i64 (s.2.2.2.2.1-1))) 10 M;have q9:=a7q 8 s.2.2.2.2.2.2.1 (a0w (wrap .u64 (wrap .i64 (s.2.2.2.2.1-1))) 10 M);have htl:=c6j (t:=s.2.2.2.2.2.2.1) (n:=n) (wd:=((a0l s.2.2.2.2.2.2.2.2.1:Nat):Int)) (s:=s) ht 3 0 (a0w (wrap .u64 (wrap .i64 (s.2.2.2.2.1-1))) 10 M) (by omega) (by omega);simp only[nZ,a18]at hsl htl;have k2:a0m (wL M,wrap .u64 s.2.2.1,(3:Int))=some (a9C (wrap .u64 s.2.2.1) 3,wL (a0w (wrap .u64 s.2.2.1) 3 M)):=a4e (n:=3) (by omega) (by omega);have k4:a0m (wL M,wrap .u64 (wrap .i64 (s.2.2.2.2.1-1)),(10:Int))=some (a9C (wrap .u64 (wrap .i64 (s.2.2.2.2.1-1))) 10,wL (a0w (wrap .u64 (wrap .i64 (s.2.2.2.2.1-1))) 10 M)):=a4e (n:=10) (by omega) (by omega);have k5:a0m (wL M,wrap .u64 ((s.2.2.2.2.2.2.2.1.length:Nat):Int),(2:Int))=some (a9C (wrap .u64 ((s.2.2.2.2.2.2.2.1.length:Nat):Int)) 2,wL (a0w (wrap .u64 ((s.2.2.2.2.2.2.2.1.length:Nat):Int)) 2 M)):=a4e (n:=2) (by omega) (by omega);have c3:=c2h (s:=s) h.coefs (L:=M) (by omega);have c4:=c2h (s:=s) h.coefs (L:=a1P 8 s.2.2.2.2.2.2.1 (a0w (wrap .u64 (wrap .i64 (s.2.2.2.2.1-1))) 10 M)) (by omega);simp only[bT,cF,a2U hsw,oB,p1,p2,ew,p3];generalize hPM:a1P (a0l s.2.2.2.2.2.2.2.2.1) s.2.2.2.2.2.2.2.2.1 (a3g s M)=PM at hwl q6

  have tail:∀(hk01:s.1≠0∧s.1≠1),∃zn,PartsOk s.2.2.2.2.2.2.2.2.2.1 n ((s.2.2.2.2.2.2.2.2.1.length:Nat):Int) s.2.2.2.2.2.2.2.2.2.2.1 zn:=fun hk01=>by
   obtain⟨g1,g2⟩:=hparts hk01;rw[←hlen]at g1 g2;exact PartsOk.of g2 g1 hrw (by omega)
  rcases hkind with k|k|k|k|k|k;have kl:a3g s M=M:=by unfold a3g;simp[k]
  rw[kl]at hwl;refine⟨0,PM,?_,.inl rfl,by omega,fun _=>⟨rfl,[],by unfold a6c;rw[if_pos (by omega),hM,hPM],fun h=>absurd k (by omega)⟩,fun h=>by cases h⟩;simp only[k,show((0:Int)==2)=false from rfl,show((0:Int)==4)=false from rfl,show((0:Int)==3)=false from rfl,show((0:Int)==5)=false from rfl,cF,oB,hwl,a7w]
  simp
  have kl:a3g s M=M:=by unfold a3g;simp[k]
  rw[kl]at hwl;refine⟨0,PM,?_,.inl rfl,by omega,fun _=>⟨rfl,[],by unfold a6c;rw[if_pos (by omega),hM,hPM],fun h=>absurd k (by omega)⟩,fun h=>by cases h⟩;simp only[k,show((1:Int)==2)=false from rfl,show((1:Int)==4)=false from rfl,show((1:Int)==3)=false from rfl,show((1:Int)==5)=false from rfl,cF,oB,hwl,a7w]
  simp
  all_goals
   obtain⟨zn,hz⟩:=tail (by omega);have t1:=c8A (L:=PM) hz (by omega);have t3:(a5i s.2.2.2.2.2.2.2.2.2.1 zn s.2.2.2.2.2.2.2.2.2.2.1 PM).length≤L.length+700000:=by
    have z1:=a0F (wrap .u64 s.2.2.2.2.2.2.2.2.2.1.1) 4 PM;have z2:=b9K zn s.2.2.2.2.2.2.2.2.2.1.2.1 s.2.2.2.2.2.2.2.2.2.2.1 (a0w (wrap .u64 s.2.2.2.2.2.2.2.2.2.1.1) 4 PM) hz.all;have z3:=hz.len;unfold a5i;omega
   refine⟨0,a5i s.2.2.2.2.2.2.2.2.2.1 zn s.2.2.2.2.2.2.2.2.2.2.1 PM,?_,.inl rfl,t3,fun _=>⟨rfl,zn,by unfold a6c;rw[if_neg (by omega),hM,hPM],fun _=>hz⟩,fun h=>by cases h⟩
  have kl:a3g s M=a0w (wrap .u64 s.2.2.1) 3 M:=by unfold a3g;simp[k]
  rw[kl]at hwl;simp only[k,show((2:Int)==2)=true from rfl,cT,k2,oB,hwl,a7w];simp[t1];have kl:a3g s M=a7t s M:=by unfold a3g;simp[k]
  rw[kl]at hwl;simp only[k,show((3:Int)==2)=false from rfl,show((3:Int)==4)=false from rfl,show((3:Int)==3)=true from rfl,cT,cF,c3,oB,hwl,a7w];simp[t1];have kl:a3g s M=a7t s (a1P 8 s.2.2.2.2.2.2.1 (a0w (wrap .u64 (wrap .i64 (s.2.2.2.2.1-1))) 10 M)):=by unfold a3g;simp[k]
  rw[kl]at hwl;simp only[k,show((4:Int)==2)=false from rfl,show((4:Int)==4)=true from rfl,cT,cF,k4,htl,c4,oB,hwl,a7w];simp[t1];have kl:a3g s M=a3O s.2.2.2.2.2.2.2.1 (a0w (wrap .u64 ((s.2.2.2.2.2.2.2.1.length:Nat):Int)) 2 M):=by unfold a3g;simp[k]
  rw[kl]at hwl;simp only[k,show((5:Int)==2)=false from rfl,show((5:Int)==4)=false from rfl,show((5:Int)==3)=false from rfl,show((5:Int)==5)=true from rfl,cT,cF,k5,hsl,oB,hwl,a7w];simp[t1]
theorem b3N(zn:List Nat):(a1r zn).map a35=zn:=by
 unfold a1r;rw[List.map_map]
 have:a35∘(fun(a:Nat)=>(a:Int))=id:=by funext a;simp
 rw[this,List.map_id]
def a5b(s:Sub)(n:Int):Int:=
 if(a2Q s n).isSome=true then(((a6c s ((a1C s.2.2.2.2.2.2.2.2.2.1.1 n ((s.2.2.2.2.2.2.2.2.1.length:Nat):Int)).map a35) []).length:Nat):Int)else 0
theorem c5q(hz:s.1≠0∧s.1≠1→PartsOk s.2.2.2.2.2.2.2.2.2.1 n ((s.2.2.2.2.2.2.2.2.1.length:Nat):Int) s.2.2.2.2.2.2.2.2.2.2.1 zn)(L:List Int):
  a6c s zn L=a6c s ((a1C s.2.2.2.2.2.2.2.2.2.1.1 n ((s.2.2.2.2.2.2.2.2.1.length:Nat):Int)).map a35) L:=by
 by_cases hk:s.1=0∨s.1=1
 unfold a6c;rw[if_pos hk,if_pos hk];rw[(hz (not_or.1 hk)).sizes,b3N]
theorem d0w(h:SmallS s)(n:Int):a4Z (s,n)=some (a5b s n):=by
 obtain⟨e,L',h1,-,-,h4,h5⟩:=b8U h (n:=n) (L:=[]) (by simp);have hw:wL []=(([]:List Int),(0:Int),()):=rfl;rw[hw]at h1;obtain⟨w1,-⟩:=a6K L';unfold a4Z a5b;simp only[h1,oB,b0m];cases hs:(a2Q s n).isSome with
 |false=>
  obtain⟨rfl,rfl⟩:=h5 hs;rfl
 |true=>
  obtain⟨rfl,zn,rfl,hz⟩:=h4 hs;rw[if_pos rfl,←c5q hz];simp only[w1,show((0:Int) != 0)=false from rfl,cF]
def dif:List Int→List Int
 |a::b::r=>W (b-a)::dif (b::r)
 |_=>[]
theorem a6C:∀l:List Int,(dif l).length=l.length-1
 | []=>rfl
 | [_]=>rfl
 |a::b::r=>by simp[dif,a6C (b::r)]
theorem c5r:∀(l:List Int)(i:Nat)(x y:Int),l[i]?=some x→l[i+1]?=some y→(dif l)[i]?=some (W (y-x))
 |a::b::r,0,x,y,h1,h2=>by simp at h1 h2;subst h1;subst h2;rfl
 |a::b::r,i+1,x,y,h1,h2=>by
  simp only[dif,List.getElem?_cons_succ]at h1 h2⊢;exact c5r (b::r) i x y h1 h2
 | [_],0,x,y,h1,h2=>by simp at h2
 | [_],i+1,x,y,h1,h2=>by simp at h1
 | [],i,x,y,h1,h2=>by simp at h1
def a2m:Nat→List Int→List Int
 |0,l=>l
 |o+1,l=>dif (a2m o l)
theorem a6L(l:List Int):∀o,(a2m o l).length=l.length-o
 |0=>rfl
 |o+1=>by simp only[a2m,a6C,a6L l o];omega
theorem b8V(h:short l)(o:Nat):short (a2m o l):=by
 have h:l.length<1000000:=h;show(a2m o l).length<1000000;rw[a6L];omega
def b2t(l:List Int)(i:Nat):List Int:=(dif l).take i++l.drop i
theorem b7w(h:i≤l.length-1):(b2t l i).length=l.length:=by
 simp only[b2t,lN,a05,a07,a6C];omega
theorem c6l{j:Nat}(h:i≤l.length-1)(hj:i≤j):(b2t l i).getD j 0=l.getD j 0:=by
 have e:((dif l).take i).length=i:=by rw[a05,a6C];omega
 rw[lD,lD,b2t,a23 (by omega),e,List.getElem?_drop];congr 2;omega
theorem d5a(h:i<l.length-1):(b2t l i).set i (W (l.getD (i+1) 0-l.getD i 0))=b2t l (i+1):=by
 have e:((dif l).take i).length=i:=by rw[a05,a6C];omega
 have h1:l[i]?=some l[i]:=lG (by omega);have h2:l[i+1]?=some l[i+1]:=lG (by omega);have hd:=c5r l i _ _ h1 h2;have hlt:i<(dif l).length:=by rw[a6C];omega
 simp only[b2t];rw[List.set_append,if_neg (by omega),e,Nat.sub_self,a03 (show i<l.length by omega),List.set_cons_zero,a70 hlt,aA];have e2:(dif l)[i]=W (l.getD (i+1) 0-l.getD i 0):=by
  rw[lG hlt]at hd;rw[Option.some.inj hd,lD,lD,h1,h2];rfl
 rw[e2];rfl
theorem d2c{o:Int}(hs:short l)(h:1≤l.length):a0h a6u ((0:Int),o,k,l,())=some (o,k,b2t l (l.length-1),()):=by
 have hs:l.length<1000000:=hs;have h0:b2t l 0=l:=by simp[b2t]
 have:=a3G (f:=a6u) (fun i:Nat=>((i:Int),o,k,b2t l i,())) (l.length-1) (b:=(o,k,b2t l (l.length-1),()))
  (fun i hi=>by
   have w1:wrap .i64 ((i:Int)+1)=((i+1:Nat):Int):=a0d (by omega);have hl:=b7w (l:=l) (i:=i) (by omega);have d0:decide (((i+1:Nat):Int)<((l.length:Nat):Int))=true:=by simp;omega
   have d1:decide ((0:Int)≤((i+1:Nat):Int))=true:=by simp;omega
   have d2:decide ((0:Int)≤(i:Int))=true:=by simp
   have d3:decide ((i:Int)<((l.length:Nat):Int))=true:=by simp;omega
   have n1:a35 ((i+1:Nat):Int)=i+1:=by omega
   have n2:a35 (i:Int)=i:=by omega
   have st:=d5a (l:=l) (i:=i) (by omega);have g1:=c6l (l:=l) (i:=i) (j:=i+1) (by omega) (by omega);have g2:=c6l (l:=l) (i:=i) (j:=i) (by omega) (by omega);simp only[W]at st;simp only[a6u,w1,hl,d0,d1,d2,d3,n1,n2,g1,g2,st,a02,cT])
  (by
   have hl:=b7w (l:=l) (i:=l.length-1) (by omega);have w1:wrap .i64 (((l.length-1:Nat):Int)+1)=((l.length:Nat):Int):=by rw[a0f (by omega)];omega
   have d0:decide (((l.length:Nat):Int)<((l.length:Nat):Int))=false:=by simp
   simp only[a6u,w1,hl,d0,cF])
 simp only[nZ,a17,h0]at this;exact this
theorem d3E:(b2t l (l.length-1)).take (l.length-1)=dif l:=by
 have e:(dif l).take (l.length-1)=dif l:=a92 (by rw[a6C];omega);rw[b2t,e,List.take_append_of_le_length (by rw[a6C];omega),e]
theorem b9L(ho:o≤4)(hn:o≤l.length)(hs:short l)(hw:l.all a0b=true):
  a5E (l,(o:Int))=some (bif (a2m o l).all a0b then(a2m o l,0)else([],6)):=by
 have hs':l.length<1000000:=hs;have loop:=a3G (f:=a8Z) (fun k:Nat=>((o:Int),(k:Int),a2m k l,())) o (b:=(a2m o l,()))
  (fun k hk=>by
   have hk1:1≤(a2m k l).length:=by rw[a6L];omega
   have hks:(a2m k l).length<1000000:=b8V hs k;have d0:decide ((k:Int)<(o:Int))=true:=by simp;omega
   have hm:=b7w (l:=a2m k l) (i:=(a2m k l).length-1) (by omega);have w1:wrap .i64 ((((a2m k l).length:Nat):Int)-1)=(((a2m k l).length-1:Nat):Int):=by rw[a0f (by omega)];omega
   have w2:wrap .i64 ((k:Int)+1)=((k+1:Nat):Int):=a0d (by omega);have d1:decide ((0:Int)≤(((a2m k l).length-1:Nat):Int))=true:=by simp
   have d2:decide ((((a2m k l).length-1:Nat):Int)≤(((a2m k l).length:Nat):Int))=true:=by simp
   have d3:decide ((a2m k l).length-1≤(a2m k l).length)=true:=by simp
   have n1:a35 (((a2m k l).length-1:Nat):Int)=(a2m k l).length-1:=by omega
   simp only[a8Z,d0,cT,d2c (b8V hs k) hk1,oB,hm,w1,w2,d1,d2,d3,n1,a02,d3E,a2m])
  (by
   have d0:decide ((o:Int)<(o:Int))=false:=by simp
   simp only[a8Z,d0,cF])
 have c1:decide ((o:Int)<0)=false:=by simp
 have c2:decide ((o:Int) > 4)=false:=by simp;omega
 have c3:decide (((l.length:Nat):Int)<(o:Int))=false:=by simp;omega
 have c4:lim l.length=true:=a1u (by omega);simp only[nZ,a17]at loop;have e0:a2m 0 l=l:=rfl;rw[e0]at loop;unfold a5E;simp only[c1,c2,c3,c4,cF,cT,oB,a8r hs,hw,bT,loop,a8r (b8V hs o)];cases (a2m o l).all a0b<;>rfl
def ex:Nat→(Nat→Int)→Nat→Int
 |0,f,i=>f i
 |o+1,f,i=>ex o f (i+1)-ex o f i
theorem c2N{l:List Int}(hw:l.all a0b=true):∀(o i:Nat),i+o<l.length→(a2m o l)[i]?=some (W (ex o (fun j=>l.getD j 0) i))
 |0,i,h=>by
  have h:i<l.length:=by omega
  have e:l.getD i 0=l[i]:=by simp[lD,h]
  simp only[a2m,ex,e];rw[lG h,c0R (lA.1 hw _ (a09 h))]
 |o+1,i,h=>by
  have h1:=c2N hw o i (by omega);have h2:=c2N hw o (i+1) (by omega);simp only[a2m,ex];rw[c5r _ i _ _ h1 h2];simp only[W,a9B,Int.sub_bmod_bmod,Int.bmod_sub_bmod]
theorem d3F(hw:l.all a0b=true){j:Nat}(ho:o≤4)(h:o+j<l.length):W (W (ex o (fun j=>l.getD j 0) j)+a5H o (l.take (o+j)))=l.getD (o+j) 0:=by
 have hwide:a0b (l.getD (o+j) 0)=true:=by
  have e:l.getD (o+j) 0=l[o+j]:=by simp[lD,h]
  rw[e];exact lA.1 hw _ (a09 h)
 have at_eq:∀i:Nat,1≤i→i≤o→atB (l.take (o+j)) i=l.getD (o+j-i) 0:=fun i h1 h2=>by
  simp only[atB,a05,a76 (b05 h),lD,List.getElem?_take];rw[if_pos (by omega)]
 have key:ex o (fun j=>l.getD j 0) j+a5H o (l.take (o+j))=l.getD (o+j) 0:=by
  have h5:o=0∨o=1∨o=2∨o=3∨o=4:=by omega
  rcases h5 with rfl|rfl|rfl|rfl|rfl;simp[ex,a5H];simp only[ex,a5H,at_eq 1 (by omega) (by omega)];have e1:1+j-1=j:=by omega
  have e2:j+1=1+j:=by omega
  rw[e1,e2];omega;simp only[ex,a5H,at_eq 1 (by omega) (by omega),at_eq 2 (by omega) (by omega)];have e1:2+j-1=j+1:=by omega
  have e2:2+j-2=j:=by omega
  have e3:j+1+1=2+j:=by omega
  rw[e1,e2,e3];omega;simp only[ex,a5H,at_eq 1 (by omega) (by omega),at_eq 2 (by omega) (by omega),at_eq 3 (by omega) (by omega)];have e1:3+j-1=j+1+1:=by omega
  have e2:3+j-2=j+1:=by omega
  have e3:3+j-3=j:=by omega
  have e4:j+1+1+1=3+j:=by omega
  rw[e1,e2,e3,e4];omega;simp only[ex,a5H,at_eq 1 (by omega) (by omega),at_eq 2 (by omega) (by omega),at_eq 3 (by omega) (by omega),at_eq 4 (by omega) (by omega)];have e1:4+j-1=j+1+1+1:=by omega
  have e2:4+j-2=j+1+1:=by omega
  have e3:4+j-3=j+1:=by omega
  have e4:4+j-4=j:=by omega
  have e5:j+1+1+1+1=4+j:=by omega
  rw[e1,e2,e3,e4,e5];omega
 have:W (W (ex o (fun j=>l.getD j 0) j)+a5H o (l.take (o+j)))=W (ex o (fun j=>l.getD j 0) j+a5H o (l.take (o+j))):=by
  simp only[W,a9B,b07]
 rw[this,key,c0R hwide]
theorem c8C{l:List Int}(hw:l.all a0b=true){o:Nat}(ho:o≤4):∀(k j:Nat),o+j+k=l.length→a5a (a5H o) ((a2m o l).drop j) (l.take (o+j))=some l
 |0,j,h=>by
  rw[List.drop_of_length_le (by rw[a6L];omega),a92 (by omega)];rfl
 |k+1,j,h=>by
  have hlt:j<(a2m o l).length:=by rw[a6L];omega
  have hg:=c2N hw o j (by omega);rw[lG hlt]at hg;have e:=Option.some.inj hg;have e2:l.getD (o+j) 0=l[o+j]:=by simp[lD,show o+j<l.length by omega]
  have st:=d3F hw ho (show o+j<l.length by omega);rw[e2]at st;rw[a03 hlt,e];simp only[a5a,st,lA.1 hw _ (a09 (show o+j<l.length by omega)),cT];have et:l.take (o+j)++[l[o+j]]=l.take (o+(j+1)):=by
   rw[show o+(j+1)=(o+j)+1 by omega]
   simp
  rw[et];exact c8C hw ho k (j+1) (by omega)
theorem a8H{σ β:Type}{f:σ→Option (σ ⊕ β)}(I:Nat→σ→Prop)(Q:β→Prop)(n:Nat)(hstep:∀i s,i<n→I i s→∃s',f s=some (.inl s')∧I (i+1) s')
  (hexit:∀s,I n s→∃b,f s=some (.inr b)∧Q b):∀(k i:Nat)(s:σ),i+k=n→I i s→∃b,a0h f s=some b∧Q b
 |0,i,s,h,hi=>by
  obtain rfl:i=n:=by omega
  obtain⟨b,h1,h2⟩:=hexit s hi;exact⟨b,a0o h1,h2⟩
 |k+1,i,s,h,hi=>by
  obtain⟨s',h1,h2⟩:=hstep i s (by omega) hi;rw[a0q h1];exact a8H I Q n hstep hexit k (i+1) s' (by omega) h2
theorem c2i(y:Int):0≤wrap .u64 y∧wrap .u64 y<18446744073709551616:=by
 simp only[wrap,IntKind.bits,IntKind.signed]
 simp
 omega
def b3O(n:Int)(x:Int):Bool:=a0b x&&!(a43 x (a0z .i64 1 n) != 0)
def b8W{β:Type}(n:Int)(bad:β)(out:List Int)(x:Int):List Int ⊕ β:=bif b3O n x then .inl (out++[a0C .i64 x n])else .inr bad
def b2u(n:Int)(l:List Int):Option (List Int):=bif l.all (b3O n)then some (l.map fun x=>a0C .i64 x n)else none
theorem b9M{β:Type}(n:Int)(bad:β)(fin:List Int→β):∀(l out:List Int),b0n fin (a3H (b8W n bad) l out)=match b2u n l with|some r=>fin (out++r)|none=>bad
 | [],out=>by simp[a3H,b0n,b2u]
 |x::l,out=>by
  simp only[a3H,b8W,b2u,a08];cases hx:b3O n x with
  |true=>
   simp only[cT,a32];rw[b9M n bad fin l _];simp only[b2u];cases l.all (b3O n)with
   |true=>simp
   |false=>rfl
  |false=>rfl
theorem c8D(h:o≤30):a0z .i64 1 (o:Int)=((2^o:Nat):Int):=by
 have h2:2^o≤2^30:=a20 (by omega) h
 have:=c2K (N:=1) (o:=o) (by omega) (by omega)
 simpa using this
theorem b8i(h1:o≤30)(hr:l.length<100000):a8m (l,(o:Int))=some (a3l (b2u (o:Int) l)):=by
 have hsr:short l:=by unfold short;omega
 have g1:¬ (o:Int)<0:=by omega
 have g2:¬ (o:Int) > 30:=by omega
 have g3:(a0z .i64 (1:Int) (o:Int)==0)=false:=by
  rw[c8D h1]
  have:0<2^o:=a21 o
  simp only[beq_eq_false_iff_ne,ne_eq];omega
 unfold a8m;simp only[g1,g2,decide_false,cF,oB]
 have:=a2x (f:=a7K) l (fun i out=>((o:Int),l,(l.length:Int),(i:Int),out,())) (b8W (o:Int) (Sum.inr ((6:Int),([]:List Int),())))
  (fun i out=>out.length=i) (fun out=>Sum.inl (out,()))
  (fun i h out hI=>by
   have hlt:i<1000000:=by omega
   simp only[a7K,dlt h,cT,a0c h,oB,b8a,b8W,b3O,g1,g3,decide_false,cF];cases hb:a0b l[i]with
   |true=>
    cases hb2:(a43 l[i] (a0z .i64 1 (o:Int)) != 0)with
    |false=>
     simp only[cT,bT,cF,oB,g1,decide_false,a0I (show out.length+1<1000000 by omega),a0d hlt,a02,a38,hb2];refine⟨fun a' ha=>?_,fun b hb=>(by cases hb)⟩;simp only[Sum.inl.injEq]at ha;subst ha;exact⟨rfl,by simp;omega⟩
    |true=>
     refine⟨fun a' ha=>(by simp at ha),fun b hb=>?_⟩;simp only[a32,bT,cF,Sum.inr.injEq]at hb;subst hb;simp[hb2]
   |false=>
    refine⟨fun a' ha=>(by simp at ha),fun b hb=>?_⟩;simp only[a55,cF,Sum.inr.injEq]at hb;subst hb;rfl)
  (fun out _=>by simp[a7K]) (a:=[]) rfl
 simp only[nZ,b9M,a06]at this;rw[this];cases b2u (o:Int) l<;>rfl
theorem c2O(h:o≤30)(hx:b3O (o:Int) x=true):a0b (a0C .i64 x (o:Int))=true∧a0z .i64 (a0C .i64 x (o:Int)) (o:Int)=x∧a0b x=true:=by
 simp only[b3O,c8D h,bA,a34,bne_eq_false_iff_eq]at hx;obtain⟨hw,hm⟩:=hx;obtain⟨c,rfl⟩:=Int.dvd_of_tmod_eq_zero hm;have hw':=a2j.1 hw;have e:min (a35 (o:Int)) (IntKind.bits .i64)=o:=by simp only[tN,IntKind.bits];omega
 have hp:(0:Int)<2^o:=Int.pow_pos (by omega);have ep:((2^o:Nat):Int)=2^o:=by simp
 rw[ep]at hw' hw⊢;have e1:a0C .i64 (2^o*c) (o:Int)=c:=by
  unfold a0C;rw[e];exact a83 _ (by omega)
 rw[e1];refine⟨a2j.2 ?_,?_,hw⟩;generalize (2:Int)^o=p at hp hw';have hs:p*c=(p-1)*c+c:=by rw[b21];omega
 by_cases hc:0≤c
 have:=a66 (show 0≤p-1 by omega) hc
 omega
 have:=a66 (show 0≤p-1 by omega) (show 0≤-c by omega)
 rw[Int.mul_neg]at this;omega;unfold a0z;rw[e,a88];exact a0f (by omega)
theorem d6W(h:o≤30)(hd:b2u (o:Int) l=some d):d.all a0b=true∧d.length=l.length∧upO (o:Int) d=some l:=by
 unfold b2u at hd;cases ha:l.all (b3O (o:Int))with
 |false=>rw[ha]at hd;cases hd
 |true=>
  rw[ha]at hd;simp only[cT,sj]at hd;subst hd;have hall:=lA.1 ha;refine⟨?_,by simp,?_⟩;simp only[List.all_map];exact lA.2 fun x hx=>(c2O h (hall x hx)).1;have e1:(l.map fun x=>a0C .i64 x (o:Int)).all (fun x=>a0b x&&a0b (a0z .i64 x (o:Int)))=true:=by
   simp only[List.all_map];refine lA.2 fun x hx=>?_
   obtain⟨h1,h2,h3⟩:=c2O h (hall x hx);simp only[Function.comp,h1,h2,h3,a02]
  unfold upO;rw[e1];simp only[cT,sj,List.map_map];have em:l.map ((fun x=>a0z .i64 x (o:Int))∘fun x=>a0C .i64 x (o:Int))=l.map id:=List.map_congr_left (fun x hx=>(c2O h (hall x hx)).2.1);rw[em,List.map_id]
theorem d2d(h:a6J n warm=true):(a1C 0 n warm).length≠0:=by
 have h':=h;simp only[a6J,bA,dT]at h';unfold a1C b8c;have e:((n.toNat / 2^(0:Int).toNat:Nat):Int)=n:=by simp;omega
 have e2:n.toNat%2^(0:Int).toNat=0:=by simp;omega
 simp only[h,e,e2];simp[h'.2.2.2]
theorem a7S{n:Nat}(hn:n≤63)(h:N<2^n)(L:List Int):(a0w (N:Int) n L).length=L.length+n:=by
 unfold a0w;rw[a7y (N:=N) (o:=n) (by omega),a84 h];simp[b4m]
def a5P(k:Nat)(x:Int):Nat:=if a0u x / 2^k<32 then a0u x / 2^k+1+k else 65
theorem c8E{k:Nat}(hk:k≤25)(x:Int):a5P k x≤65:=by
 unfold a5P;split;rename_i h;generalize a0u x / 2^k=q at h;omega;omega
theorem d3G{k:Nat}(hk:k≤25)(hw:a0b x=true)(L:List Int):(a7R k x L).length=L.length+a5P k x:=by
 unfold a7R a5P;have hp:0<2^k:=a21 k;have hm:a0u x%2^k<2^k:=a45 _ hp;have hf:=b1p hw;split;rw[a7S (by omega) hm,b0g];omega;rw[a7S (n:=32) (by omega) (by omega),b0g]
theorem c3Z{k:Nat}(hk:k≤25):∀(l L:List Int),l.all a0b=true→(a4T k l L).length=L.length+(l.map (a5P k)).sum
 | [],L,_=>by simp[a4T]
 |x::l,L,h=>by
  simp only[a08,bA]at h;have e:a4T k (x::l) L=a4T k l (a7R k x L):=rfl;rw[e,c3Z hk l _ h.2,d3G hk h.1,a61,a52];omega
theorem c8F{k:Nat}(hk:k≤25)(hw:a0b x=true):a8E ((k:Int),x)=some ((a5P k x:Nat):Int):=by
 have hy:=b1p hw;have eq:a0C .u64 ((a0u x:Nat):Int) (k:Int)=((a0u x / 2^k:Nat):Int):=a7y (by omega);have ew:wrap .i64 ((a0u x / 2^k:Nat):Int)=((a0u x / 2^k:Nat):Int):=b6g (a49 (a51 _ _) hy);have hk0:decide ((k:Int)<0)=false:=by simp
 unfold a8E a5P;simp only[b0q hk,b2q,hw,oB,bT,cF,b2r hw,hk0,eq,ew];generalize a0u x / 2^k=q
 by_cases hq:q<32
 have hd:decide ((q:Int)<32)=true:=decide_eq_true (by omega);simp only[hd,cT,if_pos hq];rw[a0f (n:=(q:Int)+1) (by omega),a0f (by omega)];rfl;have hd:decide ((q:Int)<32)=false:=decide_eq_false (by omega);simp only[hd,cF,if_neg hq];rfl
theorem c8G{f:Int→Nat}{M:Nat}(h:∀x,f x≤M):∀l:List Int,(l.map f).sum≤M*l.length
 | []=>by simp
 |x::l=>by
  have:=h x
  have:=c8G h l
  rw[a61,a52,lC,b22,b23];omega
theorem c8H{f:Int→Nat}(h:i<l.length):((l.take (i+1)).map f).sum=((l.take i).map f).sum+f l[i]:=by
 rw[a70 h,pA,List.sum_append];simp only[a61,b06,a52,List.sum_nil,a87]
theorem c2j{k:Nat}(hk:k≤25)(hw:l.all a0b=true)(hl:l.length<10000):a4m ((k:Int),l)=some (((l.map (a5P k)).sum:Nat):Int):=by
 have:=a3G (f:=a4I) (fun i:Nat=>((k:Int),((((l.take i).map (a5P k)).sum:Nat):Int),l,(l.length:Int),(i:Int),())) l.length (b:=((((l.map (a5P k)).sum:Nat):Int),()))
  (fun i hi=>by
   have hc:=c8F hk (lA.1 hw _ (a09 hi));have h1:=c8G (c8E hk) (l.take (i+1));rw[c8H hi]at h1;rw[a05]at h1;have e:wrap .i64 (((((l.take i).map (a5P k)).sum:Nat):Int)+((a5P k l[i]:Nat):Int))=((((l.take (i+1)).map (a5P k)).sum:Nat):Int):=by
    rw[c8H hi,a0f (by omega)];omega
   simp only[a4I,dlt hi,cT,a0c hi,oB,hc,e,a0d (show i<1000000 by omega)])
  (by simp only[a4I,dge,cF,a29])
 unfold a4m;have e0:(((l.take 0).map (a5P k)).sum:Nat)=0:=rfl;simp only[e0,nZ]at this;simp only[this,oB]
theorem d5b(x:Int){n:Nat}(hn:n≤62):∃N:Nat,a0H x n=(N:Int)∧N<2^n:=by
 obtain⟨h1,h2⟩:=c2i x;obtain⟨y,hy⟩:=a00 h1;have hp:0<2^n:=a21 n;refine⟨y%2^n,?_,a45 _ hp⟩;unfold a0H;rw[hy];exact c8y (by omega) hn
theorem b6M{n:Nat}(hn:n≤62):∀(l L:List Int),(a1P n l L).length=L.length+n*l.length
 | [],L=>by simp[a1P]
 |x::l,L=>by
  have e:a1P n (x::l) L=a1P n l (a0w (a0H x n) n L):=rfl;obtain⟨N,h1,h2⟩:=d5b x hn;rw[e,b6M hn l,h1,a7S (by omega) h2,lC,b22,b23];omega
theorem d7W(h:a0b x=true):a1W x ((31:Nat):Int)=true:=by
 have:=a2j.1 h
 have e1:a0z .i64 (-1) (((31:Nat):Int)-1)=-1073741824:=by decide
 have e2:wrap .i64 (a0z .i64 1 (((31:Nat):Int)-1)-1)=1073741823:=by decide
 unfold a1W;rw[e1,e2];simp only[bA,dT];omega
theorem c4a{x:Int}(h:a0b x=true):∀(k w:Nat),w+k=32→1≤k→a2o x k w≤31
 |k+1,w,hk,_=>by
  simp only[a2o]
  by_cases h31:w=31
  subst h31;rw[d7W h]
  simp
  ·cases (x != 0)&&!a1W x w with
   |true=>exact c4a h k (w+1) (by omega) (by omega)
   |false=>simp only[cF];omega
theorem b6N:∀(l:List Int)(w:Nat),l.all a0b=true→w≤31→l.foldl (fun w x=>a2o x (32-w) w) w≤31
 | [],w,_,h=>h
 |x::l,w,hl,h=>by
  simp only[a08,bA]at hl;exact b6N l _ hl.2 (c4a hl.1 (32-w) w (by omega) (by omega))
theorem a2B(h:l.all a0b=true):a0l l≤31:=b6N l 0 h (by omega)
theorem b6h(hl:l.length<10000):a6I l=some (((5+a0l l*l.length:Nat)):Int):=by
 have hw:=a7x l;have hm:a0l l*l.length≤32*l.length:=a39 _ hw;unfold a6I;simp only[a2U (show short l by unfold short;omega),oB];have e:((a0l l:Nat):Int)*((l.length:Nat):Int)=((a0l l*l.length:Nat):Int):=by simp
 rw[e,a0f (n:=((a0l l*l.length:Nat):Int)) (by omega),a0f (by omega)];congr 1
def b3P(k:Int)(part:List Int):Nat:=5+(if k=31 then 5+a0l part*part.length else(part.map (a5P k.toNat)).sum)
def a4U:List Nat→List Int→List Int→Nat
 |z::zs,k::ks,l=>b3P k (l.take z)+a4U zs ks (l.drop z)
 |_,_,_=>0
theorem a2V{q:Nat}(h:q<2147483648):wrap .u64 (q:Int)=(q:Int):=a0G (by omega)
theorem d3H(hk:kB k=true)(hw:part.all a0b=true)(L:List Int):(b1b k part L).length=L.length+b3P k part:=by
 simp only[kB,a24,bA,dT,beq_iff_eq]at hk;obtain⟨K,rfl⟩:=a00 (show 0≤k by omega);have hK:K≤31:=by omega
 have h1:=a7S (N:=K) (n:=5) (by omega) (by omega) L;have hwd:=a2B hw;unfold b1b b3P;rw[a2V (by omega)];split;rw[b6M (by omega),a7S (n:=5) (by omega) (by omega),h1];omega;rw[c3Z (by omega) _ _ hw,h1];omega
theorem c4b:∀(zs:List Nat)(ks l L:List Int),ks.all kB=true→l.all a0b=true→(a4y zs ks l L).length=L.length+a4U zs ks l
 |z::zs,k::ks,l,L,h,hw=>by
  simp only[a08,bA]at h;have hwp:(l.take z).all a0b=true:=lA.2 fun x hx=>lA.1 hw x (a40 hx);have hwr:(l.drop z).all a0b=true:=lA.2 fun x hx=>lA.1 hw x (a41 hx);simp only[a4y,a4U];rw[c4b zs ks _ _ h.2 hwr,d3H h.1 hwp];omega
 | [],_,_,_,_,_=>by simp[a4y,a4U]
 |_::_,[],_,_,_,_=>by simp[a4y,a4U]
theorem d5c(hk:kB k=true)(part:List Int):b3P k part≤10+65*part.length:=by
 simp only[kB,a24,bA,dT,beq_iff_eq]at hk;unfold b3P;split;have hm:a0l part*part.length≤32*part.length:=a39 _ (a7x part);omega
 have:=c8G (c8E (k:=k.toNat) (by omega)) part
 omega
theorem b6i{zn:List Nat}{p:Prt}(hk:p.2.1.length=zn.length)(hall:p.2.1.all kB=true)(hz:zn.length≤256):∀(j i:Nat)(l:List Int)(c:Nat),i+j=zn.length→(zn.drop i).sum=l.length→l.all a0b=true→l.length≤5000→c+10*j+65*l.length<1000000→
  a0h a1K (l,(c:Int),(zn.length:Int),(i:Int),a1r zn,p,())=some (((c+a4U (zn.drop i) (p.2.1.drop i) l:Nat):Int),())
 |0,i,l,c,hi,_,_,_,_=>by
  obtain rfl:i=zn.length:=by omega
  rw[a22];exact a0o (by simp[a1K,a4U])
 |j+1,i,l,c,hi,hsum,hw,hl5,hb=>by
  have hlt:i<zn.length:=by omega
  have hki:i<p.2.1.length:=by omega
  have hkb:=lA.1 hall _ (a09 hki);rw[b8T hlt]at hsum;have h0:decide ((0:Int)≤(i:Int))=true:=by simp
  have h1:decide ((i:Int)<(((a1r zn).length:Nat):Int))=true:=by rw[a1L];simp;omega
  have h2:decide ((0:Int)≤((zn[i]:Nat):Int))=true:=by simp
  have h3:decide (((zn[i]:Nat):Int)≤((l.length:Nat):Int))=true:=by simp;omega
  have hpart:(l.take zn[i]).length=zn[i]:=by rw[a05];omega
  have hrest:(l.drop zn[i]).length=(zn.drop (i+1)).sum:=by rw[a07];omega
  have hwp:(l.take zn[i]).all a0b=true:=lA.2 fun x hx=>lA.1 hw x (a40 hx);have hwr:(l.drop zn[i]).all a0b=true:=lA.2 fun x hx=>lA.1 hw x (a41 hx);have hle:=d5c hkb (l.take zn[i]);rw[hpart]at hle;have goal:a1K (l,(c:Int),(zn.length:Int),(i:Int),a1r zn,p,())=some (.inl (l.drop zn[i],((c+b3P p.2.1[i] (l.take zn[i]):Nat):Int),(zn.length:Int),((i+1:Nat):Int),a1r zn,p,())):=by
   by_cases h31:p.2.1[i]=31
   have hne:(p.2.1[i]==31)=true:=by rw[h31];rfl
   have hr:=b6h (l:=l.take zn[i]) (by omega);have ec:b3P p.2.1[i] (l.take zn[i])=5+(5+a0l (l.take zn[i])*(l.take zn[i]).length):=by unfold b3P;rw[if_pos h31]
   rw[ec]at hle⊢;generalize 5+a0l (l.take zn[i])*(l.take zn[i]).length=r at hr hle⊢;have e1:wrap .i64 (5+(r:Int))=5+(r:Int):=a0f (by omega);have e2:wrap .i64 ((c:Int)+(5+(r:Int)))=((c+(5+r):Nat):Int):=by rw[a0f (by omega)];omega
   simp only[a1K,dlt hlt,h0,h1,a9D hlt,h2,h3,cT,a02,tN,a0c hki,oB,hne,hr,e1,e2,a29,a0d (show i<1000000 by omega)];have hne:(p.2.1[i]==31)=false:=by simp[h31]
   have hkb':=hkb;simp only[kB,a24,bA,dT,beq_iff_eq]at hkb';obtain⟨K,hK⟩:=a00 (show 0≤p.2.1[i]by omega);have hr:=c2j (k:=K) (by omega) hwp (by omega);have ec:b3P p.2.1[i] (l.take zn[i])=5+((l.take zn[i]).map (a5P K)).sum:=by unfold b3P;rw[if_neg h31,hK];rfl
   rw[←hK]at hr;rw[ec]at hle⊢;generalize ((l.take zn[i]).map (a5P K)).sum=r at hr hle⊢;have e1:wrap .i64 (5+(r:Int))=5+(r:Int):=a0f (by omega);have e2:wrap .i64 ((c:Int)+(5+(r:Int)))=((c+(5+r):Nat):Int):=by rw[a0f (by omega)];omega
   simp only[a1K,dlt hlt,h0,h1,a9D hlt,h2,h3,cT,cF,a02,tN,a0c hki,oB,hne,hr,e1,e2,a29,a0d (show i<1000000 by omega)]
  rw[a0q goal,b6i hk hall hz j (i+1) (l.drop zn[i]) _ (by omega) hrest.symm hwr (by rw[a07];omega) (by rw[a07];omega)];rw[a03 hlt,a03 hki];simp only[a4U];congr 3;omega
theorem c6X(h:PartsOk p n warm l zn):a5B (p,n,warm,l)=some ((4+a4U zn p.2.1 l:Nat):Int):=by
 have hk:Go.Ab.short p.2.1:=by have:=h.ks;have:=h.len;unfold Go.Ab.short;omega
 have h5:=h.short;have hz:=h.len;have h1:=b6i h.ks h.all h.len zn.length 0 l 4 (by omega) (by rw[a18];exact h.sum) h.wide h.short (by omega);simp only[nZ,a17,a18]at h1;unfold a5B;simp only[b6d hk,h.may,b2V h.row h.rest h.wide h.short,oB,bT,cF,a2E,h.sizes,a1L,h1]
theorem c6Y(h:PartsOk p n warm l zn)(L:List Int):(a5i p zn l L).length=L.length+(4+a4U zn p.2.1 l):=by
 obtain⟨o,ho⟩:=a00 h.order.1;have h2:=h.order.2;unfold a5i;rw[c4b _ _ _ _ h.all h.wide,ho,a2V (by omega),a7S (by omega) (by omega)];omega
def a2s(o:Int):Sub:=((0:Int),(0:Int),o,(0:Int),(0:Int),([]:List Int),a01 3 (0:Int),([]:List Stg),([]:List Int),((0:Int),([]:List Int),()),([]:List Int),())
theorem c9P(o:Int):SmallS (a2s o):=⟨by simp[a2s],by simp[a2s],by simp[a2s],by simp[a2s],by simp[a2s],by simp[a2s]⟩
theorem d2e(h:-1048576≤x∧x≤1048575):a3s (a2q x (-1048576)) 1048575=x:=by
 unfold a3s a2q;have h1:decide ((-1048576:Int) > x)=false:=decide_eq_false (by omega);have h2:decide ((1048575:Int)<x)=false:=decide_eq_false (by omega);simp only[h1,cF,h2]
theorem d9B(h:a0b x=true):-1048576≤a0C .i64 x ((10:Nat):Int)∧a0C .i64 x ((10:Nat):Int)≤1048575:=by
 have hx:=a2j.1 h;have e:a0C .i64 x ((10:Nat):Int)=x / 1024:=by
  show b28 x 1024=_;exact a37 _ (by decide)
 rw[e];omega
theorem c6m{x:Int}(hx:a0b x=true){a l:List Int}{n i:Int}:∀(k s:Nat),s+k=10→∃s':Nat,s'≤10∧a0h a4w (a,(s:Int),x,l,n,i,())=some (a,(s':Int),l,n,i,())
 |0,s,h=>by
  obtain rfl:s=10:=by omega
  have d0:decide (((10:Nat):Int)<0)=false:=by decide
  have hs:=d2e (d9B hx);refine⟨10,a42 _,a0o ?_⟩;simp only[a4w,d0,cF,a3p,oB,hs,bne_self_eq_false]
 |k+1,s,h=>by
  have d0:decide ((s:Int)<0)=false:=decide_eq_false (by omega);cases hc:(a3s (a2q (a0C .i64 x (s:Int)) (-1048576)) 1048575 != a0C .i64 x (s:Int))with
  |false=>exact⟨s,by omega,a0o (by simp only[a4w,d0,cF,a3p,oB,hc])⟩
  |true=>
   obtain⟨s',h1,h2⟩:=c6m hx (a:=a) (l:=l) (n:=n) (i:=i) k (s+1) (by omega);refine⟨s',h1,?_⟩;rw[a0q (s':=(a,((s+1:Nat):Int),x,l,n,i,())) (by simp only[a4w,d0,cF,a3p,oB,hc,cT,a0d (show s<1000000 by omega)])];exact h2
theorem c9Q(hw:l.all a0b=true)(hl:l.length<100000):∃r,a9b l=some r∧r.length=l.length:=by
 obtain⟨b,h1,s,h2,h3⟩:=a8H (f:=a6x) (fun i st=>∃s:Nat,s≤10∧st=(l,(s:Int),l,(l.length:Int),(i:Int),())) (fun b=>∃s:Nat,s≤10∧b=(l,(s:Int),())) l.length
  (fun i st hi h=>by
   obtain⟨s,hs,rfl⟩:=h;obtain⟨s',hs',e⟩:=c6m (lA.1 hw _ (a09 hi)) (a:=l) (l:=l) (n:=(l.length:Int)) (i:=(i:Int)) (10-s) s (by omega);exact⟨_,by simp only[a6x,dlt hi,cT,a0c hi,oB,e,a0d (show i<1000000 by omega)]<;>rfl,s',hs',rfl⟩)
  (fun st h=>by
   obtain⟨s,hs,rfl⟩:=h;exact⟨_,by simp only[a6x,dge,cF]<;>rfl,s,hs,rfl⟩) l.length 0 _ (by omega) ⟨0,by omega,rfl⟩
 subst h3;obtain⟨c,g1,o,g2,g3⟩:=a8H (f:=a6y) (fun i st=>∃o:List Int,st=((s:Int),l,(l.length:Int),(i:Int),o,())∧o.length=l.length) (fun b=>∃o:List Int,b=(o,())∧o.length=l.length) l.length
  (fun i st hi h=>by
   obtain⟨o,rfl,ho⟩:=h;have d0:decide ((s:Int)<0)=false:=decide_eq_false (by omega);have d1:decide ((0:Int)≤(i:Int))=true:=by simp
   have d2:decide ((i:Int)<((o.length:Nat):Int))=true:=decide_eq_true (by omega);exact⟨_,by simp only[a6y,dlt hi,cT,a0c hi,oB,d0,cF,d1,d2,a02,a0d (show i<1000000 by omega)]<;>rfl,_,rfl,by simp[ho]⟩)
  (fun st h=>by
   obtain⟨o,rfl,ho⟩:=h;exact⟨_,by simp only[a6y,dge,cF]<;>rfl,o,rfl,ho⟩) l.length 0 _ (by omega) ⟨a01 l.length 0,rfl,by simp⟩
 subst g2;refine⟨o,?_,g3⟩;have d0:decide ((0:Int)≤((l.length:Nat):Int))=true:=by simp
 have d1:decide (((l.length:Nat):Int)≤((l.length:Nat):Int))=true:=by simp
 have d2:lim l.length=true:=a0I (by omega);simp only[nZ]at h1 g1;unfold a9b;simp only[h1,oB,d0,d1,d2,tN,a02,cT,g1]
theorem c4c:∀(N:Nat)(num den:Int),den.toNat≤N→∃a b,a0h a4s (num,den,())=some (a,b,())
 |N,num,den,h=>by
  by_cases hd:den≥1099511627776
  ·have d0:decide (den≥(1099511627776:Int))=true:=decide_eq_true hd;have e:a0C .i64 den 1=den / 2:=by
    show b28 den 2=_;exact a37 _ (by decide)
   rw[a0q (s':=(a0C .i64 num 1,den / 2,())) (by simp only[a4s,d0,cT,e])]
   match N with
   |0=>omega
   |N+1=>exact c4c N _ _ (by omega)
  have d0:decide (den≥(1099511627776:Int))=false:=decide_eq_false hd;exact⟨num,den,a0o (by simp only[a4s,d0,cF])⟩
theorem c4d{f g:List Int}(hm:1≤m)(hg:g.length=f.length)(hl:f.length<100000)(hm2:m<1000):∃k,a5O (f,g,(m:Int))=some k:=by
 obtain⟨b,h1,num,den,h2⟩:=a8H (f:=a4r) (fun i st=>∃num den:Int,st=(f,g,num,den,((m+i:Nat):Int),())) (fun b=>∃num den:Int,b=(num,den,())) (f.length-m)
  (fun i st hi h=>by
   obtain⟨num,den,rfl⟩:=h;have hlt:m+i<f.length:=by omega
   have e:wrap .i64 (((m+i:Nat):Int)-1)=((m+i-1:Nat):Int):=by rw[a0f (by omega)];omega
   exact⟨_,by simp only[a4r,dlt hlt,cT,a0c hlt,e,a0c (show m+i-1<g.length by omega),oB,a0d (show m+i<1000000 by omega)]<;>rfl,_,_,rfl⟩)
  (fun st h=>by
   obtain⟨num,den,rfl⟩:=h;have d0:decide (((m+(f.length-m):Nat):Int)<((f.length:Nat):Int))=false:=decide_eq_false (by omega);exact⟨_,by simp only[a4r,d0,cF]<;>rfl,_,_,rfl⟩) (f.length-m) 0 (f,g,0,0,(m:Int),()) (by omega) ⟨0,0,rfl⟩
 subst h2;obtain⟨a,c,h3⟩:=c4c den.toNat num den (a42 _);unfold a5O;simp only[h1,oB,h3];cases hc:(c==0)with
 |true=>exact⟨0,rfl⟩
 |false=>
  simp only[cF];cases decide ((a0z .i64 a 15).tmod c<0)<;>exact⟨_,rfl⟩
theorem c6Z{f g:List Int}{order:Int}(hm:1≤m)(hg:g.length=f.length)(hl:f.length<100000)(hm2:m<1000):
  ∃f' g':List Int,a0h a4c (order,(m:Int),k,((f.length:Nat):Int)-1,f,g,ks,())=some (order,(m:Int),f',g',ks,())∧f'.length=f.length∧g'.length=f.length:=by
 obtain⟨b,h1,f',g',h2,h3⟩:=a8H (f:=a4c) (fun i st=>∃f' g':List Int,st=(order,(m:Int),k,((f.length:Nat):Int)-1-(i:Int),f',g',ks,())∧f'.length=f.length∧g'.length=f.length)
  (fun b=>∃f' g':List Int,b=(order,(m:Int),f',g',ks,())∧f'.length=f.length∧g'.length=f.length) (f.length-m)
  (fun i st hi h=>by
   obtain⟨f',g',rfl,hf',hg'⟩:=h;have d0:decide (((f.length:Nat):Int)-1-(i:Int)≥(m:Int))=true:=decide_eq_true (by omega);have d1:decide ((0:Int)≤((f.length:Nat):Int)-1-(i:Int))=true:=decide_eq_true (by omega);have d2:decide (((f.length:Nat):Int)-1-(i:Int)<((f'.length:Nat):Int))=true:=decide_eq_true (by omega);have d3:decide (((f.length:Nat):Int)-1-(i:Int)<((g'.length:Nat):Int))=true:=decide_eq_true (by omega);have e:wrap .i64 (((f.length:Nat):Int)-1-(i:Int)-1)=((f.length:Nat):Int)-1-((i+1:Nat):Int):=by rw[a0f (by omega)];omega
   have d4:decide ((0:Int)≤((f.length:Nat):Int)-1-((i+1:Nat):Int))=true:=decide_eq_true (by omega);have d5:decide (((f.length:Nat):Int)-1-((i+1:Nat):Int)<((g'.length:Nat):Int))=true:=decide_eq_true (by omega);exact⟨_,by simp only[a4c,d0,d1,d2,d3,e,d4,d5,cT,a02,a3p,oB]<;>rfl,_,_,rfl,by simp[hf'],by simp[hg']⟩)
  (fun st h=>by
   obtain⟨f',g',rfl,hf',hg'⟩:=h;have d0:decide (((f.length:Nat):Int)-1-((f.length-m:Nat):Int)≥(m:Int))=false:=decide_eq_false (by omega);exact⟨_,by simp only[a4c,d0,cF]<;>rfl,f',g',rfl,hf',hg'⟩) (f.length-m) 0 _ (by omega) ⟨f,g,rfl,rfl,hg⟩
 subst h2;simp only[nZ,Int.sub_zero]at h1;exact⟨f',g',h1,h3⟩
theorem c8I{f g:List Int}(ho:o≤32)(hg:g.length=f.length)(hl:f.length<100000):∃ks:List Int,a0h a4d ((o:Int),(1:Int),f,g,([]:List Int),())=some (ks,())∧ks.length=o:=by
 obtain⟨b,h1,ks,h2,h3⟩:=a8H (f:=a4d) (fun i st=>∃f' g' ks:List Int,st=((o:Int),((i+1:Nat):Int),f',g',ks,())∧f'.length=f.length∧g'.length=f.length∧ks.length=i)
  (fun b=>∃ks:List Int,b=(ks,())∧ks.length=o) o
  (fun i st hi h=>by
   obtain⟨f',g',ks,rfl,hf',hg',hk⟩:=h;have d0:decide (((i+1:Nat):Int)≤(o:Int))=true:=decide_eq_true (by omega);obtain⟨k,hk2⟩:=c4d (f:=f') (g:=g') (m:=i+1) (by omega) (by omega) (by omega) (by omega);have e:wrap .i64 (((f'.length:Nat):Int)-1)=((f'.length:Nat):Int)-1:=a0f (by omega);obtain⟨f2,g2,h1,h2,h3⟩:=c6Z (f:=f') (g:=g') (ks:=ks++[k]) (m:=i+1) (order:=(o:Int)) (k:=k) (by omega) (by omega) (by omega) (by omega);have hlim:lim (ks.length+1)=true:=a0I (by omega);exact⟨_,by simp only[a4d,d0,cT,hk2,oB,hlim,e,a16,h1,a0d (show i+1<1000000 by omega)]<;>rfl,f2,g2,ks++[k],rfl,by omega,by omega,by simp[hk]⟩)
  (fun st h=>by
   obtain⟨f',g',ks,rfl,hf',hg',hk⟩:=h;have d0:decide (((o+1:Nat):Int)≤(o:Int))=false:=decide_eq_false (by omega);exact⟨_,by simp only[a4d,d0,cF]<;>rfl,ks,rfl,hk⟩) o 0 _ (by omega) ⟨f,g,[],rfl,rfl,hg,rfl⟩
 subst h2;exact⟨ks,h1,h3⟩
theorem c8J(hw:l.all a0b=true)(hl:l.length≤4096)(h1:1≤o)(h2:o≤32):∃ks:List Int,a7L (l,(o:Int))=some (ks,0)∧ks.length=o:=by
 have hs:short l:=by unfold short;omega
 obtain⟨r,e1,e2⟩:=c9Q hw (by omega);have hr:short r:=by unfold short;omega
 obtain⟨ks,e3,e4⟩:=c8I (f:=r) (g:=r) h2 rfl (by omega);have c1:decide ((o:Int)<1)=false:=decide_eq_false (by omega);have c2:decide ((o:Int) > 32)=false:=decide_eq_false (by omega);have c3:decide (((l.length:Nat):Int) > 4096)=false:=decide_eq_false (by omega);have c4:decide ((0:Int)≤(o:Int))=true:=by simp
 have c5:lim o=true:=a0I (by omega);refine⟨ks,?_,e4⟩;unfold a7L;simp only[c1,c2,c3,c4,c5,cF,cT,oB,a6W hs,hw,bT,e1,a7P hr,tN,a02,e3]
theorem b6j{σ β:Type}{f:σ→Option (σ ⊕ β)}(I:Nat→σ→Prop)(Q:β→Prop)(n:Nat)(hstep:∀i s,i<n→I i s→(∃s',f s=some (.inl s')∧I (i+1) s')∨(∃b,f s=some (.inr b)∧Q b))
  (hexit:∀s,I n s→∃b,f s=some (.inr b)∧Q b):∀(k i:Nat)(s:σ),i+k=n→I i s→∃b,a0h f s=some b∧Q b
 |0,i,s,h,hi=>by
  obtain rfl:i=n:=by omega
  obtain⟨b,h1,h2⟩:=hexit s hi;exact⟨b,a0o h1,h2⟩
 |k+1,i,s,h,hi=>by
  rcases hstep i s (by omega) hi with⟨s',h1,h2⟩|⟨b,h1,h2⟩;rw[a0q h1];exact b6j I Q n hstep hexit k (i+1) s' (by omega) h2;exact⟨b,a0o h1,h2⟩
theorem c9R(hl:ks.length≤32):∃b,a0h a2M (ks,ks,(ks.length:Int),(0:Int),())=some b∧(b=.inl (ks,())∨b=.inr (([]:List Int),(1:Int),())):=
 b6j (f:=a2M) (fun i s=>s=(ks,ks,(ks.length:Int),(i:Int),())) (fun b=>b=.inl (ks,())∨b=.inr (([]:List Int),(1:Int),())) ks.length
  (fun i s hi h=>by
   subst h;cases h1:decide (ks[i]<(-16383:Int))with
   |true=>exact Or.inr ⟨_,by simp only[a2M,dlt hi,cT,a0c hi,oB,h1]<;>rfl,Or.inr rfl⟩
   |false=>
    cases h2:decide (ks[i] > (16383:Int))with
    |true=>exact Or.inr ⟨_,by simp only[a2M,dlt hi,cT,cF,a0c hi,oB,h1,h2]<;>rfl,Or.inr rfl⟩
    |false=>exact Or.inl ⟨_,by simp only[a2M,dlt hi,cT,cF,a0c hi,oB,h1,h2,a0d (show i<1000000 by omega)]<;>rfl,rfl⟩)
  (fun s h=>by
   subst h;exact⟨_,by simp only[a2M,dge,cF]<;>rfl,Or.inl rfl⟩) ks.length 0 _ (by omega) rfl
theorem c9S{c a:List Int}(hc:c.length=i)(hi:i≤32):
  ∃nx:List Int,a0h a4R (c,(i:Int),k,a,n,(i:Int),c,(c.length:Int),(0:Int),([]:List Int),())=some (k,a,n,(i:Int),nx,())∧nx.length=i:=by
 obtain⟨b,h1,nx,h2,h3⟩:=a8H (f:=a4R) (fun j s=>∃nx:List Int,s=(c,(i:Int),k,a,n,(i:Int),c,(c.length:Int),(j:Int),nx,())∧nx.length=j)
  (fun b=>∃nx:List Int,b=(k,a,n,(i:Int),nx,())∧nx.length=c.length) c.length
  (fun j s hj h=>by
   obtain⟨nx,rfl,hn⟩:=h;have e1:wrap .i64 ((i:Int)-1)=(i:Int)-1:=a0f (by omega);have e2:wrap .i64 ((i:Int)-1-(j:Int))=((i-1-j:Nat):Int):=by rw[a0f (by omega)];omega
   have hlim:lim (nx.length+1)=true:=a0I (by omega);exact⟨_,by simp only[a4R,dlt hj,cT,a0c hj,oB,e1,e2,a0c (show i-1-j<c.length by omega),hlim,a0d (show j<1000000 by omega),a16]<;>rfl,_,rfl,by simp[hn]⟩)
  (fun s h=>by
   obtain⟨nx,rfl,hn⟩:=h;exact⟨_,by simp only[a4R,dge,cF]<;>rfl,nx,rfl,hn⟩) c.length 0 _ (by omega) ⟨[],rfl,rfl⟩
 subst h2;exact⟨nx,h1,by omega⟩
theorem d2f(h1:1≤ks.length)(hl:ks.length≤32):∃c e,b0d ks=some (c,e)∧(e=0→c.length=ks.length):=by
 obtain⟨b,g1,g2⟩:=c9R hl;have c1:decide (((ks.length:Nat):Int)<1)=false:=decide_eq_false (by omega);have c2:decide (((ks.length:Nat):Int) > 32)=false:=decide_eq_false (by omega);unfold b0d;simp only[c1,c2,cF,oB,g1];rcases g2 with rfl|rfl;obtain⟨r,h2,c,h3,h4⟩:=a8H (f:=a6V) (fun i s=>∃c:List Int,s=(c,ks,(ks.length:Int),(i:Int),())∧c.length=i) (fun r=>∃c:List Int,r=(c,())∧c.length=ks.length) ks.length
  (fun i s hi h=>by
   obtain⟨c,rfl,hc⟩:=h;have e1:wrap .i64 ((i:Int)+1)=((i+1:Nat):Int):=a0d (by omega);have d1:decide ((0:Int)≤((i+1:Nat):Int))=true:=by simp;omega
   have l1:lim (i+1)=true:=a0I (by omega);obtain⟨nx,n1,n2⟩:=c9S (c:=c) (a:=ks) (i:=i) (k:=ks[i]) (n:=(ks.length:Int)) hc (by omega);have l2:lim (nx.length+1)=true:=a0I (by omega);exact⟨_,by simp only[a6V,dlt hi,cT,a0c hi,oB,e1,d1,tN,l1,a02,n1,l2,a16]<;>rfl,_,rfl,by simp[n2]⟩)
  (fun s h=>by
   obtain⟨c,rfl,hc⟩:=h;exact⟨_,by simp only[a6V,dge,cF]<;>rfl,c,rfl,hc⟩) ks.length 0 _ (by omega) ⟨[],rfl,rfl⟩
 subst h3;simp only[nZ]at h2;exact⟨c,0,by simp only[h2,oB],fun _=>h4⟩;exact⟨[],1,rfl,fun h=>absurd h (by decide)⟩
theorem c9T{c:List Int}{s:Nat}{half:Int}(hc:c.length≤32)(hw:w≤32):
  ∃out:List Int,a0h a2O (c,(w:Int),(s:Int),half,c,(c.length:Int),(0:Int),([]:List Int),())=some (c,(w:Int),(s:Int),out,()):=by
 obtain⟨b,h1,out,h2⟩:=b6j (f:=a2O) (fun j st=>∃out:List Int,st=(c,(w:Int),(s:Int),half,c,(c.length:Int),(j:Int),out,())∧out.length=j)
  (fun b=>∃out:List Int,b=(c,(w:Int),(s:Int),out,())) c.length
  (fun j st hj h=>by
   obtain⟨out,rfl,ho⟩:=h;have d0:decide ((s:Int)<0)=false:=decide_eq_false (by omega);have hlim:lim (out.length+1)=true:=a0I (by omega);cases hf:a1W (a0C .i64 (wrap .i64 (c[j]+half)) (s:Int)) (w:Int)with
   |true=>exact Or.inl ⟨_,by simp only[a2O,dlt hj,cT,a0c hj,oB,d0,cF,a7r hw,hf,bT,hlim,a0d (show j<1000000 by omega),a16]<;>rfl,_,rfl,by simp[ho]⟩
   |false=>exact Or.inr ⟨_,by simp only[a2O,dlt hj,cT,a0c hj,oB,d0,cF,a7r hw,hf,a38]<;>rfl,out,rfl⟩)
  (fun st h=>by
   obtain⟨out,rfl,ho⟩:=h;exact⟨_,by simp only[a2O,dge,cF]<;>rfl,out,rfl⟩) c.length 0 _ (by omega) ⟨[],rfl,rfl⟩
 subst h2;exact⟨out,h1⟩
theorem c9U{c:List Int}{w:Int}(hl:c.length≤32):∃b,a0h a2N (c,w,c,(c.length:Int),(0:Int),())=some b∧(b=.inl (c,w,())∨b=.inr ((0:Int),(1:Int),([]:List Int),())):=
 b6j (f:=a2N) (fun i s=>s=(c,w,c,(c.length:Int),(i:Int),())) (fun b=>b=.inl (c,w,())∨b=.inr ((0:Int),(1:Int),([]:List Int),())) c.length
  (fun i s hi h=>by
   subst h;cases h1:decide (c[i]<(-35184372088832:Int))with
   |true=>exact Or.inr ⟨_,by simp only[a2N,dlt hi,cT,a0c hi,oB,h1]<;>rfl,Or.inr rfl⟩
   |false=>
    cases h2:decide (c[i] > (35184372088832:Int))with
    |true=>exact Or.inr ⟨_,by simp only[a2N,dlt hi,cT,cF,a0c hi,oB,h1,h2]<;>rfl,Or.inr rfl⟩
    |false=>exact Or.inl ⟨_,by simp only[a2N,dlt hi,cT,cF,a0c hi,oB,h1,h2,a0d (show i<1000000 by omega)]<;>rfl,rfl⟩)
  (fun s h=>by
   subst h;exact⟨_,by simp only[a2N,dge,cF]<;>rfl,Or.inl rfl⟩) c.length 0 _ (by omega) rfl
theorem d2g{c:List Int}(h1:1≤c.length)(hl:c.length≤32)(hw:2≤w∧w≤16):∃o sh e,b0e (c,(w:Int))=some (o,sh,e)∧(e=0→o.length=c.length):=by
 obtain⟨b,g1,g2⟩:=c9U (w:=(w:Int)) hl;have c1:decide (((c.length:Nat):Int)<1)=false:=decide_eq_false (by omega);have c2:decide (((c.length:Nat):Int) > 32)=false:=decide_eq_false (by omega);have c3:decide ((w:Int)<2)=false:=decide_eq_false (by omega);have c4:decide ((w:Int) > 16)=false:=decide_eq_false (by omega);unfold b0e;simp only[c1,c2,c3,c4,cF,oB,g1];rcases g2 with rfl|rfl
 ·obtain⟨r,h2,h3⟩:=b6j (f:=a2P) (fun i s=>s=(c,(w:Int),(i:Int),())) (fun r=>r=.inl ()∨∃(sh:Int)(o:List Int),r=.inr (sh,(0:Int),o,())∧o.length=c.length) 15
   (fun i s hi h=>by
    subst h;have d0:decide ((i:Int)≤14)=true:=decide_eq_true (by omega);have d1:decide ((0:Int)≤((c.length:Nat):Int))=true:=by simp
    have l1:lim c.length=true:=a0I (by omega);have step:∀half:Int,∃o:List Int,a0h a2O (c,(w:Int),(i:Int),half,c,(c.length:Int),(0:Int),([]:List Int),())=some (c,(w:Int),(i:Int),o,()):=fun half=>c9T hl (by omega)
    by_cases hp:(i:Int) > 0
    ·have e1:wrap .i64 ((i:Int)-1)=(i:Int)-1:=a0f (by omega);have d2:decide ((i:Int)-1<0)=false:=decide_eq_false (by omega);obtain⟨o,ho⟩:=step (a0z .i64 1 ((i:Int)-1));cases hc:((((o.length:Nat):Int))==((c.length:Nat):Int))with
     |true=>exact Or.inr ⟨_,by simp only[a2P,d0,cT,hp,decide_true,e1,d2,cF,oB,d1,tN,l1,a02,ho,hc]<;>rfl,Or.inr ⟨_,o,rfl,by have:=beq_iff_eq.1 hc;omega⟩⟩
     |false=>exact Or.inl ⟨_,by simp only[a2P,d0,cT,hp,decide_true,e1,d2,cF,oB,d1,tN,l1,a02,ho,hc,a0d (show i<1000000 by omega)]<;>rfl,rfl⟩
    ·obtain⟨o,ho⟩:=step 0;cases hc:((((o.length:Nat):Int))==((c.length:Nat):Int))with
     |true=>exact Or.inr ⟨_,by simp only[a2P,d0,cT,hp,decide_false,cF,oB,d1,tN,l1,a02,ho,hc]<;>rfl,Or.inr ⟨_,o,rfl,by have:=beq_iff_eq.1 hc;omega⟩⟩
     |false=>exact Or.inl ⟨_,by simp only[a2P,d0,cT,hp,decide_false,cF,oB,d1,tN,l1,a02,ho,hc,a0d (show i<1000000 by omega)]<;>rfl,rfl⟩)
   (fun s h=>by
    subst h;have d0:decide (((15:Nat):Int)≤14)=false:=by decide
    exact⟨_,by simp only[a2P,d0,cF]<;>rfl,Or.inl rfl⟩) 15 0 (c,(w:Int),(0:Int),()) (by omega) rfl
  rcases h3 with rfl|⟨sh,o,rfl,ho⟩;exact⟨[],0,6,by simp only[h2,oB],fun h=>absurd h (by decide)⟩;exact⟨o,sh,0,by simp only[h2,oB],fun _=>ho⟩
 exact⟨[],0,1,rfl,fun h=>absurd h (by decide)⟩
theorem d3I(hw:l.all a0b=true)(hl:l.length≤4096)(h1:1≤o)(h2:o≤32)(h3:2≤w∧w≤16):∃c sh e,a4J (l,(o:Int),(w:Int))=some (c,sh,e)∧(e=0→c.length=o):=by
 obtain⟨ks,e1,e2⟩:=c8J hw hl h1 h2;obtain⟨c,e,g1,g2⟩:=d2f (ks:=ks) (by omega) (by omega);unfold a4J;simp only[e1,oB,show((0:Int) != 0)=false from rfl,cF,g1]
 by_cases he:e=0
 subst he;obtain⟨o',sh,e',g3,g4⟩:=d2g (c:=c) (w:=w) (by have:=g2 rfl;omega) (by have:=g2 rfl;omega) h3
 have:=g2 rfl
 exact⟨o',sh,e',by simp only[show((0:Int) != 0)=false from rfl,cF,g3,oB],fun h=>by have:=g4 h;omega⟩;have hne:(e != 0)=true:=by simpa using he
 exact⟨[],0,e,by simp only[hne,cT],fun h=>absurd h he⟩
theorem d2h(hl:l.length<100000)(ho:o≤4):∃v,b0Y (l,(o:Int))=some v:=by
 obtain⟨b,h1,v,h2⟩:=a8H (f:=a5G) (fun i s=>∃v:Int,s=((o:Int),v,l,(l.length:Int),(i:Int),())) (fun b=>∃v:Int,b=(v,())) l.length
  (fun i s hi h=>by
   obtain⟨v,rfl⟩:=h;cases hc:decide (wrap .i64 ((i:Int)+(o:Int))≥4)with
   |true=>exact⟨_,by simp only[a5G,dlt hi,cT,a0c hi,oB,hc,a0d (show i<1000000 by omega)]<;>rfl,_,rfl⟩
   |false=>exact⟨_,by simp only[a5G,dlt hi,cT,cF,a0c hi,oB,hc,a0d (show i<1000000 by omega)]<;>rfl,_,rfl⟩)
  (fun s h=>by
   obtain⟨v,rfl⟩:=h;exact⟨_,by simp only[a5G,dge,cF]<;>rfl,v,rfl⟩) l.length 0 ((o:Int),(0:Int),l,(l.length:Int),(0:Int),()) (by omega) ⟨0,rfl⟩
 subst h2;refine⟨v,?_⟩;unfold b0Y;simp only[h1,oB]
theorem c4e(ho:o≤4)(hs:l.length<100000)(hw:l.all a0b=true):∃r e,a5E (l,(o:Int))=some (r,e)∧r.length≤l.length:=by
 by_cases hn:o≤l.length
 ·rw[b9L ho hn (by unfold short;omega) hw];cases (a2m o l).all a0b with
  |true=>exact⟨_,_,rfl,by rw[a6L];omega⟩
  |false=>exact⟨_,_,rfl,by simp⟩
 have c1:decide ((o:Int)<0)=false:=decide_eq_false (by omega);have c2:decide ((o:Int) > 4)=false:=decide_eq_false (by omega);have c3:decide (((l.length:Nat):Int)<(o:Int))=true:=decide_eq_true (by omega);exact⟨[],1,by unfold a5E;simp only[c1,c2,c3,cF,cT,oB],by simp⟩
theorem c4f(hs:l.length<100000)(hw:l.all a0b=true):∃o:Nat,a7i l=some (o:Int)∧o≤4:=by
 obtain⟨b,h1,o,h2,h3⟩:=a8H (f:=a3F) (fun i s=>∃(o:Nat)(v:Int),s=(l,(o:Int),v,(i:Int),())∧o≤4) (fun b=>∃o:Nat,b=((o:Int),())∧o≤4) 5
  (fun i s hi h=>by
   obtain⟨o,v,rfl,ho⟩:=h;have d0:decide ((i:Int)≤4)=true:=decide_eq_true (by omega);obtain⟨r,e,g1,g2⟩:=c4e (o:=i) (by omega) hs hw;obtain⟨y,g3⟩:=d2h (l:=r) (o:=i) (by omega) (by omega);cases hc:(e != 0)with
   |true=>exact⟨_,by simp only[a3F,d0,cT,g1,oB,hc,a0d (show i<1000000 by omega)]<;>rfl,o,v,rfl,ho⟩
   |false=>
    cases h4:decide (v<0)with
    |true=>exact⟨_,by simp only[a3F,d0,cT,cF,g1,oB,hc,g3,h4,a0d (show i<1000000 by omega)]<;>rfl,i,y,rfl,by omega⟩
    |false=>
     cases h5:decide (y<v)with
     |true=>exact⟨_,by simp only[a3F,d0,cT,cF,g1,oB,hc,g3,h4,h5,a0d (show i<1000000 by omega)]<;>rfl,i,y,rfl,by omega⟩
     |false=>exact⟨_,by simp only[a3F,d0,cT,cF,g1,oB,hc,g3,h4,h5,a0d (show i<1000000 by omega)]<;>rfl,o,v,rfl,ho⟩)
  (fun s h=>by
   obtain⟨o,v,rfl,ho⟩:=h;have d0:decide (((5:Nat):Int)≤4)=false:=by decide
   exact⟨_,by simp only[a3F,d0,cF]<;>rfl,o,rfl,ho⟩) 5 0 (l,(0:Int),(-1:Int),(0:Int),()) (by omega) ⟨0,-1,rfl,by omega⟩
 subst h2;refine⟨o,?_,h3⟩;unfold a7i;simp only[h1,oB]
def a9c(g:List Int→Int):List Int→List Int→List Int
 | [],_=>[]
 |x::r,done=>W (x-g done)::a9c g r (done++[x])
theorem b6k(g:List Int→Int):∀r done,(a9c g r done).length=r.length
 | [],_=>rfl
 |x::r,done=>by simp[a9c,b6k g r]
theorem d3J(h:a0b x=true):W (W (x-g)+g)=x:=by
 have:=c0R h
 simp only[W,a9B,b07]at *;rw[show x-g+g=x from by omega];exact this
theorem b8X(g:List Int→Int):∀(r done:List Int),r.all a0b=true→a5a g (a9c g r done) done=some (done++r)
 | [],done,_=>by simp[a9c,a5a]
 |x::r,done,h=>by
  rw[a08,bA]at h;simp only[a9c,a5a,d3J h.1,h.1,cT,b8X g r (done++[x]) h.2,aA,a53]
def b3Q(g:List Int→Int)(r done:List Int):Option (List Int):=bif (a9c g r done).all a0b then some (a9c g r done)else none
def b6O{β:Type}(g:List Int→Int)(bad:β)(a:List Int×List Int)(x:Int):(List Int×List Int) ⊕ β:=
 bif a0b (W (x-g a.1))then .inl (a.1++[x],a.2++[W (x-g a.1)])else .inr bad
theorem b8Y{β:Type}(g:List Int→Int)(bad:β)(fin:List Int×List Int→β):∀(r done acc:List Int),
  b0n fin (a3H (b6O g bad) r (done,acc))=match b3Q g r done with|some e=>fin (done++r,acc++e)|none=>bad
 | [],done,acc=>by simp[a3H,b0n,b3Q,a9c]
 |x::r,done,acc=>by
  simp only[a3H,b6O];cases h:a0b (W (x-g done))with
  |true=>
   simp only[cT];rw[b8Y g bad fin r];simp only[b3Q,a9c,a08,h,a32];cases (a9c g r (done++[x])).all a0b<;>simp
  |false=>simp[b0n,b3Q,a9c,h]
theorem c4g{g:List Int→Int}{done e:List Int}(h:b3Q g r done=some e):e=a9c g r done∧e.all a0b=true:=by
 unfold b3Q at h;cases hc:(a9c g r done).all a0b with
 |true=>simp only[hc,cT,sj]at h;subst h;exact⟨rfl,hc⟩
 |false=>simp[hc]at h
theorem c6n(h:i<l.length):l.take i++[l[i]]=l.take (i+1):=by rw[List.take_append_getElem h]
theorem b2W{p:Int→Bool}(h:l.all p=true)(i:Nat):(l.take i).all p=true:=by
 rw[lA]at h⊢;exact fun x hx=>h x (a40 hx)
theorem c8K{p:Int→Bool}(h:l.all p=true)(i:Nat):(l.drop i).all p=true:=by
 rw[lA]at h⊢;exact fun x hx=>h x (a41 hx)
theorem c6o{σ β:Type}{f:σ→Option (σ ⊕ β)}(l:List Int)(k:Nat)(hk:k≤l.length)(S:Nat→List Int→σ)(g:List Int×List Int→Int→(List Int×List Int) ⊕ β)(fin:List Int→β)
  (hstep:∀i (h:i<l.length) acc,k≤i→acc.length=i-k→(∀a',g (l.take i,acc) l[i]=.inl a'→f (S i acc)=some (.inl (S (i+1) a'.2))∧a'.1=l.take (i+1)∧a'.2.length=i+1-k)∧(∀b,g (l.take i,acc) l[i]=.inr b→f (S i acc)=some (.inr b)))
  (hexit:∀acc,acc.length=l.length-k→f (S l.length acc)=some (.inr (fin acc))):a0h f (S k [])=some (b0n (fun a=>fin a.2) (a3H g (l.drop k) (l.take k,[]))):=by
 have h:=a2x (f:=f) (l.drop k) (fun i a=>S (k+i) a.2) g (fun i a=>a.1=l.take (k+i)∧a.2.length=i) (fun a=>fin a.2)
  (fun i hi a ha=>by
   obtain⟨a1,acc⟩:=a;obtain⟨h1,h2⟩:=ha;simp only at h1 h2;subst h1;rw[a07]at hi;have hlt:k+i<l.length:=by omega
   have e:(l.drop k)[i]'(by rw[a07];exact hi)=l[k+i]:=by rw[List.getElem_drop]
   rw[e];obtain⟨g1,g2⟩:=hstep (k+i) hlt acc (by omega) (by omega);refine⟨fun a' ha'=>?_,g2⟩;obtain⟨q1,q2,q3⟩:=g1 a' ha';exact⟨q1,q2,by omega⟩)
  (fun a ha=>by
   rw[a07]at ha⊢;rw[show k+(l.length-k)=l.length from by omega];exact hexit a.2 ha.2) (a:=(l.take k,[])) ⟨by simp,rfl⟩
 exact h
def b6P(l c:List Int)(s:Int):Option (List Int):=bif l.all a0b then b3Q (b2T c s) (l.drop c.length) (l.take c.length)else none
theorem b8j{c:List Int}{s:Int}(hl:b0o c s=true)(hc:c.length≤l.length)(hr:l.length<100000):
  a8n (l,c,s)=some (a3l (b6P l c s)):=by
 have hs:short l:=by unfold short;omega
 have hcs:short c:=by unfold short;omega
 have h0:0≤s:=by simp only[b0o,bA,dT]at hl;omega
 have e1:decide (((l.length:Nat):Int)<((c.length:Nat):Int))=false:=by simp;omega
 unfold a8n b6P;simp only[b0Z hcs,hl,oB,bT,cF,e1,a6W hs];cases hw:l.all a0b with
 |false=>rfl
 |true=>
  have e2:wrap .i64 (((l.length:Nat):Int)-((c.length:Nat):Int))=((l.length-c.length:Nat):Int):=by rw[a0f (by omega)];omega
  have e3:decide ((0:Int)≤((l.length-c.length:Nat):Int))=true:=by simp
  have e4:lim (l.length-c.length)=true:=a0I (by omega);simp only[bT,cF,cT,e2,e3,tN,e4,a02]
  have:=c6o (f:=a5F) l c.length hc (fun i acc=>(l,c,s,(i:Int),acc,())) (b6O (b2T c s) (.inr ((6:Int),([]:List Int),()))) (fun acc=>.inl (acc,()))
   (fun i hi acc hki hacc=>by
    have ht:short (l.take i):=by unfold short;rw[a05];omega
    have h1:decide ((0:Int)≤(i:Int))=true:=by simp
    have h2:decide ((i:Int)≤((l.length:Nat):Int))=true:=by simp;omega
    have h3:lim (acc.length+1)=true:=a0I (by omega);constructor
    ·intro a' ha';unfold b6O at ha';cases hq:a0b (W (l[i]-b2T c s (l.take i)))with
     |false=>simp[hq]at ha'
     |true=>
      simp only[hq,cT,Sum.inl.injEq]at ha';subst ha';refine⟨?_,c6n hi,by simp;omega⟩;simp only[a5F,dlt hi,cT,a0c hi,oB,h1,h2,a02,tN,b8O ht hcs h0,a7o,hq,bT,cF,h3,a0d (a57 hi hs),a16]
    ·intro b hb;unfold b6O at hb;cases hq:a0b (W (l[i]-b2T c s (l.take i)))with
     |true=>simp[hq]at hb
     |false=>
      simp only[hq,cF,Sum.inr.injEq]at hb;subst hb;simp only[a5F,dlt hi,cT,a0c hi,oB,h1,h2,a02,tN,b8O ht hcs h0,a7o,hq,a38])
   (fun acc hacc=>by simp[a5F])
  rw[this,b8Y];cases b3Q (b2T c s) (l.drop c.length) (l.take c.length)<;>rfl
theorem b8Z{c:List Int}{s:Int}(h:b6P l c s=some r):b5Z (l.take c.length) r c s=some l∧r.all a0b=true∧r.length=l.length-c.length:=by
 unfold b6P at h;cases hw:l.all a0b with
 |false=>simp[hw]at h
 |true=>
  simp only[hw,cT]at h;obtain⟨e,hr⟩:=c4g h;refine⟨?_,hr,by rw[e,b6k,a07]⟩;simp only[b5Z,b2W hw,hr,a02,cT];rw[e,b8X _ _ _ (c8K hw _),List.take_append_drop]
def b8k(l:List Int)(lag:Int)(t:List Int):Option (List Int):=bif l.all a0b then b3Q (b1a lag t) l []else none
theorem c8L{t:List Int}{lag:Int}(hl:b3I lag t=true)(ht:t.length=3)(hr:l.length<100000):
  a8F (l,lag,t)=some (a3l (b8k l lag t)):=by
 have hs:short l:=by unfold short;omega
 obtain⟨h1,h2⟩:2≤lag∧lag≤1024:=by simp only[b3I,bA,dT]at hl;omega
 unfold a8F b8k;simp only[b7t ht,hl,oB,bT,cF,b6G hs];cases hw:l.all a0b with
 |false=>rfl
 |true=>
  have e3:decide ((0:Int)≤((l.length:Nat):Int))=true:=by simp
  have e4:lim l.length=true:=a0I (by omega);simp only[bT,cF,cT,e3,tN,e4,a02]
  have:=c6o (f:=a7g) l 0 (Nat.zero_le _) (fun i acc=>(l,lag,l,(l.length:Int),(i:Int),acc,t,())) (b6O (b1a lag t) (.inr ((6:Int),([]:List Int),()))) (fun acc=>.inl (acc,()))
   (fun i hi acc hki hacc=>by
    have h3:lim (acc.length+1)=true:=a0I (by omega);have hp:=b6I (lag:=lag) (t:=t) (b05 hi) hs ht h1 h2;constructor
    ·intro a' ha';unfold b6O at ha';cases hq:a0b (W (l[i]-b1a lag t (l.take i)))with
     |false=>simp[hq]at ha'
     |true=>
      simp only[hq,cT,Sum.inl.injEq]at ha';subst ha';refine⟨?_,c6n hi,by simp;omega⟩;simp only[a7g,dlt hi,cT,a0c hi,oB,hp,a9A,hq,bT,cF,h3,a0d (a57 hi hs),a16]
    ·intro b hb;unfold b6O at hb;cases hq:a0b (W (l[i]-b1a lag t (l.take i)))with
     |true=>simp[hq]at hb
     |false=>
      simp only[hq,cF,Sum.inr.injEq]at hb;subst hb;simp only[a7g,dlt hi,cT,a0c hi,oB,hp,a9A,hq,a38])
   (fun acc hacc=>by simp[a7g])
  simp only[nZ]at this;rw[this,b8Y,a18,b30];cases b3Q (b1a lag t) l []<;>rfl
theorem c0W{t:List Int}{lag:Int}(h:b8k l lag t=some r):b5c r lag t=some l∧r.all a0b=true∧r.length=l.length:=by
 unfold b8k at h;cases hw:l.all a0b with
 |false=>simp[hw]at h
 |true=>
  simp only[hw,cT]at h;obtain⟨e,hr⟩:=c4g h;refine⟨?_,hr,by rw[e,b6k]⟩;simp only[b5c,hr,cT];rw[e,b8X _ _ _ hw,a06]
def rsG:List Int→Fil→List Int
 | [],_=>[]
 |x::r,f=>W (x-a1l f)::rsG r (b5d f x)
theorem b9a:∀r f,(rsG r f).length=r.length
 | [],_=>rfl
 |x::r,f=>by simp[rsG,b9a r]
def rsO:List Int→List Int→Fil→Option (List Int)
 | [],done,_=>some done
 |x::r,done,f=>bif a0b (W (x-a1l f))then rsO r (done++[W (x-a1l f)]) (b5d f x)else none
theorem d3K:∀(r done:List Int)(f:Fil),rsO r done f=bif (rsG r f).all a0b then some (done++rsG r f)else none
 | [],done,f=>by simp[rsO,rsG]
 |x::r,done,f=>by
  simp only[rsO,rsG,a08];cases a0b (W (x-a1l f))with
  |false=>rfl
  |true=>simp only[cT,a32,d3K r,aA,a53]
theorem d0x:∀(r z:List Int)(f:Fil),r.all a0b=true→stO (rsG r f) z f=some (z++r)
 | [],z,f,_=>by simp[rsG,stO]
 |x::r,z,f,h=>by
  rw[a08,bA]at h;have e:W (a1l f+W (x-a1l f))=x:=by rw[Int.add_comm];exact d3J h.1
  simp only[rsG,stO,e,h.1,cT,d0x r _ _ h.2,aA,a53]
theorem b6Q{row:List Int}{a:List Stg}{b c:Int}(hs:short row):∀(k i:Nat)(done:List Int)(f:Fil),i+k=row.length→done.length=i→FilOk f→
  a0h a6v (a,b,c,(row.length:Int),(i:Int),done++row.drop i,f,())=some (match rsO (row.drop i) done f with
   |some r=>.inl (a,b,c,r,())
   |none=>.inr ((6:Int),([]:List Int),()))
 |0,i,done,f,h,hd,hf=>by
  obtain rfl:i=row.length:=by omega
  rw[a22,a25];exact a0o (b:=Sum.inl (a,b,c,done,())) (by simp[a6v])
 |k+1,i,done,f,h,hd,hf=>by
  have hi:i<row.length:=by omega
  have hs':row.length<1000000:=hs;have h0:decide ((0:Int)≤(i:Int))=true:=by simp
  have hl:(done++row.drop i).length=row.length:=by simp;omega
  have h1:decide ((i:Int)<(((done++row.drop i).length:Nat):Int))=true:=by rw[hl];simp;omega
  have hst:rsO (row.drop i) done f=bif a0b (W (row[i]-a1l f))then rsO (row.drop (i+1)) (done++[W (row[i]-a1l f)]) (b5d f row[i])else none:=by
   rw[a03 hi];rfl
  rw[hst];cases hw:a0b (W (row[i]-a1l f))with
  |true=>
   rw[a0q (s':=(a,b,c,(row.length:Int),((i+1:Nat):Int),(done++[W (row[i]-a1l f)])++row.drop (i+1),b5d f row[i],())) (by
    simp only[a6v,dlt hi,h0,h1,cT,a02,a7p hf,oB,tN,b6J hd hi,a6b,hw,bT,cF,b9E hf,c8s hd hi,a0d (show i<1000000 by omega)])]
   exact b6Q hs k (i+1) _ _ (by omega) (by simp;omega) (c8r hf _)
  |false=>
   exact a0o (by
    simp only[a6v,dlt hi,h0,h1,cT,a02,a7p hf,oB,tN,b6J hd hi,a6b,hw,a38];rfl)
def lRO:List Stg→List Int→Option (List Int)
 | [],row=>some row
 |s::r,row=>match rsO row [] (b2p s)with
  |some row'=>lRO r row'
  |none=>none
theorem c8M{row:List Int}{f:Fil}(h:rsO row [] f=some d):d=rsG row f∧d.all a0b=true:=by
 rw[d3K]at h;cases hc:(rsG row f).all a0b with
 |true=>simp only[hc,cT,a06,sj]at h;subst h;exact⟨rfl,hc⟩
 |false=>simp[hc]at h
theorem c6p:∀(a b:List Stg)(row:List Int),lO (a++b) row=match lO a row with|some r=>lO b r|none=>none
 | [],b,row=>rfl
 |s::a,b,row=>by
  simp only[a85,lO];split;exact c6p a b _;rfl
theorem c8N:∀(st:List Stg)(row d:List Int),row.all a0b=true→lRO st row=some d→lO st.reverse d=some row∧d.all a0b=true∧d.length=row.length
 | [],row,d,hw,h=>by
  simp only[lRO,sj]at h;subst h;exact⟨rfl,hw,rfl⟩
 |s::st,row,d,hw,h=>by
  simp only[lRO]at h
  split at h
  rename_i row' hr;obtain⟨e,hw'⟩:=c8M hr;obtain⟨h1,h2,h3⟩:=c8N st row' d hw' h;refine⟨?_,h2,by rw[h3,e,b9a]⟩;rw[List.reverse_cons,c6p,h1];simp only[lO];rw[e,d0x row [] _ hw,a06];cases h
theorem b4H{st:List Stg}(hst:∀s∈st,stageB s=true)(hl:st.length≤3):∀(j k:Nat)(row:List Int),k+j=st.length→short row→
  a0h a6w (st,(st.length:Int),(k:Int),row,())=some (match lRO (st.drop k) row with
   |some r=>.inl (r,())
   |none=>.inr ((6:Int),([]:List Int),()))
 |0,k,row,h,hs=>by
  obtain rfl:k=st.length:=by omega
  rw[a22];exact a0o (by simp[a6w,lRO])
 |j+1,k,row,h,hs=>by
  have hk:k<st.length:=by omega
  have hstage:=hst _ (a09 hk);have h1:=b6Q (a:=st) (b:=(st.length:Int)) (c:=(k:Int)) hs row.length 0 [] (b2p st[k]) (by omega) rfl (d0v hstage);simp only[nZ,a18,a06]at h1;have hne:((0:Int) != 0)=false:=rfl;rw[a03 hk];simp only[lRO];cases hr:rsO row [] (b2p st[k])with
  |some r=>
   rw[hr]at h1;rw[a0q (s':=(st,(st.length:Int),((k+1:Nat):Int),r,())) (by simp only[a6w,dlt hk,cT,a0c hk,oB,b6b hstage,hne,cF,h1,a0d (show k<1000000 by omega)])];exact b4H hst hl j (k+1) r (by omega) (by have:=(c8M hr).1;unfold short at hs⊢;rw[this,b9a];exact hs)
  |none=>
   rw[hr]at h1;exact a0o (by simp only[a6w,dlt hk,cT,a0c hk,oB,b6b hstage,hne,cF,h1])
def b5l(l:List Int)(st:List Stg):Option (List Int):=bif l.all a0b then lRO st l else none
theorem c7a(hl:b0C st=true)(hr:l.length<100000):b2l (l,st)=some (a3l (b5l l st)):=by
 have hl':=hl;simp only[b0C,bA,dT]at hl';have hss:short st:=by unfold short;omega
 have hsr:short l:=by unfold short;omega
 unfold b2l b5l;simp only[b5Y hss,hl,oB,bT,cF,b5X hsr];cases hw:l.all a0b with
 |false=>rfl
 |true=>
  have:=b4H (lA.1 hl'.2) hl'.1 st.length 0 l (by omega) hsr
  simp only[nZ,a18]at this;simp only[bT,cF,cT,a7P hsr,oB,this];cases lRO st l<;>rfl
theorem c4h(h:b5l l st=some r):b4l r st=some l∧r.all a0b=true∧r.length=l.length:=by
 unfold b5l at h;cases hw:l.all a0b with
 |false=>simp[hw]at h
 |true=>
  simp only[hw,cT]at h;obtain⟨h1,h2,h3⟩:=c8N st l r hw h;exact⟨by simp only[b4l,h2,cT,h1],h2,h3⟩
theorem p64(h:w≤64):((2^w:Nat):Int) ∣ 18446744073709551616:=a33.2 (a78 2 h)
theorem d7X(n:Int):∃q,wrap .i64 n=n+18446744073709551616*q:=by
 rw[a9B,Int.bmod];split;exact⟨-(n / 18446744073709551616),by omega⟩;exact⟨-(n / 18446744073709551616)-1,by omega⟩
theorem d5d(h:w≤64)(n:Int):((2^w:Nat):Int) ∣ wrap .i64 n↔((2^w:Nat):Int) ∣ n:=by
 obtain⟨q,hq⟩:=d7X n;rw[hq];exact a86 (a64 (p64 h))
theorem c6q(h:w≤64)(a:Int):2^w ∣ (a04 64 a).toNat↔((2^w:Nat):Int) ∣ a:=by
 have e:(((a04 64 a).toNat:Nat):Int)=a+18446744073709551616*-(a / 18446744073709551616):=by
  rw[a31]
  have:((2^64:Nat):Int)=18446744073709551616:=rfl
  rw[this];omega
 rw[←a33,e];exact a86 (a64 (p64 h))
theorem d2i(w x y:Nat):2^w ∣ (x ||| y)↔2^w ∣ x∧2^w ∣ y:=by
 rw[a65,a65,a65,Nat.or_mod_two_pow];exact Nat.or_eq_zero_iff
theorem d7Y(h:w≤64)(a b:Int):((2^w:Nat):Int) ∣ bits .i64 .or a b↔((2^w:Nat):Int) ∣ a∧((2^w:Nat):Int) ∣ b:=by
 show((2^w:Nat):Int) ∣ wrap .i64 ((((a04 64 a) ||| (a04 64 b)).toNat:Nat):Int)↔_;rw[d5d h,a33,a63,d2i,c6q h,c6q h]
def orI(l:List Int)(a:Int):Int:=l.foldl (fun a x=>bits .i64 .or a x) a
theorem b8l{w:Nat}(h:w≤64):∀(l:List Int)(a:Int),((2^w:Nat):Int) ∣ orI l a↔((2^w:Nat):Int) ∣ a∧∀x∈l,((2^w:Nat):Int) ∣ x
 | [],a=>by simp[orI]
 |x::l,a=>by
  show((2^w:Nat):Int) ∣ orI l (bits .i64 .or a x)↔_;rw[b8l h l,d7Y h];simp only[mC,forall_eq_or_imp,and_assoc]
theorem c8O:∀(l:List Int),(∀x∈l,x=0)→orI l 0=0
 | [],_=>rfl
 |x::l,h=>by
  have hx:=h x (a81);subst hx;show orI l (bits .i64 .or 0 0)=0;rw[show bits .i64 .or 0 0=0 from by decide];exact c8O l fun y hy=>h y (a96 _ hy)
theorem d7Z(hw:l.all a0b=true)(h:∃x∈l,x≠0):orI l 0≠0:=by
 intro e;obtain⟨x,hx,hne⟩:=h;have hd:=((b8l (w:=62) (by omega) l 0).1 (by rw[e];exact a89 _)).2 x hx;have hwx:=a2j.1 (lA.1 hw x hx);have e62:((2^62:Nat):Int)=4611686018427387904:=rfl;rw[e62]at hd;omega
def b0h(l:List Int)(w:Nat):Prop:=
 ((∀x∈l,x=0)∧w=0)∨((∃x∈l,x≠0)∧w≤30∧(∀x∈l,((2^w:Nat):Int) ∣ x)∧(w=30∨∃x∈l,¬ ((2^(w+1):Nat):Int) ∣ x))
theorem d2j(h:v≤w)(hx:((2^w:Nat):Int) ∣ x):((2^v:Nat):Int) ∣ x:=
 Int.dvd_trans (a33.2 (a78 2 h)) hx
theorem b0h.unique(hv:b0h l v)(hw:b0h l w):v=w:=by
 have key:∀{v w:Nat},v≤30→w≤30→(∀x∈l,((2^w:Nat):Int) ∣ x)→(v=30∨∃x∈l,¬ ((2^(v+1):Nat):Int) ∣ x)→w≤v:=by
  intro v w h30 h30' h1 h2;rcases h2 with h2|⟨x,hx,h2⟩;omega;exact b24 fun hlt=>h2 (d2j (show v+1≤w by omega) (h1 x hx))
 rcases hv with⟨h0,hv⟩|⟨⟨x,hx,hne⟩,hv1,hv2,hv3⟩;rcases hw with⟨-,hw⟩|⟨⟨x,hx,hne⟩,-⟩;omega;exact absurd (h0 x hx) hne;rcases hw with⟨h0,-⟩|⟨-,hw1,hw2,hw3⟩;exact absurd (h0 x hx) hne;exact Nat.le_antisymm (key hw1 hv1 hv2 hw3) (key hv1 hw1 hw2 hv3)
theorem c8P:∀(n N:Nat),N≤n→0<N→∃k m,N=2^k*(2*m+1)
 |0,N,h,h0=>absurd h0 (by omega)
 |n+1,N,h,h0=>by
  by_cases he:N%2=0
  obtain⟨k,m,e⟩:=c8P n (N / 2) (by omega) (by omega);refine⟨k+1,m,?_⟩;rw[a58,a79 (2^k) 2,a99,←e];omega;exact⟨0,N / 2,by omega⟩
theorem d6X{k:Nat}(h:2^k*(2*m+1)<2^64):(2^k*(2*m+1)) &&& (2^64-2^k*(2*m+1))=2^k:=by
 have hp:1≤2^k:=b01;have hk:k<64:=by
  refine b25 fun hge=>?_
  have h1:2^64≤2^k:=a20 (by decide) hge;have h2:2^k*1≤2^k*(2*m+1):=Nat.mul_le_mul_left _ (by omega);omega
 have e:2^k*(2*m+1)=(2^k*(2*m)+(2^k-1))+1:=by rw[b22];omega
 have hx:2^k*(2*m)+(2^k-1)<2^64:=by omega
 refine Nat.eq_of_testBit_eq fun i=>?_
 have e2:(2^64-2^k*(2*m+1)).testBit i=(decide (i<64)&&!(2^k*(2*m)+(2^k-1)).testBit i):=by
  rw[e];exact Nat.testBit_two_pow_sub_succ hx i
 have e1:=a80 (2*m+1) (b:=0) (i:=k) (by omega) i;rw[a87]at e1;have e3:=a80 (2*m) (b:=2^k-1) (i:=k) (by omega) i;rw[Nat.testBit_and,e2,e1,e3,b00]
 by_cases h1:i<k
 have:¬ k=i:=by omega
 simp[h1,this]
 by_cases h2:k=i
 subst h2;simp[hk,Nat.testBit_zero];obtain⟨j,rfl⟩:∃j,i=k+(j+1):=⟨i-k-1,by omega⟩;have s1:k+(j+1)-k=j+1:=by omega
 have s2:(2*m+1) / 2=m:=by omega
 have s3:2*m / 2=m:=by omega
 simp only[h1,h2,if_false,s1,Nat.testBit_succ,s2,s3,decide_false];cases m.testBit j<;>simp
theorem d5e:∀k:Nat,k<64→b3j[(2^k*285870213051353865)%18446744073709551616 / 288230376151711744]?=some (k:Int):=by
 have h:∀k:Fin 64,b3j[(2^k.val*285870213051353865)%18446744073709551616 / 288230376151711744]?=some (k.val:Int):=by decide
 exact fun k hk=>h ⟨k,hk⟩
theorem c9V{k:Nat}:¬ 2^(k+1) ∣ 2^k*(2*m+1):=by
 rintro⟨c,hc⟩
 rw[a58,a99]at hc
 have:=Nat.eq_of_mul_eq_mul_left (a21 k) hc
 omega
theorem d5f(h0:0<N)(h:N<18446744073709551616):∃k:Nat,a2a (N:Int)=some (k:Int)∧2^k ∣ N∧¬ 2^(k+1) ∣ N:=by
 obtain⟨k,m,e⟩:=c8P N N (a42 _) h0;have h2:2^k≤N:=by rw[e];exact Nat.le_mul_of_pos_right _ (by omega)
 have hk:k<64:=by
  refine b25 fun hge=>?_
  have h1:2^64≤2^k:=a20 (by decide) hge;omega
 refine⟨k,?_,⟨_,e⟩,e▸c9V⟩;have hb:bits .u64 .and (N:Int) (wrap .u64 (0-(N:Int)))=((2^k:Nat):Int):=by
  have e1:wrap .u64 (0-(N:Int))=((18446744073709551616-N:Nat):Int):=by
   have:wrap .u64 (0-(N:Int))=(0-(N:Int))%18446744073709551616:=by simp[wrap,IntKind.bits,IntKind.signed]
   rw[this];omega
  rw[e1];show wrap .u64 (((a04 64 (N:Int)) &&& (a04 64 ((18446744073709551616-N:Nat):Int))).toNat:Int)=_;rw[a27,a27,a59,a30,a30,a28 h,a28 (by omega)]
  have:=d6X (k:=k) (m:=m) (by rw[←e];exact h)
  rw[←e]at this;rw[show(18446744073709551616:Nat)=2^64 from rfl,this];exact a0G (by omega)
 have hx:((N:Int)==0)=false:=by simp only[beq_eq_false_iff_ne,ne_eq];omega
 unfold a2a;rw[hb,hx,cF];have e2:wrap .u64 (((2^k:Nat):Int)*285870213051353865)=(((2^k*285870213051353865)%18446744073709551616:Nat):Int):=by
  have:wrap .u64 (((2^k:Nat):Int)*285870213051353865)=(((2^k:Nat):Int)*285870213051353865)%18446744073709551616:=by simp[wrap,IntKind.bits,IntKind.signed]
  rw[this];omega
 have hg:=d5e k hk;generalize (2^k*285870213051353865)%18446744073709551616=M at e2 hg;have e3:=a7y (N:=M) (o:=58) (by omega);rw[e2,show(58:Int)=((58:Nat):Int)from rfl,e3,show 2^58=288230376151711744 from rfl];generalize M / 288230376151711744=J at hg;obtain⟨hi,hv⟩:=lS.1 hg;rw[a0c hi,hv];simp only[oB,a0f (show -9223372036854775808≤(k:Int)∧(k:Int)≤9223372036854775807 by omega)]
theorem d5g{n:Nat}(hn:n≤62)(c:Int):a0C .i64 (((2^n:Nat):Int)*c) (n:Int)=c:=by
 have hp:0<2^n:=a21 n;have e:min (a35 (n:Int)) (IntKind.bits .i64)=n:=by simp only[tN,IntKind.bits];omega
 have ep:((2^n:Nat):Int)=2^n:=by simp
 unfold a0C;rw[e,ep];exact a83 _ (by omega)
theorem d0y{l:List Int}(hs:short l):∀(k i:Nat)(a:Int),i+k=l.length→a0h a6t (a,l,(l.length:Int),(i:Int),())=some (orI (l.drop i) a,())
 |0,i,a,h=>by
  obtain rfl:i=l.length:=by omega
  rw[a22];exact a0o (by simp[a6t,orI])
 |k+1,i,a,h=>by
  have hi:i<l.length:=by omega
  have hs':l.length<1000000:=hs;rw[a03 hi,a0q (s':=(bits .i64 .or a l[i],l,(l.length:Int),((i+1:Nat):Int),())) (by
   simp only[a6t,dlt hi,cT,a0c hi,oB,a0d (show i<1000000 by omega)])]
  exact d0y hs k (i+1) _ (by omega)
theorem c9W{r:Nat}(hr:r≤30)(h:r=30∨¬ ((2^(r+1):Nat):Int) ∣ orI l 0):r=30∨∃x∈l,¬ ((2^(r+1):Nat):Int) ∣ x:=by
 rcases h with h|h;exact .inl h;refine .inr (Classical.byContradiction fun hc=>h ((b8l (by omega) l 0).2 ⟨a89 _,fun x hx=>Classical.byContradiction fun hn=>hc ⟨x,hx,hn⟩⟩))
theorem c2P(hs:short l)(hw:l.all a0b=true):∃w:Nat,a4C l=some (w:Int)∧w≤30∧b0h l w:=by
 have h1:=d0y hs l.length 0 0 (by omega);simp only[nZ,a18]at h1;unfold a4C;simp only[h1,oB]
 by_cases hz:∀x∈l,x=0
 have e:=c8O l hz;exact⟨0,by rw[e];rfl,by omega,.inl ⟨hz,rfl⟩⟩;have hx:∃x∈l,x≠0:=Classical.byContradiction fun hc=>hz fun x hx=>Classical.byContradiction fun hn=>hc ⟨x,hx,hn⟩;have hne:=d7Z hw hx;have he:(orI l 0==0)=false:=by simpa using hne
 obtain⟨q,hq⟩:∃q,wrap .u64 (orI l 0)=orI l 0+18446744073709551616*q:=⟨-(orI l 0 / 18446744073709551616),by
  have:wrap .u64 (orI l 0)=orI l 0%18446744073709551616:=by simp[wrap,IntKind.bits,IntKind.signed]
  rw[this];omega⟩
 obtain⟨r1,r2⟩:=c2i (orI l 0);obtain⟨N,hN⟩:=a00 r1;have hdN:∀v,v≤64→(2^v ∣ N↔((2^v:Nat):Int) ∣ orI l 0):=fun v hv=>by
  rw[←a33,←hN,hq];exact a86 (a64 (p64 hv))
 have hN0:0<N:=by
  refine Nat.pos_of_ne_zero fun e0=>?_
  obtain⟨x,hxl,hx0⟩:=hx;have hd:=((b8l (w:=62) (by omega) l 0).1 ((hdN 62 (by omega)).1 (by rw[e0];exact Nat.dvd_zero _))).2 x hxl;have hwx:=a2j.1 (lA.1 hw x hxl);rw[show((2^62:Nat):Int)=4611686018427387904 from rfl]at hd;omega
 obtain⟨k,hk,hk1,hk2⟩:=d5f hN0 (by omega);have hk64:k≤63:=by
  refine b24 fun hgt=>?_
  have h1:2^64≤2^k:=a20 (by decide) (by omega)
  have:=Nat.le_of_dvd hN0 hk1
  omega
 simp only[he,cF,hN,hk,oB];have em:a3s (k:Int) 30=((min k 30:Nat):Int):=by rw[d0u];omega
 refine⟨min k 30,by rw[em],by omega,.inr ⟨hx,by omega,?_,?_⟩⟩;exact((b8l (by omega) l 0).1 ((hdN _ (by omega)).1 (Nat.dvd_trans (a78 2 (by omega)) hk1))).2;refine c9W (by omega) ?_
 by_cases hk30:30≤k
 exact .inl (by omega)
 have:min k 30=k:=by omega
 rw[this];exact .inr fun hh=>hk2 ((hdN _ (by omega)).2 hh)
theorem d6Y(hw30:w≤30)(hw:l.all a0b=true)(h:b0h l w):b2u (w:Int) l=some (l.map fun x=>a0C .i64 x (w:Int)):=by
 have hd:∀x∈l,((2^w:Nat):Int) ∣ x:=by
  rcases h with⟨h,-⟩|⟨-,-,h,-⟩;exact fun x hx=>by rw[h x hx];exact a89 _
  exact h
 have:l.all (b3O (w:Int))=true:=by
  rw[lA];intro x hx;obtain⟨c,hc⟩:=hd x hx;have hm:a43 x (a0z .i64 1 (w:Int))=0:=by rw[c8D hw30,hc];exact Int.mul_tmod_right _ _
  simp only[b3O,lA.1 hw x hx,hm,a32];rfl
 simp only[b2u,this,cT]
def c0X(k:Nat)(l:List Int):Nat:=(l.map (a5P k)).sum
def rbN(l:List Int):Nat→Nat
 |0=>0
 |i+1=>if c0X (i+1) l<c0X (rbN l i) l then i+1 else rbN l i
theorem c8Q(l:List Int):∀i,rbN l i≤i
 |0=>a42 _
 |i+1=>by
  have:=c8Q l i
  simp only[rbN]
  split<;>omega
theorem b9b{k:Nat}(hk:k≤25)(hw:l.all a0b=true)(hl:l.length<10000):a4m ((k:Int),l)=some ((c0X k l:Nat):Int):=c2j hk hw hl
theorem d5h(h:a<b):decide ((a:Int)<(b:Int))=true:=decide_eq_true (by omega)
theorem d2k(h:¬ a<b):decide ((a:Int)<(b:Int))=false:=decide_eq_false (by omega)
theorem c0Y(hw:l.all a0b=true)(hl:l.length<10000):b3E l=some ((rbN l 25:Nat):Int):=by
 have:=a3G (f:=a7h) (fun i:Nat=>(l,((rbN l i:Nat):Int),((c0X (rbN l i) l:Nat):Int),((i+1:Nat):Int),())) 25 (b:=(((rbN l 25:Nat):Int),()))
  (fun i hi=>by
   have d0:decide (((i+1:Nat):Int)≤25)=true:=decide_eq_true (by omega);have w1:wrap .i64 (((i+1:Nat):Int)+1)=((i+1+1:Nat):Int):=a0d (by omega);have hs:=b9b (k:=i+1) (by omega) hw hl
   by_cases hlt:c0X (i+1) l<c0X (rbN l i) l
   simp only[a7h,d0,cT,hs,oB,w1,d5h hlt,rbN,hlt,if_true];simp only[a7h,d0,cT,cF,hs,oB,w1,d2k hlt,rbN,hlt,if_false])
  (by
   have d0:decide (((25+1:Nat):Int)≤25)=false:=decide_eq_false (by omega);simp only[a7h,d0,cF])
 have h0:=b9b (k:=0) (by omega) hw hl;have e1:((0+1:Nat):Int)=1:=rfl;have e0:rbN l 0=0:=rfl;simp only[nZ]at h0;simp only[e0,nZ,e1]at this;unfold b3E;simp only[h0,oB,this]
def b5m(l:List Int):Int:=if 5+a0l l*l.length<c0X (rbN l 25) l then 31 else((rbN l 25:Nat):Int)
theorem d2l(l:List Int):kB (b5m l)=true:=by
 have:=c8Q l 25
 unfold b5m;split;rfl;simp only[kB,a24,bA,dT];omega
theorem c4i(hw:l.all a0b=true)(hl:l.length<10000):b0c l=some (b5m l):=by
 have h1:=c8Q l 25;have hs:=b9b (k:=rbN l 25) h1 hw hl;unfold b0c b5m
 by_cases hlt:5+a0l l*l.length<c0X (rbN l 25) l
 simp only[c0Y hw hl,b6h hl,hs,oB,d5h hlt,cT,hlt,if_true];simp only[c0Y hw hl,b6h hl,hs,oB,d2k hlt,cF,hlt,if_false]
def a3q:List Nat→List Int→List Int
 | [],_=>[]
 |z::zs,l=>b5m (l.take z)::a3q zs (l.drop z)
theorem b8m:∀zs l,(a3q zs l).length=zs.length
 | [],_=>rfl
 |z::zs,l=>by simp[a3q,b8m zs]
theorem c4j:∀zs l,(a3q zs l).all kB=true
 | [],_=>rfl
 |z::zs,l=>by simp[a3q,c4j zs,d2l]
theorem b9N{zn:List Nat}{n warm most least order:Int}{L:List Int}{a b:Prt}(hz:zn.length≤256):∀(j i:Nat)(rest ks:List Int),i+j=zn.length→(zn.drop i).sum=rest.length→rest.all a0b=true→rest.length≤5000→ks.length=i→
  a0h a9a (n,warm,most,L,least,order,rest,((zn.length:Nat):Int),(i:Int),a1r zn,a,b,(order,ks,()),())=some (n,warm,most,L,least,order,a,b,(order,ks++a3q (zn.drop i) rest,()),())
 |0,i,rest,ks,h,_,_,_,_=>by
  obtain rfl:i=zn.length:=by omega
  rw[a22];exact a0o (by simp only[a9a,dge,cF,a3q,a25])
 |j+1,i,rest,ks,h,hr,hwr,hr5,hki=>by
  have hlt:i<zn.length:=by omega
  rw[b8T hlt]at hr;have h0:decide ((0:Int)≤(i:Int))=true:=by simp
  have h1:decide ((i:Int)<(((a1r zn).length:Nat):Int))=true:=by rw[a1L];simp;omega
  have h2:decide ((0:Int)≤((zn[i]:Nat):Int))=true:=by simp
  have h3:decide (((zn[i]:Nat):Int)≤((rest.length:Nat):Int))=true:=by simp;omega
  have hk:=c4i (b2W hwr zn[i]) (by rw[a05];omega);have hlim:lim (ks.length+1)=true:=a0I (by omega);rw[a03 hlt,a0q (s':=(n,warm,most,L,least,order,rest.drop zn[i],((zn.length:Nat):Int),((i+1:Nat):Int),a1r zn,a,b,(order,ks++[b5m (rest.take zn[i])],()),())) (by
   simp only[a9a,dlt hlt,h0,h1,a9D hlt,h2,h3,cT,a02,tN,hk,oB,hlim,a29,a0d (show i<1000000 by omega),a16])]
  rw[b9N hz j (i+1) _ _ (by omega) (by rw[a07];omega) (c8K hwr _) (by rw[a07];omega) (by simp;omega)];simp only[a3q,aA,a53]
def zsN(o n warm:Int):List Nat:=(a1C o n warm).map a35
def b5f(o n warm:Int)(l:List Int):Prt:=(o,a3q (zsN o n warm) l,())
def c4k(o n warm:Int)(l:List Int):Nat:=4+a4U (zsN o n warm) (a3q (zsN o n warm) l) l
def a1Q(n warm:Int)(l:List Int):Nat→Prt×Nat
 |0=>((0,[],()),0)
 |i+1=>if(a1C (i:Int) n warm).length=0 then a1Q n warm l i else
   if(a1Q n warm l i).2=0∨c4k (i:Int) n warm l<(a1Q n warm l i).2 then(b5f (i:Int) n warm l,c4k (i:Int) n warm l)else a1Q n warm l i
def b9c(n warm:Int)(l:List Int):Prt:=(a1Q n warm l 7).1
theorem d0z(hs:(a1C (o:Int) n warm).length≠0)(hl:(l.length:Int)=n-warm)(hw:l.all a0b=true)(h5:l.length≤5000):
  ∃zn,a1C (o:Int) n warm=a1r zn∧zsN (o:Int) n warm=zn∧zn.length≤256∧zn.sum=l.length∧a6B (b5f (o:Int) n warm l) n warm=true∧PartsOk (b5f (o:Int) n warm l) n warm l zn:=by
 obtain⟨zn,g1,g2,g3⟩:=b7v hs;have ez:zsN (o:Int) n warm=zn:=by unfold zsN;rw[g1,b3N]
 have hp:a6B (b5f (o:Int) n warm l) n warm=true:=by
  simp only[a6B,b5f,bA,a34,beq_eq_false_iff_ne,ne_eq,beq_iff_eq];exact⟨hs,by rw[g1,a1L,b8m,ez],c4j _ _⟩
 obtain⟨zn',hok⟩:=PartsOk.of hp hl hw h5
 have:zn'=zn:=by
  have h1:=hok.sizes;simp only[b5f]at h1;rw[g1]at h1;rw[←b3N zn,h1,b3N]
 subst this;exact⟨_,g1,ez,g3,by omega,hp,hok⟩
theorem b9d{n warm:Int}{l:List Int}(hr:a6J n warm=true)(hl:(l.length:Int)=n-warm)(hw:l.all a0b=true)(h5:l.length≤5000):∀i,1≤i→(a1Q n warm l i).2≠0∧a6B (a1Q n warm l i).1 n warm=true
 |0,h=>absurd h (by omega)
 |i+1,_=>by
  by_cases hs:(a1C (i:Int) n warm).length=0
  ·simp only[a1Q,hs,if_true];cases i with
   |zero=>exact absurd hs (d2d hr)
   |succ i=>exact b9d hr hl hw h5 (i+1) (by omega)
  ·obtain⟨zn,-,-,-,-,hp,-⟩:=d0z hs hl hw h5;simp only[a1Q,hs,if_false];split;exact⟨by simp only[c4k];omega,hp⟩
   ·rename_i hne;cases i with
    |zero=>exact absurd (Or.inl rfl) hne
    |succ i=>exact b9d hr hl hw h5 (i+1) (by omega)
theorem d5i(hr:a6J n warm=true)(hl:(l.length:Int)=n-warm)(hw:l.all a0b=true)(h5:l.length≤5000):a6B (b9c n warm l) n warm=true:=
 (b9d hr hl hw h5 7 (by omega)).2
theorem c7b(hr:a6J n warm=true)(hl:(l.length:Int)=n-warm)(hw:l.all a0b=true)(h5:l.length≤5000):
  b2m (n,warm,(6:Int),l)=some (b9c n warm l,0):=by
 have:=a3G (f:=a3E) (fun i:Nat=>(n,warm,(6:Int),l,(((a1Q n warm l i).2:Nat):Int),(i:Int),((0:Int),([]:List Int),()),(a1Q n warm l i).1,())) 7 (b:=(((0:Int),([]:List Int),()),b9c n warm l,()))
  (fun i hi=>by
   have d0:decide ((i:Int)≤a3s (a2q 6 0) 8)=true:=decide_eq_true (by have:a3s (a2q 6 0) 8=6:=rfl;omega);have w1:wrap .i64 ((i:Int)+1)=((i+1:Nat):Int):=a0d (by omega)
   by_cases hs:(a1C (i:Int) n warm).length=0
   have hb:((((a1C (i:Int) n warm).length:Nat):Int)==0)=true:=by rw[hs];rfl
   have eb:a1Q n warm l (i+1)=a1Q n warm l i:=by simp only[a1Q,hs,if_true]
   simp only[a3E,d0,cT,a2E,oB,hb,w1,eb];have hb:((((a1C (i:Int) n warm).length:Nat):Int)==0)=false:=by simp only[beq_eq_false_iff_ne,ne_eq];omega
   obtain⟨zn,g1,ez,g3,g4,-,hok⟩:=d0z hs hl hw h5;have g5:=b9N (n:=n) (warm:=warm) (most:=6) (least:=(((a1Q n warm l i).2:Nat):Int)) (order:=(i:Int)) (L:=l) (a:=((0:Int),([]:List Int),())) (b:=(a1Q n warm l i).1) g3 zn.length 0 l [] (by omega) (by rw[a18];exact g4) hw h5 rfl;simp only[nZ,a18,a06]at g5;have hc:=c6X hok;simp only[b5f,ez]at hc;have hb':(((zn.length:Nat):Int)==0)=false:=by rw[←a1L zn,←g1];exact hb
   have el:(((a1r zn).length:Nat):Int)=((zn.length:Nat):Int):=by rw[a1L]
   have eP:b5f (i:Int) n warm l=((i:Int),a3q zn l,()):=by simp only[b5f,ez]
   have eC:c4k (i:Int) n warm l=4+a4U zn (a3q zn l) l:=by simp only[c4k,ez]
   by_cases hz:(a1Q n warm l i).2=0
   have hz':((((a1Q n warm l i).2:Nat):Int)==0)=true:=by rw[hz];rfl
   have eb:a1Q n warm l (i+1)=(((i:Int),a3q zn l,()),4+a4U zn (a3q zn l) l):=by simp only[a1Q,hs,if_false,hz,true_or,if_true,eP,eC]
   simp only[a3E,d0,cT,a2E,oB,g1,el,hb',cF,g5,hc,w1,eb,hz'];have hz':((((a1Q n warm l i).2:Nat):Int)==0)=false:=by simp only[beq_eq_false_iff_ne,ne_eq];omega
   by_cases hlt:4+a4U zn (a3q zn l) l<(a1Q n warm l i).2
   have eb:a1Q n warm l (i+1)=(((i:Int),a3q zn l,()),4+a4U zn (a3q zn l) l):=by simp only[a1Q,hs,if_false,hz,false_or,eP,eC,hlt,if_true]
   simp only[a3E,d0,cT,a2E,oB,g1,el,hb',cF,g5,hc,w1,eb,hz',d5h hlt];have eb:a1Q n warm l (i+1)=a1Q n warm l i:=by simp only[a1Q,hs,if_false,hz,false_or,eP,eC,hlt]
   simp only[a3E,d0,cT,a2E,oB,g1,el,hb',cF,g5,hc,w1,eb,hz',d2k hlt])
  (by
   have d0:decide (((7:Nat):Int)≤a3s (a2q 6 0) 8)=false:=decide_eq_false (by have:a3s (a2q 6 0) 8=6:=rfl;omega);simp only[a3E,d0,cF,b9c])
 simp only[a1Q,nZ]at this;unfold b2m;simp only[b2V hr hl hw h5,oB,bT,cF,this]
def a0O(k:Int)(s:Sub):Sub:=
 (k,(0:Int),(if k=2 then s.2.2.1 else 0),(if k=3∨k=4 then s.2.2.2.1 else 0),(if k=4 then s.2.2.2.2.1 else 0),(if k=3∨k=4 then s.2.2.2.2.2.1 else[]),
  ((if k=4 then s.2.2.2.2.2.2.1 else a01 3 (0:Int)),(if k=5 then s.2.2.2.2.2.2.2.1 else[]),([]:List Int),((0:Int),([]:List Int),()),([]:List Int),()))
def z0:Prt:=((0:Int),([]:List Int),())
def a2p(s:Sub)(w:Nat)(wm:List Int)(p:Prt)(r:List Int):Sub:=
 (s.1,(w:Int),s.2.2.1,s.2.2.2.1,s.2.2.2.2.1,s.2.2.2.2.2.1,s.2.2.2.2.2.2.1,s.2.2.2.2.2.2.2.1,wm,p,r,())
theorem d3L(h:SmallS s)(k:Int):a7d (k,s)=some (a0O k s):=by
 have hc:short s.2.2.2.2.2.1:=by have:=h.coefs;unfold short;omega
 have hst:short s.2.2.2.2.2.2.2.1:=by have:=h.stages;unfold short;omega
 obtain⟨k',w,o,sh,lag,c,t,st,wm,p,r,u⟩:=s;simp only at hc hst;unfold a7d a0O
 by_cases k2:k=2
 subst k2;rfl
 by_cases k4:k=4
 subst k4;simp[b5e hc]
 by_cases k3:k=3
 subst k3;simp[b5e hc]
 by_cases k5:k=5
 subst k5;simp[c2e hst];have e2:(k==2)=false:=by simp[k2]
 have e3:(k==3)=false:=by simp[k3]
 have e4:(k==4)=false:=by simp[k4]
 have e5:(k==5)=false:=by simp[k5]
 simp[e2,e3,e4,e5,k2,k3,k4,k5]
theorem c8R(h:SmallS s)(k:Int):SmallS (a0O k s):=by
 have h1:=h.coefs;have h2:=h.taps;have h3:=h.stages;refine⟨?_,?_,?_,by simp[a0O],by simp[a0O],by simp[a0O]⟩<;>simp only[a0O]<;>split<;>first|omega|simp
theorem d2m:a4K (a0O k s).1 (a0O k s) n↔a4K k s n:=by
 unfold a4K a0O;constructor
 rintro(h|h|⟨h,h1⟩|⟨h,h1⟩|⟨h,h1⟩|⟨h,h1⟩)
 exact .inl h;exact .inr (.inl h);simp only at h;subst h;simpa using h1;simp only at h;subst h;simpa using h1;simp only at h;subst h;simpa using h1;simp only at h;subst h;simpa using h1
 rintro(h|h|⟨h,h1⟩|⟨h,h1⟩|⟨h,h1⟩|⟨h,h1⟩)
 exact .inl h;exact .inr (.inl h);subst h;simpa using h1;subst h;simpa using h1;subst h;simpa using h1;subst h;simpa using h1
open Classical in
def a3T (l:List Int):Nat:=if h:∃w,b0h l w then h.choose else 0
theorem d6Z(h:b0h l w):a3T l=w:=by
 unfold a3T;rw[dif_pos ⟨w,h⟩];exact(Classical.choose_spec (⟨w,h⟩:∃w,b0h l w)).unique h
def a1g(l:List Int):List Int:=l.map fun x=>a0C .i64 x (a3T l:Int)
theorem b0D(hs:short l)(hw:l.all a0b=true):a4C l=some ((a3T l:Nat):Int)∧a3T l≤30∧b0h l (a3T l):=by
 obtain⟨w,h1,h3,h4⟩:=c2P hs hw;rw[d6Z h4];exact⟨h1,h3,h4⟩
theorem a7T(hs:l.length≤4096)(hw:l.all a0b=true):b2u ((a3T l:Nat):Int) l=some (a1g l)∧(a1g l).all a0b=true∧(a1g l).length=l.length∧upO ((a3T l:Nat):Int) (a1g l)=some l:=by
 obtain⟨-,h3,h4⟩:=b0D (show short l by unfold short;omega) hw;have h:=d6Y h3 hw h4;exact⟨h,d6W h3 h⟩
def a5c(k:Int)(s:Sub)(d:List Int):Option (List Int×List Int):=
 if k=2 then(bif (a2m s.2.2.1.toNat d).all a0b then some (d.take s.2.2.1.toNat,a2m s.2.2.1.toNat d)else none)
 else if k=3 then(b6P d s.2.2.2.2.2.1 s.2.2.2.1).map fun r=>(d.take s.2.2.2.2.2.1.length,r)
 else if k=4 then(b8k d s.2.2.2.2.1 s.2.2.2.2.2.2.1).bind fun x=>(b6P x s.2.2.2.2.2.1 s.2.2.2.1).map fun r=>(x.take s.2.2.2.2.2.1.length,r)
 else(b5l d s.2.2.2.2.2.2.2.1).map fun r=>([],r)
theorem c8S(hk:k=2∨k=3∨k=4∨k=5)(hf:a4K k s (d.length:Int))(hw:d.all a0b=true)(h:a5c k s d=some (wm,r)):
  wm.length≤d.length∧r.length=d.length-wm.length∧r.all a0b=true∧wm.all a0b=true:=by
 have hf':=hf;simp only[a4K]at hf';rcases hk with rfl|rfl|rfl|rfl
 ·have:0≤s.2.2.1∧s.2.2.1≤(d.length:Int):=by simp at hf';omega
  simp only[a5c,if_true]at h;cases hq:(a2m s.2.2.1.toNat d).all a0b with
  |false=>simp[hq]at h
  |true=>
   simp only[hq,cT,sj,pJ]at h;obtain⟨rfl,rfl⟩:=h;refine⟨by rw[a05];omega,by rw[a6L,a05];omega,hq,b2W hw _⟩
 have:(s.2.2.2.2.2.1.length:Int)≤(d.length:Int):=by simp at hf';omega
 simp only[a5c,show ¬ (3:Int)=2 by decide,if_false,if_true,a36,pJ]at h;obtain⟨r',h1,rfl,rfl⟩:=h;obtain⟨-,h2,h3⟩:=b8Z h1;exact⟨by rw[a05];omega,by rw[h3,a05];omega,h2,b2W hw _⟩
 have:(s.2.2.2.2.2.1.length:Int)≤(d.length:Int):=by simp at hf';omega
 simp only[a5c,show ¬ (4:Int)=2 by decide,show ¬ (4:Int)=3 by decide,if_false,if_true,a47,a36,pJ]at h;obtain⟨x,h0,r',h1,rfl,rfl⟩:=h;obtain⟨-,g2,g3⟩:=c0W h0;obtain⟨-,h2,h3⟩:=b8Z h1;exact⟨by rw[a05];omega,by rw[h3,a05];omega,h2,b2W g2 _⟩;simp only[a5c,show ¬ (5:Int)=2 by decide,show ¬ (5:Int)=3 by decide,show ¬ (5:Int)=4 by decide,if_false,a36,pJ]at h;obtain⟨r',h1,rfl,rfl⟩:=h;obtain⟨-,h2,h3⟩:=c4h h1;exact⟨by simp,by simpa using h3,h2,rfl⟩
theorem d5j(hk:k=2∨k=3∨k=4∨k=5)(h:SmallS s)(hf:a4K k s (d.length:Int))(hd:d.length≤4096)(hw:d.all a0b=true)(w:Nat):
  b3D (a2p (a0O k s) w [] z0 [],d)=some (match a5c k s d with|none=>(6,a2p (a0O k s) w [] z0 [])|some (wm,r)=>(0,a2p (a0O k s) w wm z0 r)):=by
 have ht:=h.taps;have hst:=h.stages;have hsd:short d:=by unfold short;omega
 obtain⟨k',w',o,sh,lag,c,t,st,wm',p,r',u⟩:=s;simp only[a4K]at hf ht hst;unfold b3D;rcases hk with rfl|rfl|rfl|rfl
 ·obtain⟨h0,h4,hn⟩:0≤o∧o≤4∧o≤(d.length:Int):=by simp at hf;omega
  obtain⟨O,rfl⟩:=a00 h0;have hst:short (d.take O):=by unfold short;rw[a05];omega
  have e2:decide ((O:Int)≤((d.length:Nat):Int))=true:=by simp;omega
  simp only[a2p,a0O,a5c,if_true,show((2:Int)==2)=true from rfl,cT,b9L (show O≤4 by omega) (show O≤d.length by omega) hsd hw,oB,tN];cases (a2m O d).all a0b with
  |false=>rfl
  |true=>simp[b1A,a2F,show O≤d.length by omega,a7P hst]
 ·obtain⟨hl,hn⟩:b0o c sh=true∧(c.length:Int)≤(d.length:Int):=by simpa using hf
  have hst:short (d.take c.length):=by unfold short;rw[a05];omega
  have e1:decide ((0:Int)≤((c.length:Nat):Int))=true:=by simp
  have e2:decide (((c.length:Nat):Int)≤((d.length:Nat):Int))=true:=by simp;omega
  simp only[a2p,a0O,a5c,show((3:Int)==2)=false from rfl,show((3:Int)==3)=true from rfl,show ¬ (3:Int)=2 by decide,show ¬ (3:Int)=4 by decide,show ¬ (3:Int)=5 by decide,true_or,if_true,if_false,cT,cF,b8j hl (show c.length≤d.length by omega) (show d.length<100000 by omega),oB];cases b6P d c sh with
  |none=>rfl
  |some r=>simp[a3l,b1A,a2F,show c.length≤d.length by omega,a7P hst]
 ·obtain⟨hl,hn,hlg⟩:b0o c sh=true∧(c.length:Int)≤(d.length:Int)∧b3I lag t=true:=by simpa using hf
  simp only[a2p,a0O,a5c,show((4:Int)==2)=false from rfl,show((4:Int)==3)=false from rfl,show((4:Int)==4)=true from rfl,show ¬ (4:Int)=2 by decide,show ¬ (4:Int)=3 by decide,show ¬ (4:Int)=5 by decide,or_true,if_true,if_false,cT,cF,c8L hlg ht (show d.length<100000 by omega),oB];cases hx:b8k d lag t with
  |none=>rfl
  |some x=>
   obtain⟨-,g2,g3⟩:=c0W hx;have hst:short (x.take c.length):=by unfold short;rw[a05];omega
   have e1:decide ((0:Int)≤((c.length:Nat):Int))=true:=by simp
   have e2:decide (((c.length:Nat):Int)≤((x.length:Nat):Int))=true:=by simp;omega
   simp only[a3l,show((0:Int)==0)=true from rfl,cT,b8j hl (show c.length≤x.length by omega) (show x.length<100000 by omega),oB];cases b6P x c sh with
   |none=>rfl
   |some r=>simp[a3l,b1A,a2F,show c.length≤x.length by omega,a7P hst]
 ·obtain⟨hn,hlr⟩:0<st.length∧b0C st=true:=by simpa using hf
  have hst:short (d.take 0):=by simp[short]
  simp only[a2p,a0O,a5c,show((5:Int)==2)=false from rfl,show((5:Int)==3)=false from rfl,show((5:Int)==4)=false from rfl,show((5:Int)==5)=true from rfl,show ¬ (5:Int)=2 by decide,show ¬ (5:Int)=3 by decide,show ¬ (5:Int)=4 by decide,or_self,if_true,if_false,cT,cF,c7a hlr (show d.length<100000 by omega),oB];cases b5l d st with
  |none=>rfl
  |some r=>
   have e1:decide ((0:Int)≤((d.length:Nat):Int))=true:=by simp
   have hc:=a7P hst;simp only[b30]at hc;simp[a3l,b1A,a2F,e1,hc]
open Classical in

def a1y (k:Int) (l:List Int) (s:Sub):Sub×Int:=
 if ¬ (1≤l.length∧l.length≤4096∧a4K k s (l.length:Int))then(a2s 0,1)
 else if l.all a0b=false then(a2s 0,6)
 else if k=0 then(bif l.all (fun x=>x==l.headD 0)then(a2p (a0O 0 s) 0 [l.headD 0] z0 [],0)else(a2s 0,7))
 else if k=1 then(a2p (a0O 1 s) (a3T l) (a1g l) z0 [],0)
 else match a5c k s (a1g l)with
  |none=>(a2s 0,6)
  |some (wm,r)=>(a2p (a0O k s) (a3T l) wm (b9c (l.length:Int) (wm.length:Int) r) r,0)
theorem d2n(h:1≤l.length):a0p l 0=some (l.headD 0):=by
 cases l with
 |nil=>simp at h
 |cons a l=>rfl
theorem c8T(h1:1≤l.length)(hs:short l)(a b:Sub):
  a0h a6a (l,l,(l.length:Int),(0:Int),a,b,())=some (bif l.all (fun x=>x==l.headD 0)then .inl (l,a,b,())else .inr ((7:Int),a2s 0,())):=by
 have:=a1v (f:=a6a) l (fun i=>(l,l,(l.length:Int),(i:Int),a,b,())) (fun x=>x==l.headD 0) (bt:=Sum.inl (l,a,b,())) (bf:=Sum.inr ((7:Int),a2s 0,()))
  (fun i h hp=>by
   have hne:(l[i] != l.headD 0)=false:=by simpa using hp
   simp only[a6a,dlt h,cT,a0c h,oB,d2n h1,hne,cF,a0d (a57 h hs)])
  (fun i h hp=>by
   have hne:(l[i] != l.headD 0)=true:=by simpa using hp
   simp only[a6a,dlt h,cT,a0c h,oB,d2n h1,hne];rfl)
  (by simp[a6a])
 simpa using this
theorem c2k(h:a4K k s n)(h0:k≠0)(h1:k≠1):k=2∨k=3∨k=4∨k=5:=by
 rcases h with h|h|⟨h,-⟩|⟨h,-⟩|⟨h,-⟩|⟨h,-⟩;exact absurd h h0;exact absurd h h1;exact .inl h;exact .inr (.inl h);exact .inr (.inr (.inl h));exact .inr (.inr (.inr h))
theorem d7a(h:SmallS s)(k:Int)(hl:l.length≤100000):b4X (k,l,s)=some (a1y k l s):=by
 have hs:short l:=by unfold short;omega
 unfold b4X a1y
 by_cases h1:1≤l.length
 rotate_left;have e:decide (((l.length:Nat):Int)<1)=true:=decide_eq_true (by omega);rw[if_pos (fun hc=>h1 hc.1)];simp only[e,cT,oB];rfl;have e1:decide (((l.length:Nat):Int)<1)=false:=decide_eq_false (by omega)
 by_cases h2:l.length≤4096
 rotate_left;have e:decide (((l.length:Nat):Int) > 4096)=true:=decide_eq_true (by omega);rw[if_pos (fun hc=>h2 hc.2.1)];simp only[e1,e,cT,cF,oB];rfl;have e2:decide (((l.length:Nat):Int) > 4096)=false:=decide_eq_false (by omega)
 by_cases h3:a4K k s (l.length:Int)
 rotate_left;have e3:b6e k s (l.length:Int)=false:=by simp[b6e,h3]
 rw[if_pos (fun hc=>h3 hc.2.2)];simp only[e1,e2,b8d h,e3,cF,a38,cT,oB];rfl;have e3:b6e k s (l.length:Int)=true:=by simp[b6e,h3]
 rw[if_neg (fun hc=>hc ⟨h1,h2,h3⟩)];simp only[e1,e2,b8d h,e3,cF,bT,oB,a5v hs];cases hw:l.all a0b with
 |false=>rfl
 |true=>
  simp only[bT,cF,d3L h,oB];rw[if_neg (by decide)]
  by_cases h0:k=0
  ·subst h0;have hf:=c8T h1 hs (a2s 0) (a0O 0 s);have ez:a2s 0=((0:Int),(0:Int),(0:Int),(0:Int),(0:Int),([]:(List Int)),a01 3 (0:Int),([]:(List (Int×Int×Unit))),([]:(List Int)),((0:Int),([]:(List Int)),()),([]:(List Int)),()):=rfl;rw[←ez,if_pos rfl];simp only[show((0:Int)==0)=true from rfl,cT,hf,oB];cases l.all (fun x=>x==l.headD 0)with
   |false=>rfl
   |true=>simp only[cT,d2n h1,oB];rfl
  ·obtain⟨w1,w3,-⟩:=b0D hs hw;obtain⟨d1,d2,d3,-⟩:=a7T h2 hw;have he0:(k==0)=false:=by simp[h0]
   rw[if_neg h0];simp only[he0,cF,w1,oB,b8i w3 (show l.length<100000 by omega),d1,a3l,show((0:Int) != 0)=false from rfl]
   by_cases hk1:k=1
   subst hk1;rfl
   ·have he1:(k==1)=false:=by simp[hk1]
    have hk:=c2k h3 h0 hk1;rw[if_neg hk1];have hsp:=d5j hk h (d:=a1g l) (by rw[d3];exact h3) (by omega) d2 (a3T l);have e4:((a0O k s).1,((a3T l:Nat):Int),(a0O k s).2.2)=a2p (a0O k s) (a3T l) [] z0 []:=rfl;simp only[he1,cF,e4,hsp,oB];cases hr:a5c k s (a1g l)with
    |none=>rfl
    |some q=>
     obtain⟨wm,r⟩:=q;obtain⟨r1,r2,r3,-⟩:=c8S hk (by rw[d3];exact h3) d2 hr;have hrow:a6J (l.length:Int) (wm.length:Int)=true:=by simp only[a6J,bA,dT];omega
     have hb:=c7b hrow (l:=r) (by omega) r3 (by omega);simp only[show((0:Int) != 0)=false from rfl,cF,a2p,hb,oB]
theorem d3M(h:a6B p n warm=true):p.2.1.length≤256:=by
 simp only[a6B,bA,a34,beq_eq_false_iff_ne,ne_eq,beq_iff_eq]at h;obtain⟨zn,h1,-,h3⟩:=b7v h.1;rw[←h.2.1,h1,a1L];exact h3
theorem b9e(h:SmallS s)(h1:wm.length≤5000)(h2:r.length≤5000)(h3:p.2.1.length≤300):SmallS (a2p s w wm p r):=
 ⟨h.coefs,h.taps,h.stages,h1,h2,h3⟩
theorem d2o(h0:(a1y k l s).2=0):
  1≤l.length∧l.length≤4096∧a4K k s (l.length:Int)∧l.all a0b=true∧
   ((k=0∧l.all (fun x=>x==l.headD 0)=true∧(a1y k l s).1=a2p (a0O 0 s) 0 [l.headD 0] z0 [])∨
    (k=1∧(a1y k l s).1=a2p (a0O 1 s) (a3T l) (a1g l) z0 [])∨
     ((k=2∨k=3∨k=4∨k=5)∧∃wm r,a5c k s (a1g l)=some (wm,r)∧(a1y k l s).1=a2p (a0O k s) (a3T l) wm (b9c (l.length:Int) (wm.length:Int) r) r)):=by
 unfold a1y at h0⊢
 split at h0
 cases h0;rename_i hc;have hc:1≤l.length∧l.length≤4096∧a4K k s (l.length:Int):=Classical.byContradiction hc;refine⟨hc.1,hc.2.1,hc.2.2,?_⟩;rw[if_neg (fun h=>h hc)]
 split at h0
 cases h0;rename_i hw;have hw':l.all a0b=true:=by simpa using hw
 refine⟨hw',?_⟩;rw[if_neg hw]
 split at h0
 ·rename_i k0;rw[if_pos k0];cases hq:l.all (fun x=>x==l.headD 0)with
  |false=>rw[hq]at h0;cases h0
  |true=>exact .inl ⟨k0,rfl,rfl⟩
 rename_i k0;rw[if_neg k0]
 split at h0
 rename_i k1;rw[if_pos k1];exact .inr (.inl ⟨k1,rfl⟩);rename_i k1;rw[if_neg k1];refine .inr (.inr ⟨c2k hc.2.2 k0 k1,?_⟩);cases hr:a5c k s (a1g l)with
 |none=>rw[hr]at h0;cases h0
 |some q=>
  obtain⟨wm,r⟩:=q;exact⟨wm,r,rfl,rfl⟩
theorem b6l:b8e (a2p (a0O k s) w wm p r):=by
 unfold b8e a2p a0O;refine⟨fun h=>if_neg h,fun h=>if_neg (not_or.2 h),fun h=>if_neg h,fun h=>if_neg h,fun h=>if_neg (not_or.2 h),fun h=>if_neg h⟩
theorem c2Q(h:a4K k s n):a4K (a2p (a0O k s) w wm p r).1 (a2p (a0O k s) w wm p r) n:=d2m.2 h
theorem d5k(h:l.all (fun x=>x==l.headD 0)=true):a01 l.length (l.headD 0)=l:=by
 refine(List.eq_replicate_iff.2 ⟨rfl,fun x hx=>?_⟩).symm
 have:=lA.1 h x hx
 simpa using this
theorem c5s(hS:SmallS s)(h0:(a1y k l s).2=0):
  SmallS (a1y k l s).1∧(a1y k l s).1.1=k∧a1I (a1y k l s).1 (l.length:Int)∧a2Q (a1y k l s).1 (l.length:Int)=some l:=by
 obtain⟨h1,h2,hf,hw,hc⟩:=d2o h0;have hs:short l:=by unfold short;omega
 obtain⟨-,w3,-⟩:=b0D hs hw;obtain⟨d1,d2,d3,d4⟩:=a7T h2 hw;have key:∀m:Sub,a1I m (l.length:Int)→c5l m (l.length:Int)=some l→a2Q m (l.length:Int)=some l:=fun m g1 g2=>by unfold a2Q;rw[if_pos g1,g2]
 have hcs:=c8R hS k;rcases hc with⟨rfl,hall,e⟩|⟨rfl,e⟩|⟨hk,wm,r,hr,e⟩
 ·rw[e];have hst:a1I (a2p (a0O 0 s) 0 [l.headD 0] z0 []) (l.length:Int):=by
   have hh:a0b (l.headD 0)=true:=by
    cases l with
    |nil=>rfl
    |cons a l=>exact lA.1 hw _ a81
   exact⟨by omega,by omega,c2Q hf,b6l,Int.le_refl _,(by decide:(0:Int)≤30),fun _=>rfl,rfl,by simp only[a2p,a08,hh,List.all_nil];rfl,rfl,fun _=>⟨rfl,rfl,rfl⟩,fun h=>absurd rfl h.1⟩
  refine⟨b9e hcs (by simp) (by simp) (by simp[z0]),rfl,hst,key _ hst ?_⟩;show some (a01 (l.length:Int).toNat (l.headD 0))=some l;rw[tN,d5k hall]
 rw[e];have hst:a1I (a2p (a0O 1 s) (a3T l) (a1g l) z0 []) (l.length:Int):=
  ⟨by omega,by omega,c2Q hf,b6l,a82 _,(by show((a3T l:Nat):Int)≤30;omega),fun h=>absurd h (by decide:¬ (1:Int)=0),by show(((a1g l).length:Nat):Int)=(l.length:Int);rw[d3],d2,rfl,fun _=>⟨rfl,rfl,rfl⟩,fun h=>absurd rfl h.2⟩
 refine⟨b9e hcs (by omega) (by simp) (by simp[z0]),rfl,hst,key _ hst ?_⟩;show upO ((a3T l:Nat):Int) (a1g l)=some l;exact d4
 ·rw[e];obtain⟨r1,r2,r3,r4⟩:=c8S hk (by rw[d3];exact hf) d2 hr;have hrow:a6J (l.length:Int) (wm.length:Int)=true:=by simp only[a6J,bA,dT];omega
  have hp:=d5i hrow (l:=r) (by omega) r3 (by omega);generalize b9c (l.length:Int) (wm.length:Int) r=p at hp;have hks:=d3M hp

  have hwb:a2F (a2p (a0O k s) (a3T l) wm p r) (l.length:Int)=(wm.length:Int)∧backP (a2p (a0O k s) (a3T l) wm p r)=some (a1g l):=by
   simp only[a4K]at hf;rcases hk with rfl|rfl|rfl|rfl
   ·obtain⟨q0,q4,qn⟩:0≤s.2.2.1∧s.2.2.1≤4∧s.2.2.1≤(l.length:Int):=by simp at hf;omega
    simp only[a5c,if_true]at hr;cases hq:(a2m s.2.2.1.toNat (a1g l)).all a0b with
    |false=>simp[hq]at hr
    |true=>
     simp only[hq,cT,sj,pJ]at hr;obtain⟨rfl,rfl⟩:=hr;refine⟨?_,?_⟩;show s.2.2.1=_;rw[a05];omega;show c2L ((a1g l).take s.2.2.1.toNat) (a2m s.2.2.1.toNat (a1g l)) s.2.2.1=some (a1g l);have hb:=c8C d2 (o:=s.2.2.1.toNat) (by omega) ((a1g l).length-s.2.2.1.toNat) 0 (by omega);rw[a18,a87]at hb;unfold c2L;rw[b2W d2,hq];exact hb
   have qn:(s.2.2.2.2.2.1.length:Int)≤(l.length:Int):=by simp at hf;omega
   simp only[a5c,show ¬ (3:Int)=2 by decide,if_false,if_true,a36,pJ]at hr;obtain⟨r',g1,rfl,rfl⟩:=hr;obtain⟨g2,-,-⟩:=b8Z g1;refine⟨?_,?_⟩;show((s.2.2.2.2.2.1.length:Nat):Int)=_;rw[a05];omega;exact g2;have qn:(s.2.2.2.2.2.1.length:Int)≤(l.length:Int):=by simp at hf;omega
   simp only[a5c,show ¬ (4:Int)=2 by decide,show ¬ (4:Int)=3 by decide,if_false,if_true,a47,a36,pJ]at hr;obtain⟨x,g0,r',g1,rfl,rfl⟩:=hr;obtain⟨f1,-,f3⟩:=c0W g0;obtain⟨g2,-,-⟩:=b8Z g1;refine⟨?_,?_⟩;show((s.2.2.2.2.2.1.length:Nat):Int)=_;rw[a05];omega;show(b5Z (x.take s.2.2.2.2.2.1.length) r' s.2.2.2.2.2.1 s.2.2.2.1).bind (fun l=>b5c l s.2.2.2.2.1 s.2.2.2.2.2.2.1)=_;rw[g2];exact f1;simp only[a5c,show ¬ (5:Int)=2 by decide,show ¬ (5:Int)=3 by decide,show ¬ (5:Int)=4 by decide,if_false,a36,pJ]at hr;obtain⟨r',g1,rfl,rfl⟩:=hr;obtain⟨g2,-,-⟩:=c4h g1;exact⟨rfl,g2⟩
  have hne:¬ (k=0∨k=1):=by rcases hk with rfl|rfl|rfl|rfl<;>decide
  have hst:a1I (a2p (a0O k s) (a3T l) wm p r) (l.length:Int):=by
   unfold a1I;rw[hwb.1];exact⟨by omega,by omega,c2Q hf,b6l,a82 _,(by show((a3T l:Nat):Int)≤30;omega),fun h=>absurd (.inl h) hne,rfl,r4,r3,fun h=>absurd h hne,fun _=>⟨(by show((r.length:Nat):Int)=_;omega),hp⟩⟩
  refine⟨b9e hcs (by omega) (by omega) (by omega),rfl,hst,key _ hst ?_⟩;have e0:¬ (a2p (a0O k s) (a3T l) wm p r).1=0:=fun h=>hne (.inl h);unfold c5l;rw[if_neg e0,hwb.2];exact d4
theorem d2p:SmallS (a2s 0):=c9P 0
def cS(k o sh:Int)(c:List Int)(st:List Stg):Sub:=
 (k,(0:Int),o,sh,(0:Int),c,a01 3 (0:Int),st,([]:List Int),((0:Int),([]:List Int),()),([]:List Int),())
theorem b2X{o sh:Int}{c:List Int}(h:c.length≤40)(h2:st.length≤6):SmallS (cS k o sh c st):=
 ⟨h,rfl,h2,by simp[cS],by simp[cS],by simp[cS]⟩
def b3R(d:List Int)(o w:Int):List Int×(Int×Int):=(a4J (d,o,w)).getD ([],0,1)
def b2Y(d:List Int)(o w:Int):List Sub:=bif (b3R d o w).2.2==0 then[cS 3 0 (b3R d o w).2.1 (b3R d o w).1 []]else[]
def d2q(d:List Int):Int:=(a7i d).getD 0
def b6m(d:List Int):Sub×Bool:=(a4x d).getD (a2s 0,false)
def c2R(d:List Int):List Sub:=bif (b6m d).2 then[(b6m d).1]else[]
def b2Z(i:Nat):List Sub:=(List.range i).map fun(j:Nat)=>cS 2 (j:Int) 0 [] []
def a2W(d:List Int):List Sub:=[cS 0 0 0 [] [],cS 1 0 0 [] [],cS 2 (d2q d) 0 [] []]
def a4D(d:List Int)(k:Int):List Sub:=if 1≤k then b2Y d 4 12++b2Y d 8 12 else[]
def b3S(d:List Int)(k:Int):List Sub:=if 2≤k then[cS 5 0 0 [] [((16:Int),(4:Int),())],cS 5 0 0 [] [((32:Int),(3:Int),()),((16:Int),(5:Int),())]]++c2R d else[]
def c7p(d:List Int)(k:Int):List Sub:=if 3≤k then b2Z 5++(b2Y d 1 12++(b2Y d 2 12++(b2Y d 12 14++b2Y d 16 14)))else[]
def a5d(d:List Int)(k:Int):List Sub:=a2W d++(a4D d k++(b3S d k++c7p d k))
def c4l(d:List Int):Prop:=a4x d=some (b6m d)∧((b6m d).2=true→SmallS (b6m d).1)
theorem c8U(hw:d.all a0b=true)(hl:d.length≤4096)(h1:1≤o)(h2:o≤32)(h3:2≤w∧w≤16):
  a4J (d,(o:Int),(w:Int))=some (b3R d o w)∧((b3R d o w).2.2=0→(b3R d o w).1.length=o):=by
 obtain⟨c,sh,e,g1,g2⟩:=d3I hw hl h1 h2 h3;unfold b3R;rw[g1];exact⟨rfl,g2⟩
theorem b3a(d:List Int)(o w:Int):(b2Y d o w).length≤1:=by
 unfold b2Y;cases (b3R d o w).2.2==0<;>simp
theorem b3b(hw:d.all a0b=true)(hl:d.length≤4096)(h1:1≤o)(h2:o≤32)(h3:2≤w∧w≤16){L:List Sub}(hL:L.length<1000):
  a0A ((o:Int),(w:Int),d,L)=some (d,L++b2Y d o w):=by
 obtain⟨g1,-⟩:=c8U hw hl h1 h2 h3;have hlim:lim (L.length+1)=true:=a0I (by omega);unfold a0A b2Y;simp only[g1,oB];cases (b3R d o w).2.2==0 with
 |true=>simp only[cT,hlim];rfl
 |false=>simp only[cF,a25]
theorem d2r{L:List Sub}(hL:L.length<1000):a0h a2l ((0:Int),L,d,())=some (L++b2Z 5,d,()):=by
 have:=a3G (f:=a2l) (fun i:Nat=>((i:Int),L++b2Z i,d,())) 5 (b:=(L++b2Z 5,d,()))
  (fun i hi=>by
   have d0:decide ((i:Int)<5)=true:=decide_eq_true (by omega);have hlim:lim ((L++b2Z i).length+1)=true:=a0I (by simp[b2Z];omega);have e:(L++b2Z i)++[cS 2 (i:Int) 0 [] []]=L++b2Z (i+1):=by simp[b2Z,List.range_succ]
   rw[←e];simp only[a2l,d0,cT,hlim,a0d (show i<1000000 by omega)];rfl)
  (by
   have d0:decide (((5:Nat):Int)<5)=false:=by decide
   simp only[a2l,d0,cF])
 simp only[nZ]at this;rw[show b2Z 0=[]from rfl,a25]at this;exact this
theorem d7b(hw:d.all a0b=true)(hl:d.length≤4096)(hlag:c4l d)(k:Int):a7M (d,k)=some (a5d d k):=by
 obtain⟨o,ho,ho4⟩:=c4f (show d.length<100000 by omega) hw;have hb:d2q d=(o:Int):=by unfold d2q;rw[ho];rfl
 have hlc:(c2R d).length≤1:=by unfold c2R;cases (b6m d).2<;>simp
 have l4:=b3a d 4 12;have l8:=b3a d 8 12;have l1:=b3a d 1 12;have l2:=b3a d 2 12;have l12:=b3a d 12 14;have c4:=fun L (hL:L.length<1000)=>b3b (L:=L) hw hl (o:=4) (w:=12) (by omega) (by omega) (by omega) hL;have c8:=fun L (hL:L.length<1000)=>b3b (L:=L) hw hl (o:=8) (w:=12) (by omega) (by omega) (by omega) hL;have c1:=fun L (hL:L.length<1000)=>b3b (L:=L) hw hl (o:=1) (w:=12) (by omega) (by omega) (by omega) hL;have c2:=fun L (hL:L.length<1000)=>b3b (L:=L) hw hl (o:=2) (w:=12) (by omega) (by omega) (by omega) hL;have c12:=fun L (hL:L.length<1000)=>b3b (L:=L) hw hl (o:=12) (w:=14) (by omega) (by omega) (by omega) hL;have c16:=fun L (hL:L.length<1000)=>b3b (L:=L) hw hl (o:=16) (w:=14) (by omega) (by omega) (by omega) hL;simp only[a17]at c4 c8 c1 c2 c12 c16;have n0:(a2W d).length=3:=rfl;have n1:(a4D d k).length≤2:=by unfold a4D;split<;>simp<;>omega
 have n2:(b3S d k).length≤3:=by unfold b3S;split<;>simp<;>omega
 have n5:(b2Z 5).length=5:=rfl;have s1:(bif decide (k≥1)then((a0A ((4:Int),(12:Int),d,a2W d)).bind fun y2=>(a0A ((8:Int),(12:Int),y2.1,y2.2)).bind fun y3=>some (k,y3.1,y3.2,()))else some (k,d,a2W d,()))=some (k,d,a2W d++a4D d k,()):=by
  unfold a4D
  by_cases h:1≤k
  have e:decide (k≥1)=true:=decide_eq_true h;simp only[e,cT,c4 (a2W d) (by omega),oB,c8 (a2W d++b2Y d 4 12) (by simp;omega),if_pos h,aA];have e:decide (k≥1)=false:=decide_eq_false h;simp only[e,cF,if_neg h,a25]
 have hF:a7M (d,k)=(a7i d).bind fun y1=>
   (show Option (Int×((List Int)×((List Sub)×Unit)))from bif decide (k≥1)then((a0A ((4:Int),(12:Int),d,[cS 0 0 0 [] [],cS 1 0 0 [] [],cS 2 y1 0 [] []])).bind fun y2=>(a0A ((8:Int),(12:Int),y2.1,y2.2)).bind fun y3=>some (k,y3.1,y3.2,()))else some (k,d,[cS 0 0 0 [] [],cS 1 0 0 [] [],cS 2 y1 0 [] []],())).bind fun z4=>
   (show Option (Int×((List Sub)×((List Int)×Unit)))from bif decide (z4.1≥2)then(bif lim (z4.2.2.1.length+1)then(bif lim ((z4.2.2.1++[cS 5 0 0 [] [((16:Int),(4:Int),())]]).length+1)then((a4x z4.2.1).bind fun y5=>
    bif y5.2 then(bif lim ((z4.2.2.1++[cS 5 0 0 [] [((16:Int),(4:Int),())]]++[cS 5 0 0 [] [((32:Int),(3:Int),()),((16:Int),(5:Int),())]]).length+1)then some (z4.1,z4.2.2.1++[cS 5 0 0 [] [((16:Int),(4:Int),())]]++[cS 5 0 0 [] [((32:Int),(3:Int),()),((16:Int),(5:Int),())]]++[y5.1],z4.2.1,())else none)
    else some (z4.1,z4.2.2.1++[cS 5 0 0 [] [((16:Int),(4:Int),())]]++[cS 5 0 0 [] [((32:Int),(3:Int),()),((16:Int),(5:Int),())]],z4.2.1,()))else none)else none)else some (z4.1,z4.2.2.1,z4.2.1,())).bind fun z6=>
   (show Option ((List Sub)×Unit)from bif decide (z6.1≥3)then((a0h a2l ((0:Int),z6.2.1,z6.2.2.1,())).bind fun w7=>(a0A ((1:Int),(12:Int),w7.2.1,w7.1)).bind fun y8=>(a0A ((2:Int),(12:Int),y8.1,y8.2)).bind fun y9=>
    (a0A ((12:Int),(14:Int),y9.1,y9.2)).bind fun y10=>(a0A ((16:Int),(14:Int),y10.1,y10.2)).bind fun y11=>some (y11.2,()))else some (z6.2.1,())).bind fun z12=>some z12.1:=rfl
 have e0:[cS 0 0 0 [] [],cS 1 0 0 [] [],cS 2 (o:Int) 0 [] []]=a2W d:=by unfold a2W;rw[hb]
 have s2:(bif decide (k≥2)then(bif lim ((a2W d++a4D d k).length+1)then(bif lim ((a2W d++a4D d k++[cS 5 0 0 [] [((16:Int),(4:Int),())]]).length+1)then((a4x d).bind fun y5=>
    bif y5.2 then(bif lim ((a2W d++a4D d k++[cS 5 0 0 [] [((16:Int),(4:Int),())]]++[cS 5 0 0 [] [((32:Int),(3:Int),()),((16:Int),(5:Int),())]]).length+1)then some (k,a2W d++a4D d k++[cS 5 0 0 [] [((16:Int),(4:Int),())]]++[cS 5 0 0 [] [((32:Int),(3:Int),()),((16:Int),(5:Int),())]]++[y5.1],d,())else none)
    else some (k,a2W d++a4D d k++[cS 5 0 0 [] [((16:Int),(4:Int),())]]++[cS 5 0 0 [] [((32:Int),(3:Int),()),((16:Int),(5:Int),())]],d,()))else none)else none)else some (k,a2W d++a4D d k,d,()):Option (Int×((List Sub)×((List Int)×Unit))))=some (k,a2W d++(a4D d k++b3S d k),d,()):=by
  unfold b3S
  by_cases h:2≤k
  have e:decide (k≥2)=true:=decide_eq_true h;have q1:lim ((a2W d++a4D d k).length+1)=true:=a0I (by simp;omega);have q2:lim ((a2W d++a4D d k++[cS 5 0 0 [] [((16:Int),(4:Int),())]]).length+1)=true:=a0I (by simp;omega);have q3:lim ((a2W d++a4D d k++[cS 5 0 0 [] [((16:Int),(4:Int),())]]++[cS 5 0 0 [] [((32:Int),(3:Int),()),((16:Int),(5:Int),())]]).length+1)=true:=a0I (by simp;omega);simp only[e,q1,q2,q3,cT,hlag.1,oB,if_pos h,c2R];cases (b6m d).2<;>simp;have e:decide (k≥2)=false:=decide_eq_false h;simp only[e,cF,if_neg h,a25]
 have s3:(bif decide (k≥3)then((a0h a2l ((0:Int),a2W d++(a4D d k++b3S d k),d,())).bind fun w7=>(a0A ((1:Int),(12:Int),w7.2.1,w7.1)).bind fun y8=>(a0A ((2:Int),(12:Int),y8.1,y8.2)).bind fun y9=>
    (a0A ((12:Int),(14:Int),y9.1,y9.2)).bind fun y10=>(a0A ((16:Int),(14:Int),y10.1,y10.2)).bind fun y11=>some (y11.2,()))else some (a2W d++(a4D d k++b3S d k),()):Option ((List Sub)×Unit))=some (a5d d k,()):=by
  unfold a5d c7p
  by_cases h:3≤k
  have e:decide (k≥3)=true:=decide_eq_true h;simp only[e,cT,d2r (L:=a2W d++(a4D d k++b3S d k)) (by simp;omega),oB,if_pos h];rw[c1 _ (by simp;omega)];simp only[oB];rw[c2 _ (by simp;omega)];simp only[oB];rw[c12 _ (by simp;omega)];simp only[oB];rw[c16 _ (by simp;omega)];simp only[oB,aA];have e:decide (k≥3)=false:=decide_eq_false h;simp only[e,cF,if_neg h,a25]
 rw[hF,ho,oB,e0];simp only[];rw[s1];simp only[oB];rw[s2];simp only[oB];rw[s3];rfl
theorem c4m(hw:d.all a0b=true)(hl:d.length≤4096)(hlag:c4l d)(k:Int):∀c∈a5d d k,SmallS c:=by
 have hlin:∀(o w:Nat),1≤o→o≤32→2≤w∧w≤16→∀c∈b2Y d o w,SmallS c:=fun o w h1 h2 h3 c hc=>by
  obtain⟨-,g2⟩:=c8U hw hl h1 h2 h3;unfold b2Y at hc;cases he:(b3R d o w).2.2==0 with
  |false=>rw[he]at hc;simp at hc
  |true=>
   rw[he]at hc;simp only[cT,a50]at hc;subst hc
   have:=g2 (by simpa using he)
   exact b2X (by omega) (by simp)
 intro c hc;simp only[a5d,mA]at hc;rcases hc with hc|hc|hc|hc;simp only[a2W,mC,a71,or_false]at hc;rcases hc with rfl|rfl|rfl<;>exact b2X (by simp) (by simp);unfold a4D at hc
 split at hc
 simp only[mA]at hc;rcases hc with hc|hc;exact hlin 4 12 (by omega) (by omega) (by omega) c hc;exact hlin 8 12 (by omega) (by omega) (by omega) c hc;simp at hc
 ·unfold b3S at hc
  split at hc
  ·simp only[mA,mC,a71,or_false]at hc;rcases hc with(rfl|rfl)|hc;exact b2X (by simp) (by simp);exact b2X (by simp) (by simp)
   ·unfold c2R at hc;cases hg:(b6m d).2 with
    |false=>rw[hg]at hc;simp at hc
    |true=>
     rw[hg]at hc;simp only[cT,a50]at hc;subst hc;exact hlag.2 hg
  simp at hc
 unfold c7p at hc
 split at hc
 simp only[mA,b2Z,List.mem_map]at hc;rcases hc with⟨j,-,rfl⟩|hc|hc|hc|hc;exact b2X (by simp) (by simp);exact hlin 1 12 (by omega) (by omega) (by omega) c hc;exact hlin 2 12 (by omega) (by omega) (by omega) c hc;exact hlin 12 14 (by omega) (by omega) (by omega) c hc;exact hlin 16 14 (by omega) (by omega) (by omega) c hc;simp at hc
theorem d5l(hl:d.length≤256):a4x d=some (a2s 0,false):=by
 have hF:b3F (d,(16:Int),(256:Int))=some (0,7):=by
  unfold b3F;have e1:decide (((d.length:Nat):Int) > 4096)=false:=decide_eq_false (by omega);have e2:decide (((d.length:Nat):Int)≤256)=true:=decide_eq_true (by omega);simp only[show decide ((16:Int)<2)=false from rfl,show decide ((16:Int) > 256)=false from rfl,show decide ((256:Int) > 1024)=false from rfl,cF,e1,oB,e2,cT]
 unfold a4x;simp only[hF,oB,show((7:Int) != 0)=true from rfl,cT];rfl
theorem d8a(hl:d.length≤256):c4l d:=by
 have h:=d5l hl
 have:b6m d=(a2s 0,false):=by unfold b6m;rw[h];rfl
 exact⟨by rw[this];exact h,fun hc=>by rw[this]at hc;cases hc⟩
def b8n(l:List Int)(a:Int×(Bool×Sub))(c:Sub):Int×(Bool×Sub):=
 bif (a1y c.1 l c).2 != 0 then a else bif !a.2.1 || decide (a5b (a1y c.1 l c).1 (l.length:Int)<a.1)then(a5b (a1y c.1 l c).1 (l.length:Int),true,(a1y c.1 l c).1)else a
def b9f(l:List Int)(cs:List Sub):Int×(Bool×Sub):=cs.foldl (b8n l) (0,false,a2s 0)
theorem b9g{α A β:Type}(g:A→α→A)(fin:A→β):∀(l:List α)(a:A),b0n fin (a3H (fun a x=>.inl (g a x)) l a)=fin (l.foldl g a)
 | [],_=>rfl
 |x::l,a=>b9g g fin l (g a x)
theorem c9X(h:SmallS s):SmallS (a1y k l s).1:=by
 by_cases h0:(a1y k l s).2=0
 exact(c5s h h0).1
 ·have:(a1y k l s).1=a2s 0:=by
   unfold a1y at h0⊢;split;rfl;rename_i hc;rw[if_neg hc]at h0;split;rfl;rename_i hw;rw[if_neg hw]at h0;split
   ·rename_i k0;rw[if_pos k0]at h0;cases hq:l.all (fun x=>x==l.headD 0)with
    |true=>rw[hq]at h0;exact absurd rfl h0
    |false=>rfl
   rename_i k0;rw[if_neg k0]at h0;split;rename_i k1;rw[if_pos k1]at h0;exact absurd rfl h0;rename_i k1;rw[if_neg k1]at h0;cases hr:a5c k s (a1g l)with
   |none=>rfl
   |some q=>rw[hr]at h0;exact absurd rfl h0
  rw[this];exact d2p
theorem d3N{cs:List Sub}(hs:∀c∈cs,SmallS c)(hl:l.length≤4096)(hc:cs.length<1000):
  a0h a8o (l,(0:Int),false,cs,((cs.length:Nat):Int),(0:Int),a2s 0,a2s 0,())=some (a2s 0,(b9f l cs).2.2,()):=by
 have:=a2x (f:=a8o) cs (fun i a=>(l,a.1,a.2.1,cs,((cs.length:Nat):Int),(i:Int),a2s 0,a.2.2,())) (fun a x=>.inl (b8n l a x)) (fun _ _=>True) (fun a=>(a2s 0,a.2.2,()))
  (fun i hi a _=>by
   refine⟨fun a' ha'=>?_,fun b hb=>by cases hb⟩;simp only[Sum.inl.injEq]at ha';subst ha';refine⟨?_,trivial⟩;have hS:=hs _ (a09 hi);have c1:=d0w (c9X (k:=cs[i].1) (l:=l) hS) (l.length:Int);unfold b8n;simp only[a8o,dlt hi,cT,a0c hi,oB,d7a hS cs[i].1 (show l.length≤100000 by omega),c1,a0d (show i<1000000 by omega)];cases (a1y cs[i].1 l cs[i]).2 != 0 with
   |true=>rfl
   |false=>
    have hwr:=a0d (show i<1000000 by omega);cases ha:a.2.1 with
    |false=>simp only[cF,a38,Bool.true_or,cT,oB,hwr]
    |true=>
     simp only[cF,bT,Bool.false_or,oB];cases decide (a5b (a1y cs[i].1 l cs[i]).1 (l.length:Int)<a.1)<;>simp only[cF,cT,hwr,ha])
  (fun a _=>by simp only[a8o,dge,cF]) (a:=((0:Int),false,a2s 0)) trivial
 simp only[nZ]at this;rw[this,b9g];rfl
theorem d7c(h1:1≤l.length)(h2:l.length≤4096)(hw:l.all a0b=true)(hlag:c4l (a1g l))(h0:0≤k)(h3:k≤3):
  a6z (l,k)=some ((b9f l (a5d (a1g l) k)).2.2,0):=by
 have hs:short l:=by unfold short;omega
 obtain⟨w1,w3,-⟩:=b0D hs hw;obtain⟨d1,d2,d3,-⟩:=a7T h2 hw;have e1:decide (((l.length:Nat):Int)<1)=false:=decide_eq_false (by omega);have e2:decide (((l.length:Nat):Int) > 4096)=false:=decide_eq_false (by omega);have e3:decide (k<0)=false:=decide_eq_false (by omega);have e4:decide (k > 3)=false:=decide_eq_false (by omega);have hlen:(a5d (a1g l) k).length<1000:=by
  have g:=fun o w=>b3a (a1g l) o w;have q1:=g 4 12;have q2:=g 8 12;have q3:=g 1 12;have q4:=g 2 12;have q5:=g 12 14;have q6:=g 16 14;have hlc:(c2R (a1g l)).length≤1:=by unfold c2R;cases (b6m (a1g l)).2<;>simp
  simp only[a5d,a2W,a4D,b3S,c7p,lN]
  split<;>split<;>split<;>simp[b2Z]<;>omega
 have hb:=d3N (l:=l) (c4m d2 (by omega) hlag k) h2 hlen;have hz:a2s 0=((0:Int),(0:Int),(0:Int),(0:Int),(0:Int),([]:(List Int)),a01 3 (0:Int),([]:(List (Int×Int×Unit))),([]:(List Int)),((0:Int),([]:(List Int)),()),([]:(List Int)),()):=rfl;unfold a6z;simp only[←hz,e1,e2,e3,e4,cF,oB,a5v hs,hw,bT,w1,b8i w3 (show l.length<100000 by omega),d1,a3l,show((0:Int) != 0)=false from rfl,d7b d2 (show(a1g l).length≤4096 by omega) hlag,hb]
theorem a4L(v:Int)(n:Nat)(L:List Int):(a0w v n L).length=L.length+(a0w v n []).length:=by
 unfold a0w;cases (a0C .u64 v (n:Int) != 0)<;>simp
theorem b1B(n:Nat):∀(l L:List Int),(a1P n l L).length=L.length+(a1P n l []).length
 | [],L=>by simp[a1P]
 |x::l,L=>by
  show(a1P n l (a0w (a0H x n) n L)).length=L.length+(a1P n l (a0w (a0H x n) n [])).length;rw[b1B n l,b1B n l (a0w (a0H x n) n []),a4L];omega
theorem b3T:∀(st:List Stg)(L:List Int),(a3O st L).length=L.length+(a3O st []).length
 | [],L=>by simp[a3O]
 |s::st,L=>by
  show(a3O st (a7s s L)).length=L.length+(a3O st (a7s s [])).length;rw[b3T st,b3T st (a7s s [])];unfold a7s;rw[a4L,a4L _ 5 L,a4L _ 4 (a0w _ 5 [])];omega
theorem b9h(s:Sub)(L:List Int):(a7t s L).length=L.length+(a7t s []).length:=by
 unfold a7t;rw[b1B,a4L,a4L _ 4,a4L _ 5 L]
 conv=>rhs;rw[b1B,a4L,a4L _ 4]
 omega
theorem c6r(s:Sub)(L:List Int):(a3g s L).length=L.length+(a3g s []).length:=by
 unfold a3g;split;rw[a4L];split;rw[b9h];split;rw[b9h,b1B,a4L]
 conv=>rhs;rw[b9h,b1B]
 omega;split;rw[b3T,a4L]
 conv=>rhs;rw[b3T]
 omega
 simp
theorem d5m(hk:0≤s.1∧s.1≤5)(hw:0≤s.2.1∧s.2.1≤30)(ha:s.2.2.2.2.2.2.2.2.1.all a0b=true)(L:List Int):(b3M s L).length=L.length+13:=by
 obtain⟨K,hK⟩:=a00 hk.1;obtain⟨w,hw'⟩:=a00 hw.1
 have:=a2B ha
 unfold b3M;rw[hK,hw',a2V (q:=K) (by omega),a2V (q:=w) (by omega),a7S (n:=5) (by omega) (by omega),a7S (n:=5) (by omega) (by omega),a7S (n:=3) (by omega) (by omega)]
def d2s(s:Sub)(zn:List Nat):Nat:=
 13+(a3g s []).length+a0l s.2.2.2.2.2.2.2.2.1*s.2.2.2.2.2.2.2.2.1.length+if s.1=0∨s.1=1 then 0 else 4+a4U zn s.2.2.2.2.2.2.2.2.2.1.2.1 s.2.2.2.2.2.2.2.2.2.2.1
theorem b9i(h:a4K k s n):0≤k∧k≤5:=by
 rcases h with h|h|⟨h,-⟩|⟨h,-⟩|⟨h,-⟩|⟨h,-⟩<;>omega
theorem b7x(h:(a2Q s n).isSome=true):a1I s n:=by
 unfold a2Q at h
 split at h
 assumption
 cases h
theorem d7d(h:(a2Q s n).isSome=true)(hz:s.1≠0∧s.1≠1→PartsOk s.2.2.2.2.2.2.2.2.2.1 n ((s.2.2.2.2.2.2.2.2.1.length:Nat):Int) s.2.2.2.2.2.2.2.2.2.2.1 zn)(L:List Int):
  (a6c s zn L).length=L.length+d2s s zn:=by
 obtain⟨h1,h2,hf,-,h5,h6,-,-,hw,-⟩:=b7x h;have hwd:=a2B hw;have hh:=d5m (b9i hf) ⟨h5,h6⟩ hw L;unfold a6c d2s
 by_cases hk:s.1=0∨s.1=1
 rw[if_pos hk,if_pos hk,b6M (by omega),c6r,hh];omega;rw[if_neg hk,if_neg hk,c6Y (hz (not_or.1 hk)),b6M (by omega),c6r,hh];omega
theorem d5n(h:SmallS s)(hs:(a2Q s n).isSome=true):∃zn,a5b s n=((d2s s zn:Nat):Int)∧(s.1≠0∧s.1≠1→PartsOk s.2.2.2.2.2.2.2.2.2.1 n ((s.2.2.2.2.2.2.2.2.1.length:Nat):Int) s.2.2.2.2.2.2.2.2.2.2.1 zn):=by
 obtain⟨e,L',-,-,-,h4,-⟩:=b8U h (n:=n) (L:=[]) (by simp);obtain⟨-,zn,-,hz⟩:=h4 hs;refine⟨zn,?_,hz⟩;unfold a5b;rw[if_pos hs,←c5q hz,d7d hs hz]
 simp
structure Shifted (l m:List Int) (n:Nat):Prop where
 len:m.length=l.length
 wl:l.all a0b=true
 wm:m.all a0b=true
 down:a1g m=a1g l
 waste:a3T m=a3T l+n
 fl:l.all (fun x=>x==l.headD 0)=false
 fm:m.all (fun x=>x==m.headD 0)=false
structure BestIs (l:List Int) (cs:List Sub) (a:Int×(Bool×Sub)):Prop where
 one:a.2.1=true→∃c∈cs,(a1y c.1 l c).2=0∧a.2.2=(a1y c.1 l c).1∧a.1=a5b a.2.2 (l.length:Int)
 least:∀c∈cs,(a1y c.1 l c).2=0→a.2.1=true∧a.1≤a5b (a1y c.1 l c).1 (l.length:Int)
theorem c0Z{l:List Int}:∀(cs ds:List Sub)(a:Int×(Bool×Sub)),BestIs l ds a→BestIs l (ds++cs) (cs.foldl (b8n l) a)
 | [],ds,a,h=>by rw[a25];exact h
 |c::cs,ds,a,h=>by
  rw[a91,show ds++c::cs=(ds++[c])++cs by simp];refine c0Z cs (ds++[c]) _ ?_
  unfold b8n
  by_cases h0:(a1y c.1 l c).2=0
  ·have n1:((a1y c.1 l c).2 != 0)=false:=by rw[h0];rfl
   rw[n1,cF];cases hq:(!a.2.1 || decide (a5b (a1y c.1 l c).1 (l.length:Int)<a.1))with
   |true=>
    refine⟨fun _=>⟨c,by simp,h0,rfl,rfl⟩,fun d hd hd0=>⟨rfl,?_⟩⟩;rcases mA.1 hd with hd|hd;obtain⟨g1,g2⟩:=h.least d hd hd0;rw[g1]at hq;simp only[bT,Bool.false_or,dT]at hq;exact Int.le_trans (Int.le_of_lt hq) g2;simp only[a50]at hd;subst hd;exact Int.le_refl _
   |false=>
    simp only[a97,Bool.not_eq_false',decide_eq_false_iff_not]at hq;refine⟨fun ht=>?_,fun d hd hd0=>?_⟩;obtain⟨d,hd,g⟩:=h.one ht;exact⟨d,a98 _ hd,g⟩;rcases mA.1 hd with hd|hd;exact h.least d hd hd0;simp only[a50]at hd;subst hd;exact⟨hq.1,Int.not_lt.1 hq.2⟩
  have n1:((a1y c.1 l c).2 != 0)=true:=by simpa using h0
  rw[n1,cT];refine⟨fun ht=>?_,fun d hd hd0=>?_⟩;obtain⟨d,hd,g⟩:=h.one ht;exact⟨d,a98 _ hd,g⟩;rcases mA.1 hd with hd|hd;exact h.least d hd hd0;simp only[a50]at hd;subst hd;exact absurd hd0 h0
theorem c5t(l:List Int)(cs:List Sub):BestIs l cs (b9f l cs):=
 c0Z cs [] _ ⟨fun h=>(by cases h),fun _ h=>(by cases h)⟩
theorem b9j(h1:1≤l.length)(h2:l.length≤4096)(hw:l.all a0b=true):a1y 1 l (cS 1 0 0 [] [])=(a2p (a0O 1 (cS 1 0 0 [] [])) (a3T l) (a1g l) z0 [],0):=by
 unfold a1y;rw[if_neg (fun q=>q ⟨h1,h2,.inr (.inl rfl)⟩),if_neg (by rw[hw];decide),if_neg (by decide),if_pos rfl]
theorem d2t(h1:1≤l.length)(h2:l.length≤4096)(hw:l.all a0b=true)(d:List Int)(k:Int):(b9f l (a5d d k)).2.1=true:=
 ((c5t l (a5d d k)).least (cS 1 0 0 [] []) (by simp[a5d,a2W]) (by rw[show(cS 1 0 0 [] []).1=1 from rfl,b9j h1 h2 hw])).1
def inW(x:Int)(v:Nat):Bool:=decide (x=0) || a1W x (v:Int)
theorem d5o:a1W x (v:Int)=true↔1≤v∧v≤31∧-((2^(v-1):Nat):Int)≤x∧x≤((2^(v-1):Nat):Int)-1:=by
 by_cases hv:1≤v∧v≤31
 have e:((v:Int)-1)=((v-1:Nat):Int):=by omega
 have hp:2^(v-1)≤2^30:=a20 (by omega) (by omega);have hp1:=a21 (v-1);have e1:a0z .i64 1 ((v-1:Nat):Int)=((2^(v-1):Nat):Int):=c8D (by omega);have e2:a0z .i64 (-1) ((v-1:Nat):Int)=-((2^(v-1):Nat):Int):=by
  have em:min (a35 ((v-1:Nat):Int)) (IntKind.bits .i64)=v-1:=by simp only[tN,IntKind.bits];omega
  unfold a0z;rw[em,show(-1:Int)*2^(v-1)=-((2^(v-1):Nat):Int)by simp];exact a0f (by omega)
 have e3:wrap .i64 (((2^(v-1):Nat):Int)-1)=((2^(v-1):Nat):Int)-1:=a0f (by omega);simp only[a1W,e,e1,e2,e3,bA,dT];constructor;intro h;exact⟨hv.1,hv.2,h.2.2.1,h.2.2.2⟩;intro h;exact⟨by omega,by omega,h.2.2.1,h.2.2.2⟩;constructor;intro h;simp only[a1W,bA,dT]at h;omega;intro h;omega
theorem c1q:inW x v=true↔x=0∨(1≤v∧v≤31∧-((2^(v-1):Nat):Int)≤x∧x≤((2^(v-1):Nat):Int)-1):=by
 simp only[inW,a24,dT,d5o]
theorem d5p(h:v≤w)(hw:w≤31)(hx:inW x v=true):inW x w=true:=by
 rw[c1q]at hx⊢;rcases hx with hx|⟨h1,h2,h3,h4⟩;exact .inl hx
 have:2^(v-1)≤2^(w-1):=a20 (by omega) (by omega)
 exact .inr ⟨by omega,hw,by omega,by omega⟩
theorem d5q(h:a0b x=true):inW x 31=true:=by
 have:=a2j.1 h
 rw[c1q];exact .inr ⟨by omega,by omega,by rw[show((2^(31-1):Nat):Int)=1073741824 from rfl];omega,by rw[show((2^(31-1):Nat):Int)=1073741824 from rfl];omega⟩
theorem c6s{x:Int}(hx:a0b x=true):∀(k w:Nat),w+k=32→w≤31→w≤a2o x k w∧a2o x k w≤31∧inW x (a2o x k w)=true∧∀v,w≤v→inW x v=true→v≤31→a2o x k w≤v
 |0,w,h,h31=>absurd h31 (by omega)
 |k+1,w,h,h31=>by
  by_cases hin:inW x w=true
  ·have:a2o x (k+1) w=w:=by
    unfold a2o;cases hc:(x != 0)&&!a1W x (w:Int)with
    |false=>rfl
    |true=>
     simp only[bA,bne_iff_ne,ne_eq,a34]at hc;simp only[inW,a24,dT,hc.2,Bool.false_eq_true,or_false]at hin;exact absurd hin hc.1
   rw[this];exact⟨a42 _,h31,hin,fun v hv _ _=>hv⟩
  have hc:((x != 0)&&!a1W x (w:Int))=true:=by
   simp only[inW,a24,dT,not_or,Bool.not_eq_true]at hin;simp only[bA,bne_iff_ne,ne_eq,a34];exact hin
  have hne:w≠31:=fun e=>hin (by rw[e];exact d5q hx);have e:a2o x (k+1) w=a2o x k (w+1):=by
   show(bif (x != 0)&&!a1W x (w:Int)then a2o x k (w+1)else w)=_;rw[hc,cT]
  obtain⟨g1,g2,g3,g4⟩:=c6s hx k (w+1) (by omega) (by omega);rw[e];refine⟨by omega,g2,g3,fun v hv hvi h31=>g4 v ?_ hvi h31⟩;rcases Nat.lt_or_ge w v with q|q;exact q
  have:v=w:=by omega
  exact absurd (this▸hvi) hin
theorem b2v:∀(l:List Int)(w:Nat),l.all a0b=true→w≤31→
  w≤l.foldl (fun w x=>a2o x (32-w) w) w∧l.foldl (fun w x=>a2o x (32-w) w) w≤31∧(∀x∈l,inW x (l.foldl (fun w x=>a2o x (32-w) w) w)=true)∧∀v,w≤v→v≤31→(∀x∈l,inW x v=true)→l.foldl (fun w x=>a2o x (32-w) w) w≤v
 | [],w,_,h31=>⟨a42 _,h31,by simp,fun v hv _ _=>hv⟩
 |x::l,w,h,h31=>by
  rw[a08,bA]at h;obtain⟨g1,g2,g3,g4⟩:=c6s h.1 (32-w) w (by omega) h31;obtain⟨f1,f2,f3,f4⟩:=b2v l (a2o x (32-w) w) h.2 g2;simp only[a91];refine⟨by omega,f2,fun y hy=>?_,fun v hv hv31 hall=>?_⟩;rcases mC.1 hy with rfl|hy;exact d5p f1 f2 g3;exact f3 y hy;exact f4 v (g4 v hv (hall x a81) hv31) hv31 fun y hy=>hall y (a96 _ hy)
theorem c8V(h:l.all a0b=true):∀x∈l,inW x (a0l l)=true:=(b2v l 0 h (by omega)).2.2.1
theorem c9Y(h:l.all a0b=true)(hv:v≤31)(hall:∀x∈l,inW x v=true):a0l l≤v:=(b2v l 0 h (by omega)).2.2.2 v (by omega) hv hall
theorem d5r(hw:w≤30)(hd:((2^w:Nat):Int) ∣ x)(h:inW x v=true):inW (a0C .i64 x (w:Int)) v=true:=by
 obtain⟨c,rfl⟩:=hd;rw[d5g (by omega)];rw[c1q]at h⊢;have hp:(1:Int)≤((2^w:Nat):Int):=by have:=a21 w;omega
 generalize ((2^w:Nat):Int)=p at h hp;rcases h with h|⟨h1,h2,h3,h4⟩;rcases Int.mul_eq_zero.1 h with h|h;omega;exact .inl h;refine .inr ⟨h1,h2,?_,?_⟩
 by_cases hc:0≤c
 have:(0:Int)≤((2^(v-1):Nat):Int):=a82 _
 omega;have hm:=a66 (show 0≤p-1 by omega) (show 0≤-c by omega);rw[Int.mul_neg,b21]at hm;omega
 by_cases hc:0≤c
 have hm:=a66 (show 0≤p-1 by omega) hc;rw[b21]at hm;omega
 have:(1:Int)≤((2^(v-1):Nat):Int):=by have:=a21 (v-1);omega
 omega
theorem d2u(h2:l.length≤4096)(hw:l.all a0b=true):a0l (a1g l)≤a0l l:=by
 obtain⟨-,w3,w4⟩:=b0D (show short l by unfold short;omega) hw;obtain⟨-,d2,-,-⟩:=a7T h2 hw;have hdv:∀x∈l,((2^a3T l:Nat):Int) ∣ x:=by
  rcases w4 with⟨g,-⟩|⟨-,-,g,-⟩;exact fun x hx=>by rw[g x hx];exact a89 _
  exact g
 refine c9Y d2 (a2B hw) fun y hy=>?_
 obtain⟨x,hx,rfl⟩:=List.mem_map.1 hy;exact d5r w3 (hdv x hx) (c8V hw x hx)
theorem d2v(h1:1≤l.length)(h2:l.length≤4096)(hw:l.all a0b=true):a5b (a1y 1 l (cS 1 0 0 [] [])).1 (l.length:Int)=((13+a0l (a1g l)*l.length:Nat):Int):=by
 have hS:SmallS (cS 1 0 0 [] []):=b2X (by simp) (by simp);have hm:=b9j h1 h2 hw;obtain⟨a1,-,-,a4⟩:=c5s hS (k:=1) (l:=l) (by rw[hm]);obtain⟨zn,hc,-⟩:=d5n a1 (by rw[a4];rfl);obtain⟨-,-,d3,-⟩:=a7T h2 hw;rw[hc,hm];have e:d2s (a2p (a0O 1 (cS 1 0 0 [] [])) (a3T l) (a1g l) z0 []) zn=13+0+a0l (a1g l)*(a1g l).length+0:=rfl;rw[e,d3];rfl
theorem d2w(h1:1≤l.length)(h2:l.length≤4096)(hw:l.all a0b=true)(hlag:c4l (a1g l))(h0:0≤k)(h3:k≤3):
  ∃s,a6z (l,k)=some (s,0)∧SmallS s∧a2Q s (l.length:Int)=some l∧s=(b9f l (a5d (a1g l) k)).2.2∧a5b s (l.length:Int)=(b9f l (a5d (a1g l) k)).1∧a5b s (l.length:Int)≤((13+a0l l*l.length:Nat):Int)∧
   (∀c∈a5d (a1g l) k,(a1y c.1 l c).2=0→a5b s (l.length:Int)≤a5b (a1y c.1 l c).1 (l.length:Int)):=by
 obtain⟨-,d2,d3,-⟩:=a7T h2 hw;have hb:=d7c h1 h2 hw hlag h0 h3;have hfd:=d2t h1 h2 hw (a1g l) k;obtain⟨c,hc,g0,g1,g2⟩:=(c5t l (a5d (a1g l) k)).one hfd;have hSc:=c4m d2 (by omega) hlag k c hc;obtain⟨f1,-,-,f4⟩:=c5s hSc g0;rw[←g1]at f1 f4;have hleast:∀c∈a5d (a1g l) k,(a1y c.1 l c).2=0→a5b (b9f l (a5d (a1g l) k)).2.2 (l.length:Int)≤a5b (a1y c.1 l c).1 (l.length:Int):=fun c hc h0=>by
  rw[←g2];exact((c5t l (a5d (a1g l) k)).least c hc h0).2
 refine⟨_,hb,f1,f4,rfl,g2.symm,?_,hleast⟩;have hp:=hleast (cS 1 0 0 [] []) (by simp[a5d,a2W]) (by rw[show(cS 1 0 0 [] []).1=1 from rfl,b9j h1 h2 hw]);rw[show(cS 1 0 0 [] []).1=1 from rfl,d2v h1 h2 hw]at hp
 have:=a39 l.length (d2u h2 hw)
 omega
@[reducible] def Rd:Type:=(List Int)×(Int×(Int×Unit))
def a1M(L:List Int):Prop:=∀b∈L,b=0∨b=1
def b5n(bs:List Int)(i:Nat):Bool:=(bs.getD (i / 8) 0).toNat.testBit (7-i%8)
theorem or8{x y:Nat}(hx:x<256)(hy:y<256):bits .u8 .or (x:Int) (y:Int)=((x ||| y:Nat):Int):=by
 show wrap .u8 (((a04 8 (x:Int)) ||| (a04 8 (y:Int))).toNat:Int)=_;rw[a27,a27,a63,a30,a30,a28 hx,a28 hy,b2o]
 have:x ||| y<2^8:=b08 hx hy
 omega
theorem e2G{b:Int}(hb:b=0∨b=1){r:Nat}(hr:r<8):a0z .u8 b (7-(r:Int))=((b.toNat*2^(7-r):Nat):Int):=by
 have key:∀r:Fin 8,a0z .u8 0 (7-(r.1:Int))=((0*2^(7-r.1):Nat):Int)∧a0z .u8 1 (7-(r.1:Int))=((1*2^(7-r.1):Nat):Int):=by decide +kernel
 rcases hb with rfl|rfl;exact(key ⟨r,hr⟩).1;exact(key ⟨r,hr⟩).2
theorem d5s{x:Nat}(hx:x<256){r:Nat}(hr:r<8):bits .u8 .and (a0C .u8 (x:Int) (7-(r:Int))) 1=if x.testBit (7-r)then 1 else 0:=by
 have e:a0C .u8 (x:Int) (7-(r:Int))=((x / 2^(7-r):Nat):Int):=by
  show b28 (x:Int) (2^(min (7-(r:Int)).toNat 8))=_;rw[show min (7-(r:Int)).toNat 8=7-r from by omega];rw[a37 _ (Int.le_of_lt (Int.pow_pos (by decide)))]
  simp
 rw[e];have hy:x / 2^(7-r)<256:=a49 (a51 _ _) hx;show wrap .u8 (((a04 8 ((x / 2^(7-r):Nat):Int)) &&& (a04 8 1)).toNat:Int)=_;rw[a27,a59,a30,a28 hy,show(a04 8 1).toNat=1 from by decide,b03,b2o,Nat.testBit_eq_decide_div_mod_eq]
 by_cases h:x / 2^(7-r)%2=1
 simp[h]
 have:x / 2^(7-r)%2=0:=by omega
 simp[this]
theorem d2x(bs:List Int)(j:Nat):(bs++[0]).getD j 0=bs.getD j 0:=by
 simp only[lD]
 by_cases h:j<bs.length
 rw[a62 h]
 ·rw[a23 (by omega),a72 (by omega:bs.length≤j)];cases h2:j-bs.length with
  |zero=>rfl
  |succ k=>rfl
theorem d3O(L:List Int)(b:Int)(i:Nat):(L++[b]).getD i 0=if i=L.length then b else L.getD i 0:=by
 simp only[lD]
 by_cases h:i<L.length
 rw[a62 h,if_neg (by omega)];rw[a23 (by omega)]
 by_cases e:i=L.length
 subst e;simp;rw[if_neg e,a72 (by simp;omega),a72 (by omega)]
theorem c8W(bs:List Int)(k:Nat)(y:Int)(hk:k<bs.length)(j:Nat):(bs.set k y).getD j 0=if j=k then y else bs.getD j 0:=by
 simp only[lD,List.getElem?_set]
 by_cases e:k=j
 subst e;simp[hk];rw[if_neg e,if_neg (Ne.symm e)]
theorem c6t:∀(n:Nat)(L:List Int),L.length=n→a1M L→(∀j,0≤(wL L).1.getD j 0∧(wL L).1.getD j 0<256)∧∀i,b5n (wL L).1 i=decide (L.getD i 0=1)
 |0,L,h,_=>by
  rw[a48.1 h];exact⟨fun j=>by simp[wL],fun i=>by simp[b5n,wL]⟩
 |n+1,L,h,hL=>by
  obtain⟨L',b,rfl⟩:∃L' b,L=L'++[b]:=by
   rcases a93 L with rfl|⟨L',b,e⟩;simp at h;exact⟨L',b,by rw[e,a94]⟩
  have hb:b=0∨b=1:=hL b (by simp);obtain⟨i1,i2⟩:=c6t n L' (by simpa using h) fun c hc=>hL c (by simp[hc]);obtain⟨h1,h2⟩:=a6K L';rw[c5n];generalize wL L'=wr at h1 h2 i1 i2⊢;obtain⟨bs,m,u⟩:=wr;have h1:m=(L'.length:Int):=h1;have h2:bs.length=(L'.length+7) / 8:=h2;subst h1;have e8:((L'.length:Int) / 8).toNat=L'.length / 8:=by omega
  have em:(L'.length:Int)%8=((L'.length%8:Nat):Int):=by omega
  obtain⟨bs1,hbs1,g1,g2⟩:∃bs1:List Int,(if(L'.length:Int)%8=0 then bs++[0]else bs)=bs1∧L'.length / 8<bs1.length∧∀j,bs1.getD j 0=bs.getD j 0:=by
   by_cases hz:(L'.length:Int)%8=0
   exact⟨bs++[0],by rw[if_pos hz],by simp;omega,d2x bs⟩;exact⟨bs,by rw[if_neg hz],by omega,fun _=>rfl⟩
  rw[em]at hbs1;have hr:L'.length%8<8:=a45 _ (by decide);obtain⟨x,hx⟩:∃x:Nat,bs.getD (L'.length / 8) 0=(x:Int):=a00 (i1 _).1;have hx256:x<256:=by
   have h6:bs.getD (L'.length / 8) 0<256:=(i1 (L'.length / 8)).2;omega
  have hy:b.toNat*2^(7-L'.length%8)<256:=by
   have hp:2^(7-L'.length%8)≤2^7:=a20 (by decide) (by omega);rcases hb with rfl|rfl<;>simp<;>omega
  have hor:x ||| b.toNat*2^(7-L'.length%8)<2^8:=b08 hx256 hy;have hbit:(c5m (bs,(L'.length:Int),u) b).1=bs1.set (L'.length / 8) ((x ||| b.toNat*2^(7-L'.length%8):Nat):Int):=by
   unfold c5m;simp only[hbs1,e8,em];rw[g2,hx,e2G hb hr,or8 hx256 hy]
  rw[hbit];refine⟨fun j=>?_,fun i=>?_⟩;rw[c8W _ _ _ g1];split;omega;rw[g2];exact i1 j;unfold b5n;rw[c8W _ _ _ g1,d3O];have hi:=i2 i;unfold b5n at hi
  by_cases hk:i / 8=L'.length / 8
  rw[if_pos hk,tN,Nat.testBit_or];rw[hk,hx,tN]at hi;rw[hi];have hbt:(b.toNat*2^(7-L'.length%8)).testBit (7-i%8)=(decide (b=1)&&decide (i=L'.length)):=by
   rcases hb with rfl|rfl
   simp
   have e:(1:Int).toNat*2^(7-L'.length%8)=2^(7-L'.length%8):=by simp
   rw[e,b00]
   by_cases hi':i=L'.length
   subst hi';simp
   have:¬ (7-L'.length%8=7-i%8):=by omega
   simp[hi',this]
  rw[hbt]
  by_cases hi':i=L'.length
  subst hi'
  have:L'.getD L'.length 0=0:=by simp[lD]
  simp
  simp[hi'];rw[if_neg hk,g2,hi,if_neg (fun e=>hk (by rw[e]))]
theorem d7e(h:a1M L):(∀j,0≤(wL L).1.getD j 0∧(wL L).1.getD j 0<256)∧∀i,b5n (wL L).1 i=decide (L.getD i 0=1):=c6t _ L rfl h
def rdr(P R:List Int):Rd:=((wL (P++R)).1,(P.length:Int),(0:Int),())
theorem c5u(hL:a1M L)(hl:L.length<1000000000)(hi:i<L.length)(t:Int×(Int×Unit)):
  a1Z (((wL L).1,t),(i:Int))=some (L.getD i 0,(wL L).1,t):=by
 obtain⟨h1,h2⟩:=d7e hL;obtain⟨-,h3⟩:=a6K L;have ht:a43 (i:Int) 8=((i%8:Nat):Int):=by rw[a44 (by omega)];omega
 have hd:a68 (i:Int) 8=((i / 8:Nat):Int):=by rw[a60 (by omega)];omega
 have e1:wrap .i64 ((i / 8:Nat):Int)=((i / 8:Nat):Int):=a0f (by omega);have e2:wrap .i64 (7-((i%8:Nat):Int))=7-((i%8:Nat):Int):=a0f (by omega);have g:decide (7-((i%8:Nat):Int)<0)=false:=by simp;omega
 have hb:i / 8<(wL L).1.length:=by omega
 have hget:(wL L).1[i / 8]=(wL L).1.getD (i / 8) 0:=by simp[lD,hb]
 unfold a1Z;simp only[ht,hd,e1,e2,g,a0c hb,oB,cF];obtain⟨x,hx⟩:∃x:Nat,(wL L).1.getD (i / 8) 0=(x:Int):=a00 (h1 _).1;have hx256:x<256:=by have:=(h1 (i / 8)).2;omega
 rw[hget,hx,d5s hx256 (a45 _ (by decide))]
 have:=h2 i
 unfold b5n at this;rw[hx,tN]at this;rw[this];have hv:L.getD i 0=0∨L.getD i 0=1:=by
  have:L.getD i 0=L[i]:=by simp[lD,hi]
  rw[this];exact hL _ (a09 hi)
 rcases hv with h|h<;>rw[h]<;>rfl
theorem d3P(hv:v<18446744073709551616)(hi:i≤64):a7Q (v:Int) i=((v / 2^i%2:Nat):Int):=by
 unfold a7Q;rw[a7y hi];have hy:v / 2^i<18446744073709551616:=a49 (a51 _ _) hv;show wrap .u8 (wrap .u64 (((a04 64 ((v / 2^i:Nat):Int)) &&& (a04 64 1)).toNat:Int))=_;rw[a27,a59,a30,a28 hy,show(a04 64 1).toNat=1 from by decide,b03]
 have:v / 2^i%2<2:=a45 _ (by decide)
 rw[a0G (by omega),b2o];omega
theorem a1M.app{B:List Int}(h:a1M A)(h':a1M B):a1M (A++B):=fun b hb=>(mA.1 hb).elim (h b) (h' b)
theorem orU(ha:a<18446744073709551616)(hb:b<2)(h2:a%2=0):bits .u64 .or (a:Int) (b:Int)=((a+b:Nat):Int):=by
 show wrap .u64 (((a04 64 (a:Int) ||| a04 64 (b:Int)).toNat:Nat):Int)=_;have h1:(a04 64 (a:Int)).toNat=a:=by rw[a31];omega
 have h2':(a04 64 (b:Int)).toNat=b:=by rw[a31];omega
 rw[a63,h1,h2'];have e:a ||| b=a+b:=by
  have:=a56 (i:=1) (b:=b) (by omega) (a / 2)
  rw[show 2^1*(a / 2)=a from by omega]at this;exact this.symm
 rw[e];exact a0G (by omega)
theorem d7f(P:List Int)(b:Int)(R:List Int):(P++b::R).getD P.length 0=b:=by
 simp[lD]
theorem c8X{v:Nat}(hv:v<9223372036854775808){n:Nat}(hn:n≤62):∀(m:Nat)(P R:List Int),m≤n→a1M (P++(pb (v:Int) m++R))→(P++(pb (v:Int) m++R)).length<1000000000→
  a0h a4Y (((v / 2^m:Nat):Int),(n:Int),((n-m:Nat):Int),rdr P (pb (v:Int) m++R),())=some ((v:Int),rdr (P++pb (v:Int) m) R,())
 |0,P,R,_,_,_=>by
  have hd:decide (((n:Nat):Int)<(n:Int))=false:=by simp
  rw[a0o (b:=((v:Int),rdr P R,())) (by simp[a4Y,pb,rdr])];simp[pb]
 |m+1,P,R,hm,hok,hlen=>by
  have hd:decide (((n-(m+1):Nat):Int)<(n:Int))=true:=by simp;omega
  have hlk:a1Z (rdr P (pb (v:Int) (m+1)++R),(P.length:Int))=some (a7Q v m,rdr P (pb (v:Int) (m+1)++R)):=by
   have:=c5u hok hlen (i:=P.length) (by simp[pb]) ((P.length:Int),(0:Int),())
   rw[show(P++(pb (v:Int) (m+1)++R)).getD P.length 0=a7Q v m from by simp only[pb,a85];exact d7f _ _ _]at this;exact this
  have hbit:=d3P (v:=v) (by omega) (i:=m) (by omega);have hlt:v / 2^m%2<2:=a45 _ (by decide);have hdiv:v / 2^(m+1)=v / 2^m / 2:=by rw[a58,Nat.div_div_eq_div_mul]
  have hle:v / 2^m≤v:=a51 _ _;have hsh:a0z .u64 ((v / 2^(m+1):Nat):Int) 1=((v / 2^(m+1)*2^1:Nat):Int):=b4n (o:=1) (by omega) (by rw[hdiv];omega);have hacc:bits .u64 .or ((v / 2^(m+1)*2^1:Nat):Int) (wrap .u64 (a7Q (v:Int) m))=((v / 2^m:Nat):Int):=by
   rw[hbit,a0G (by omega),orU (by rw[hdiv];omega) hlt (by omega),hdiv];congr 1;omega
  have hw1:wrap .i64 (((n-(m+1):Nat):Int)+1)=((n-m:Nat):Int):=by rw[a0f (by omega)];omega
  have hw2:wrap .i64 ((P.length:Int)+1)=(((P++[a7Q v m]).length:Nat):Int):=by
   rw[a0f (by simp at hlen;omega)];simp
  have hassoc:P++(pb (v:Int) (m+1)++R)=(P++[a7Q v m])++(pb (v:Int) m++R):=by simp[pb]
  have hre:((rdr P (pb (v:Int) (m+1)++R)).1,(((P++[a7Q v m]).length:Nat):Int),(rdr P (pb (v:Int) (m+1)++R)).2.2)=rdr (P++[a7Q v m]) (pb (v:Int) m++R):=by
   unfold rdr;rw[hassoc]
  rw[a0q (s':=(((v / 2^m:Nat):Int),(n:Int),((n-m:Nat):Int),rdr (P++[a7Q v m]) (pb (v:Int) m++R),())) (by
   simp only[a4Y,hd,cT];rw[show(rdr P (pb (v:Int) (m+1)++R)).2.1=(P.length:Int)from rfl,hlk];simp only[oB,hsh,hacc,hw1];rw[show(rdr P (pb (v:Int) (m+1)++R)).2.1=(P.length:Int)from rfl,hw2,hre])]
  rw[c8X hv hn m _ _ (by omega) (by rw[←hassoc];exact hok) (by rw[←hassoc];exact hlen)];simp[pb]
theorem d3Q{n:Nat}(hn:n≤62)(hv:v<2^n)(hok:a1M (P++(pb (v:Int) n++R)))(hlen:(P++(pb (v:Int) n++R)).length<200000000):
  a0k (rdr P (pb (v:Int) n++R),(n:Int))=some ((v:Int),rdr (P++pb (v:Int) n) R):=by
 have hv63:v<9223372036854775808:=b02 hv (Nat.le_trans (a20 (by decide) hn) (by decide));have hk:=c8X hv63 hn n P R (by omega) hok (by omega);rw[a84 hv,Nat.sub_self]at hk;simp only[nZ,a17]at hk;obtain⟨-,hbl⟩:=a6K (P++(pb (v:Int) n++R));have hpl:=b4m (v:Int) n;have hll:(P++(pb (v:Int) n++R)).length=P.length+n+R.length:=by simp[b4m];omega
 have e8:wrap .i64 ((8:Int)*(((wL (P++(pb (v:Int) n++R))).1.length:Nat):Int))=(8:Int)*(((wL (P++(pb (v:Int) n++R))).1.length:Nat):Int):=a0f (by omega);have e9:wrap .i64 ((8:Int)*(((wL (P++(pb (v:Int) n++R))).1.length:Nat):Int)-(P.length:Int))=(8:Int)*(((wL (P++(pb (v:Int) n++R))).1.length:Nat):Int)-(P.length:Int):=a0f (by omega);have d1:decide ((n:Int)<0)=false:=by simp
 have d2:decide ((n:Int) > 64)=false:=by simp;omega
 have d3:decide ((n:Int) > (8:Int)*(((wL (P++(pb (v:Int) n++R))).1.length:Nat):Int)-(P.length:Int))=false:=by
  simp only[gt_iff_lt,decide_eq_false_iff_not,Int.not_lt];omega
 unfold a0k a3o;rw[show(rdr P (pb (v:Int) n++R)).2.2.1=0 from rfl];simp only[bne_self_eq_false,cF,d1,d2,oB];rw[show(rdr P (pb (v:Int) n++R)).1=(wL (P++(pb (v:Int) n++R))).1 from rfl,show(rdr P (pb (v:Int) n++R)).2.1=(P.length:Int)from rfl,e8,e9];simp only[d3,cF,hk,oB]
def b7y(n:Nat)(x:Int):Prop:=-((2^n:Nat):Int)≤2*x∧2*x<((2^n:Nat):Int)
theorem c6u{n:Nat}(hn:n≤62)(x:Int):∃v:Nat,a0H x n=(v:Int)∧v<2^n∧(v:Int)=x%((2^n:Nat):Int):=by
 have hw:wrap .u64 x=x%18446744073709551616:=by simp[wrap,IntKind.bits,IntKind.signed]
 obtain⟨y,hy⟩:∃y:Nat,x%18446744073709551616=(y:Int):=a00 (Int.emod_nonneg _ (by decide));have hy2:y<18446744073709551616:=by omega
 refine⟨y%2^n,?_,a45 _ (a21 n),?_⟩;unfold a0H;rw[hw,hy];exact c8y hy2 hn;rw[Int.natCast_emod,←hy];refine Int.emod_emod_of_dvd x ?_
 have:(2:Nat)^n ∣ 2^64:=a78 2 (by omega)
 exact a33.2 this
theorem d3R{n:Nat}(hn:n≤62)(hf:b7y n x)(hok:a1M (P++(pb (a0H x n) n++R)))(hlen:(P++(pb (a0H x n) n++R)).length<200000000):
  a1f (rdr P (pb (a0H x n) n++R),(n:Int))=some (x,rdr (P++pb (a0H x n) n) R):=by
 obtain⟨v,hv,hlt,hmod⟩:=c6u hn x;rw[hv]at hok hlen⊢;have hget:=d3Q hn hlt hok hlen;obtain⟨hf1,hf2⟩:=hf;have h2:=a21 n;have hvx:(v:Int)=x∧0≤x∨(v:Int)=x+((2^n:Nat):Int)∧x<0:=by
  by_cases h0:0≤x
  exact .inl ⟨by rw[hmod];exact b09 h0 (by omega),h0⟩;refine .inr ⟨?_,by omega⟩;rw[hmod,←Int.add_emod_right];exact b09 (by omega) (by omega)
 unfold a1f;simp only[hget,oB];rw[show(rdr (P++pb (v:Int) n) R).2.2.1=0 from rfl];simp only[bne_self_eq_false,cF,oB];cases n with
 |zero=>
  have hx0:x=0:=by simp at hf1 hf2;omega
  subst hx0;rfl
 |succ k=>
  have hne:(((k+1:Nat):Int)==0)=false:=by simp only[beq_eq_false_iff_ne];omega
  have e1:wrap .i64 ((64:Int)-((k+1:Nat):Int))=((64-(k+1):Nat):Int):=by rw[a0f (by omega)];omega
  have d1:decide (((64-(k+1):Nat):Int)<0)=false:=by simp
  simp only[hne,cF,e1,d1];have hm:64-(k+1)+(k+1)=64:=by omega
  generalize 64-(k+1)=m at hm⊢;have hpw:2^m*2^(k+1)=18446744073709551616:=by rw[←Nat.pow_add,hm]
  have hpwI:((2^m:Nat):Int)*((2^(k+1):Nat):Int)=18446744073709551616:=by rw[←a77,hpw];rfl
  have hp:=a21 m;have sh1:a0z .u64 (v:Int) (m:Int)=(v:Int)*((2^m:Nat):Int):=by
   show wrap .u64 ((v:Int)*2^(min (m:Int).toNat 64))=_;rw[tN,a76 (by omega)];have e:(2:Int)^m=((2^m:Nat):Int):=by simp
   rw[e];refine a0G ⟨a66 (by omega) (by omega),?_⟩
   have:v*2^m<2^(k+1)*2^m:=Nat.mul_lt_mul_of_pos_right hlt hp
   rw[←a77];rw[a79 (2^(k+1)),hpw]at this;omega
  have b1:-9223372036854775808≤x*((2^m:Nat):Int):=by
   have:=Int.mul_le_mul_of_nonneg_right hf1 (show(0:Int)≤((2^m:Nat):Int)by omega)
   have e:-((2^(k+1):Nat):Int)*((2^m:Nat):Int)=-18446744073709551616:=by rw[Int.neg_mul,a88,hpwI]
   rw[e,Int.mul_assoc]at this;omega
  have b2:x*((2^m:Nat):Int)<9223372036854775808:=by
   have:=Int.mul_lt_mul_of_pos_right hf2 (show(0:Int)<((2^m:Nat):Int)by omega)
   rw[a88 ((2^(k+1):Nat):Int),hpwI,Int.mul_assoc]at this;omega
  have w1:wrap .i64 ((v:Int)*((2^m:Nat):Int))=x*((2^m:Nat):Int):=by
   rcases hvx with⟨h,-⟩|⟨h,-⟩;rw[h];exact a0f (by omega);rw[h,Int.add_mul,a88 ((2^(k+1):Nat):Int),hpwI];generalize x*((2^m:Nat):Int)=y at b1 b2⊢;have hx0:y<0∨0≤y:=by omega
   simp only[wrap,IntKind.bits,IntKind.signed]
   simp
   split<;>omega
  have s1:a0C .i64 (x*((2^m:Nat):Int)) (m:Int)=x:=by
   show b28 (x*((2^m:Nat):Int)) (2^(min (m:Int).toNat 64))=x;rw[tN,a76 (by omega)];have e:(2:Int)^m=((2^m:Nat):Int):=by simp
   rw[e,a37 _ (by omega)];exact Int.mul_ediv_cancel _ (by omega)
  rw[sh1,w1,s1]
theorem d2y(P:List Int)(n:Nat)(R:List Int){c:Nat}(hc:c<n):(P++(a01 n 0++1::R)).getD (P.length+c) 0=0:=by
 simp only[lD];rw[a23 (by omega),a90,a62 (by simpa using hc)];simp[hc]
theorem d5t(P:List Int)(n:Nat)(R:List Int):(P++(a01 n 0++1::R)).getD (P.length+n) 0=1:=by
 simp only[lD];rw[a23 (by omega),a90,a23 (by simp)]
 simp
theorem d3S{n lm:Nat}(hn:n≤lm)(hlm:lm<1000000)(hok:a1M (P++(a01 n 0++1::R)))(hlen:(P++(a01 n 0++1::R)).length<200000000):
  a2k (rdr P (a01 n 0++1::R),(lm:Int))=some ((n:Int),rdr (P++(a01 n 0++[1])) R):=by
 obtain⟨-,hbl⟩:=a6K (P++(a01 n 0++1::R));have hll:(P++(a01 n 0++1::R)).length=P.length+n+1+R.length:=by simp;omega
 have e8:wrap .i64 ((8:Int)*(((wL (P++(a01 n 0++1::R))).1.length:Nat):Int))=(8:Int)*(((wL (P++(a01 n 0++1::R))).1.length:Nat):Int):=a0f (by omega);have hlk:∀c,c≤n→a1Z (rdr P (a01 n 0++1::R),((P.length:Int)+(c:Int)))=some (if c=n then 1 else 0,rdr P (a01 n 0++1::R)):=fun c hc=>by
  have:=c5u hok (by omega) (i:=P.length+c) (by omega) ((P.length:Int),(0:Int),())
  rw[b29]at this;refine this.trans ?_
  by_cases e:c=n
  subst e;rw[d5t,if_pos rfl];rfl;rw[d2y P n R (by omega),if_neg e];rfl
 have hend:∀c:Nat,c≤n→(((P.length:Int)+(c:Int))==(8:Int)*(((wL (P++(a01 n 0++1::R))).1.length:Nat):Int))=false:=fun c hc=>by
  simp only[beq_eq_false_iff_ne];omega
 have hP1:wrap .i64 ((P.length:Int)+(n:Int)+1)=(((P++(a01 n 0++[1])).length:Nat):Int):=by
  rw[a0f (by omega)];simp;omega
 have hassoc:P++(a01 n 0++1::R)=(P++(a01 n 0++[1]))++R:=by simp
 have hre:((rdr P (a01 n 0++1::R)).1,(((P++(a01 n 0++[1])).length:Nat):Int),(rdr P (a01 n 0++1::R)).2.2)=rdr (P++(a01 n 0++[1])) R:=by
  unfold rdr;rw[hassoc]
 have hr1:(rdr P (a01 n 0++1::R)).1=(wL (P++(a01 n 0++1::R))).1:=rfl;have hloop:=a3G (f:=a4p) (fun c:Nat=>((lm:Int),(c:Int),(P.length:Int)+(c:Int),rdr P (a01 n 0++1::R),())) n (b:=((n:Int),rdr (P++(a01 n 0++[1])) R,()))
  (fun c hc=>by
   have d1:((0:Int)==1)=false:=rfl;have d2:(((c:Nat):Int)==(lm:Int))=false:=by simp only[beq_eq_false_iff_ne];omega
   have w1:wrap .i64 ((c:Int)+1)=((c+1:Nat):Int):=a0d (by omega);have w2:wrap .i64 ((P.length:Int)+(c:Int)+1)=(P.length:Int)+((c+1:Nat):Int):=by rw[a0f (by omega)];omega
   simp only[a4p,hr1,e8,hend c (by omega),cF,hlk c (by omega),oB,if_neg (Nat.ne_of_lt hc),d1,d2,w1,w2])
  (by
   have d1:((1:Int)==1)=true:=rfl;simp only[a4p,hr1,e8,hend n (a42 _),cF,hlk n (a42 _),oB,if_pos rfl,d1,cT,hP1];rw[←hr1,hre];rfl)
 unfold a2k;rw[show(rdr P (a01 n 0++1::R)).2.2.1=0 from rfl,show(rdr P (a01 n 0++1::R)).2.1=(P.length:Int)from rfl];have hmx:a2q (lm:Int) 0=(lm:Int):=by
  have d:decide ((0:Int) > (lm:Int))=false:=by simp
  simp only[a2q,d,cF]
 simp only[nZ,Int.add_zero,a17]at hloop;simp only[bne_self_eq_false,cF,hmx,hloop,oB]
def OkR(P R:List Int):Prop:=a1M (P++R)∧(P++R).length<200000000
theorem OkR.shift(h:OkR P (A++R)):OkR (P++A) R:=by
 unfold OkR at h⊢
 rwa [aA]
theorem a4z{n:Nat}(hn:n≤62)(hv:v<2^n)(h:OkR P (pb (v:Int) n++R)):a0k (rdr P (pb (v:Int) n++R),(n:Int))=some ((v:Int),rdr (P++pb (v:Int) n) R):=d3Q hn hv h.1 h.2
theorem b1C{n:Nat}(hn:n≤62)(hf:b7y n x)(h:OkR P (pb (a0H x n) n++R)):a1f (rdr P (pb (a0H x n) n++R),(n:Int))=some (x,rdr (P++pb (a0H x n) n) R):=d3R hn hf h.1 h.2
def unB(n:Nat):List Int:=a01 n 0++[1]
theorem c8Y{n lm:Nat}(hn:n≤lm)(hlm:lm<1000000)(h:OkR P (unB n++R)):a2k (rdr P (unB n++R),(lm:Int))=some ((n:Int),rdr (P++unB n) R):=by
 have e:unB n++R=a01 n 0++1::R:=by simp[unB]
 rw[e]at h⊢;exact d3S hn hlm h.1 h.2
theorem a2y{n:Nat}(hn:n≤63)(hv:v<2^n)(L:List Int):a0w (v:Int) n L=L++pb (v:Int) n:=by
 unfold a0w;rw[a7y (N:=v) (o:=n) (by omega),a84 hv]
 simp
def b1c(k:Nat)(x:Int):List Int:=
 if a0u x / 2^k<32 then unB (a0u x / 2^k)++pb ((a0u x%2^k:Nat):Int) k else unB 32++pb ((a0u x:Nat):Int) 32
theorem d3T{k:Nat}(hk:k≤25)(hx:a0b x=true)(L:List Int):a7R k x L=L++b1c k x:=by
 have hlt:=b1p hx;unfold a7R b1c;split;rw[a2y (by omega) (a45 _ (a21 k))];simp[unL,unB];rw[a2y (by omega) (by omega)];simp[unL,unB]
theorem d3U(hx:a0b x=true):a8l ((a0u x:Nat):Int)=some x:=by
 have hlt:=b1p hx;have hw:=a2j.1 hx;have ht:a43 ((a0u x:Nat):Int) 2=((a0u x:Nat):Int)%2:=a44 (by omega);have hd:a68 ((a0u x:Nat):Int) 2=((a0u x:Nat):Int) / 2:=a60 (by omega);have d1:decide (((a0u x:Nat):Int)≥2147483648)=false:=by simp only[ge_iff_le,decide_eq_false_iff_not];omega
 unfold a8l;simp only[d1,cF,ht,hd]
 by_cases h0:0≤x
 have e:((a0u x:Nat):Int)=2*x:=by unfold a0u;rw[if_pos h0];omega
 rw[e];have d2:((2*x)%2==(0:Int))=true:=by simp only[beq_iff_eq];omega
 have e2:2*x / 2=x:=by omega
 simp only[d2,cT,e2];rw[a0G (by omega),a0f (by omega)];have e:((a0u x:Nat):Int)=-2*x-1:=by unfold a0u;rw[if_neg h0];omega
 rw[e];have d2:((-2*x-1)%2==(0:Int))=false:=by simp only[beq_eq_false_iff_ne];omega
 have e2:(-2*x-1) / 2=-x-1:=by omega
 simp only[d2,cF,e2];rw[a0G (n:=-x-1) (by omega),a0f (n:=-x-1) (by omega),a0f (n:=0-(-x-1)) (by omega),a0f (by omega)];congr 1;omega
theorem c9Z{k:Nat}(hk:k≤25)(hx:a0b x=true)(h:OkR P (b1c k x++R)):b4V (rdr P (b1c k x++R),(k:Int))=some (x,(0:Int),rdr (P++b1c k x) R):=by
 have hlt:=b1p hx;have hunf:=d3U hx;unfold b4V a0x;unfold b1c at h⊢;have hz:∀A B:List Int,(rdr A B).2.2.1=0:=fun _ _=>rfl;split;rename_i hq;rw[if_pos hq,aA]at h;have h1:=c8Y (n:=a0u x / 2^k) (lm:=32) (by omega) (by omega) h;have h2:=a4z (n:=k) (v:=a0u x%2^k) (by omega) (a45 _ (a21 k)) h.shift;have e1:wrap .u64 ((a0u x / 2^k:Nat):Int)=((a0u x / 2^k:Nat):Int):=a2V (by omega);have d1:decide (((a0u x / 2^k:Nat):Int)<32)=true:=by simp only[dT];omega
 have d2:decide ((k:Int)<0)=false:=by simp
 have hmul:a0u x / 2^k*2^k≤a0u x:=Nat.div_mul_le_self _ _;have hsh:a0z .u64 ((a0u x / 2^k:Nat):Int) (k:Int)=((a0u x / 2^k*2^k:Nat):Int):=b4n (by omega) (by omega);have hsum:wrap .u64 (((a0u x / 2^k*2^k:Nat):Int)+((a0u x%2^k:Nat):Int))=((a0u x:Nat):Int):=by
  rw[←b29,Nat.div_add_mod',a0G (by omega)]
 rw[aA];have h1':a2k (rdr P (unB (a0u x / 2^k)++(pb ((a0u x%2^k:Nat):Int) k++R)),(32:Int))=_:=h1;simp only[h1',oB,hz,bne_self_eq_false,cF,e1,d1,cT,h2,d2,hsh,hsum,hunf];rw[aA];rename_i hq;rw[if_neg hq,aA]at h;have h1:=c8Y (n:=32) (lm:=32) (by omega) (by omega) h;have h2:=a4z (n:=32) (v:=a0u x) (by omega) (by omega) h.shift;have e1:wrap .u64 (32:Int)=32:=a0G (by omega);have d1:decide ((32:Int)<32)=false:=by simp
 have d2:decide ((k:Int)<0)=false:=by simp
 have d3:decide (((a0u x:Nat):Int)≥2147483648)=false:=by simp only[ge_iff_le,decide_eq_false_iff_not];omega
 have hsr:a0C .u64 ((a0u x:Nat):Int) (k:Int)=((a0u x / 2^k:Nat):Int):=a7y (by omega);have d4:decide (((a0u x / 2^k:Nat):Int)<32)=false:=by simp only[decide_eq_false_iff_not];omega
 rw[aA];have h1':a2k (rdr P (unB 32++(pb ((a0u x:Nat):Int) 32++R)),(32:Int))=some ((32:Int),_):=h1;have h2':a0k (rdr (P++unB 32) (pb ((a0u x:Nat):Int) 32++R),(32:Int))=_:=h2;simp only[h1',oB,hz,bne_self_eq_false,cF,e1,d1,h2',d2,d3,hsr,d4,hunf];rw[aA]
def a4f(k:Nat)(l:List Int):List Int:=l.flatMap (b1c k)
theorem c4n{k:Nat}(hk:k≤25):∀(l L:List Int),l.all a0b=true→a4T k l L=L++a4f k l
 | [],L,_=>by simp[a4T,a4f]
 |x::l,L,h=>by
  simp only[a08,bA]at h;show a4T k l (a7R k x L)=_;rw[c4n hk l _ h.2,d3T hk h.1];simp[a4f]
theorem b9O{k:Nat}(hk:k≤25){N:Nat}(hN:N<1000000):∀(l done P R:List Int),l.all a0b=true→done.length+l.length=N→OkR P (a4f k l++R)→
  a0h b0W ((k:Int),(N:Int),(done.length:Int),done,rdr P (a4f k l++R),())=some (Sum.inl (done++l,rdr (P++a4f k l) R,()))
 | [],done,P,R,_,hl,_=>by
  have:done.length=N:=by simpa using hl
  subst this;have d:decide ((done.length:Int)<(done.length:Int))=false:=by simp
  rw[a0o (b:=Sum.inl (done,rdr P R,())) (by simp only[b0W,d,cF];simp[a4f])];simp[a4f]
 |x::l,done,P,R,h,hl,hok=>by
  simp only[a08,bA]at h;rw[lC]at hl;have e:a4f k (x::l)++R=b1c k x++(a4f k l++R):=by simp[a4f]
  rw[e]at hok⊢;have d:decide ((done.length:Int)<(N:Int))=true:=by simp;omega
  have h1:=c9Z hk h.1 hok;have hlm:lim (a46 done+1)=true:=a1u (by omega);have hw:wrap .i64 ((done.length:Int)+1)=(((done++[x]).length:Nat):Int):=by rw[a0f (by omega)];simp
  rw[a0q (s':=((k:Int),(N:Int),(((done++[x]).length:Nat):Int),done++[x],rdr (P++b1c k x) (a4f k l++R),())) (by
   simp only[b0W,d,cT,h1,oB,bne_self_eq_false,cF,hlm,hw,a16])]
  rw[b9O hk hN l (done++[x]) (P++b1c k x) R h.2 (by simp;omega) hok.shift];simp[a4f]
theorem d0a{k:Nat}(hk:k≤25)(h:l.all a0b=true)(hl:l.length<1000000)(hok:OkR P (a4f k l++R)):
  b4W (rdr P (a4f k l++R),(k:Int),((l.length:Nat):Int))=some (l,(0:Int),rdr (P++a4f k l) R):=by
 have hp:a2w (k:Int)=some true:=by
  unfold a2w;have d1:decide ((k:Int)≥0)=true:=by simp
  have d2:decide ((k:Int)≤25)=true:=by simp;omega
  simp[d1,d2]
 have d1:decide (((l.length:Nat):Int)<0)=false:=by simp
 have d2:decide (((l.length:Nat):Int) > 4194304)=false:=by simp;omega
 have hz:∀A B:List Int,(rdr A B).2.2.1=0:=fun _ _=>rfl;have hlp:=b9O hk hl l [] P R h (by simp) hok;simp only[a19,nZ,a06,a17]at hlp;unfold b4W a0x;simp only[hp,oB,bT,cF,d1,d2,hz,bne_self_eq_false]
 erw[hlp]
 rfl
theorem d5u(h:inW x v=true):b7y v x:=by
 have hp:=a21 v;rcases c1q.1 h with rfl|⟨h1,-,h3,h4⟩;exact⟨by omega,by omega⟩;have e:2^v=2^(v-1)*2:=by rw[←a58];congr 1;omega
 unfold b7y;rw[e];omega
theorem b9k(h:l.all a0b=true):∀x∈l,b7y (a0l l) x:=fun x hx=>d5u (c8V h x hx)
def sB(n:Nat)(l:List Int):List Int:=l.flatMap fun x=>pb (a0H x n) n
theorem b1D{n:Nat}(hn:n≤62):∀(l L:List Int),a1P n l L=L++sB n l
 | [],L=>by simp[a1P,sB]
 |x::l,L=>by
  show a1P n l (a0w (a0H x n) n L)=_;obtain⟨v,hv,hlt,-⟩:=c6u hn x;rw[b1D hn l,hv,a2y (by omega) hlt,←hv];simp[sB]
theorem c5v(n:Nat)(x:Int)(l R:List Int):sB n (x::l)++R=pb (a0H x n) n++(sB n l++R):=by simp[sB]
theorem b8o{k:Int}{n:Nat}(hn:n≤62){N:Nat}(hN:N<1000000):∀(l done P R:List Int),(∀x∈l,b7y n x)→done.length+l.length=N→OkR P (sB n l++R)→
  a0h b0a (k,(n:Int),(N:Int),(done.length:Int),done,rdr P (sB n l++R),())=some (k,(n:Int),done++l,rdr (P++sB n l) R,())
 | [],done,P,R,_,hl,_=>by
  have:done.length=N:=by simpa using hl
  subst this;have d:decide ((done.length:Int)<(done.length:Int))=false:=by simp
  rw[a0o (b:=(k,(n:Int),done,rdr P R,())) (by simp only[b0a,d,cF];simp[sB])];simp[sB]
 |x::l,done,P,R,h,hl,hok=>by
  rw[lC]at hl;rw[c5v]at hok⊢;have d:decide ((done.length:Int)<(N:Int))=true:=by simp;omega
  have h1:=b1C hn (h x (by simp)) hok;have hlm:lim (a46 done+1)=true:=a1u (by omega);have hw:wrap .i64 ((done.length:Int)+1)=(((done++[x]).length:Nat):Int):=by rw[a0f (by omega)];simp
  rw[a0q (s':=(k,(n:Int),(N:Int),(((done++[x]).length:Nat):Int),done++[x],rdr (P++pb (a0H x n) n) (sB n l++R),())) (by
   simp only[b0a,d,cT,h1,oB,hlm,hw,a16])]
  rw[b8o hn hN l (done++[x]) _ R (fun y hy=>h y (by simp[hy])) (by simp;omega) hok.shift];simp[sB]
def b2w(k:Int)(part:List Int):List Int:=if k=31 then pb 31 5++(pb ((a0l part:Nat):Int) 5++sB (a0l part) part)else pb k 5++a4f k.toNat part
theorem d3V(hk:kB k=true)(hw:part.all a0b=true)(L:List Int):b1b k part L=L++b2w k part:=by
 have hwd:=a2B hw;simp only[kB,a24,bA,dT,beq_iff_eq]at hk;obtain⟨K,rfl⟩:=a00 (show 0≤k by omega);unfold b1b b2w;rw[a2V (by omega)];have hA:=a2y (v:=K) (n:=5) (by omega) (by omega) L;split;rename_i h31;rw[b1D (by omega),a2y (v:=a0l part) (n:=5) (by omega) (by omega),hA,h31]
 simp
 rw[c4n (by omega) _ _ hw,hA]
 simp
theorem c8Z(hk:kB k=true)(hw:part.all a0b=true)(hl:part.length<1000000)(hok:OkR P (b2w k part++R)):
  b3A (rdr P (b2w k part++R),((part.length:Nat):Int))=some (k,part,(0:Int),rdr (P++b2w k part) R):=by
 have hwd:=a2B hw;have hz:∀A B:List Int,(rdr A B).2.2.1=0:=fun _ _=>rfl;simp only[kB,a24,bA,dT,beq_iff_eq]at hk;obtain⟨K,rfl⟩:=a00 (show 0≤k by omega);unfold b3A a0x;unfold b2w at hok⊢;split;rename_i h31;rw[if_pos h31,aA,aA]at hok;rw[aA,aA];obtain rfl:K=31:=by omega
 have h1:a0k (rdr P (pb 31 5++(pb ((a0l part:Nat):Int) 5++(sB (a0l part) part++R))),(5:Int))=_:=a4z (v:=31) (n:=5) (by omega) (by omega) hok;have hok2:=hok.shift;have h2:a0k (rdr (P++pb 31 5) (pb ((a0l part:Nat):Int) 5++(sB (a0l part) part++R)),(5:Int))=_:=a4z (v:=a0l part) (n:=5) (by omega) (by omega) hok2;have hlp:=b8o (k:=31) (n:=a0l part) (by omega) hl part [] _ R (b9k hw) (by simp) hok2.shift;simp only[a19,nZ,a06,a17]at hlp;have w1:wrap .i64 ((31:Nat):Int)=31:=by decide
 have w2:wrap .i64 ((a0l part:Nat):Int)=((a0l part:Nat):Int):=a0f (by omega);have d1:decide ((31:Int)≤25)=false:=by decide
 have d2:((31:Int) != 31)=false:=by decide
 rw[h1];simp only[oB,hz,bne_self_eq_false,cF,w1,d1]
 erw[h2]
 simp only[oB,w2]
 erw[hlp]
 simp only[oB,hz,bne_self_eq_false,cF,a2U (show short part from hl)]
 simp
 rename_i h31;rw[if_neg h31,aA]at hok;rw[aA];have hK:K≤25:=by omega
 have h1:a0k (rdr P (pb (K:Int) 5++(a4f ((K:Int).toNat) part++R)),(5:Int))=_:=a4z (v:=K) (n:=5) (by omega) (by omega) hok;have hr:=d0a hK hw hl hok.shift;have w1:wrap .i64 (K:Int)=(K:Int):=a0f (by omega);have d1:decide ((K:Int)≤25)=true:=by simp;omega
 rw[h1];simp only[oB,hz,bne_self_eq_false,cF,w1,d1,cT]
 erw[hr]
 simp
def a2h:List Nat→List Int→List Int→List Int
 |z::zs,k::ks,l=>b2w k (l.take z)++a2h zs ks (l.drop z)
 |_,_,_=>[]
theorem c6v(h:l.all a0b=true)(z:Nat):(l.take z).all a0b=true:=lA.2 fun x hx=>lA.1 h x (a40 hx)
theorem c6w(h:l.all a0b=true)(z:Nat):(l.drop z).all a0b=true:=lA.2 fun x hx=>lA.1 h x (a41 hx)
theorem c4o:∀(zs:List Nat)(ks l L:List Int),ks.all kB=true→l.all a0b=true→a4y zs ks l L=L++a2h zs ks l
 |z::zs,k::ks,l,L,hk,hw=>by
  simp only[a08,bA]at hk;simp only[a4y,a2h];rw[c4o zs ks _ _ hk.2 (c6w hw z),d3V hk.1 (c6v hw z)]
  simp
 | [],_,_,L,_,_=>by simp[a4y,a2h]
 |_::_,[],_,L,_,_=>by simp[a4y,a2h]
theorem d3W(dz:List Nat)(z:Nat)(zs:List Nat):(a1r (dz++z::zs)).getD dz.length 0=(z:Int):=by
 simp[a1r,lD]
theorem b8p{o:Int}{z0:Prt}:∀(zs:List Nat)(ks l dk acc P R:List Int)(dz:List Nat),ks.length=zs.length→ks.all kB=true→zs.sum=l.length→l.all a0b=true→
  dk.length=dz.length→(dz++zs).length≤256→acc.length+l.length≤10000→OkR P (a2h zs ks l++R)→
  a0h b0b (((a1r (dz++zs)).length:Int),(dz.length:Int),acc,a1r (dz++zs),rdr P (a2h zs ks l++R),z0,(o,dk,()),()) =
   some (Sum.inl (acc++l,z0,(o,dk++ks,()),rdr (P++a2h zs ks l) R,()))
 | [],ks,l,dk,acc,P,R,dz,hk,_,hs,_,_,_,_,_=>by
  obtain rfl:ks=[]:=a48.1 hk;obtain rfl:l=[]:=a48.1 (by simpa using hs.symm);have d:decide ((dz.length:Int)<((a1r (dz++[])).length:Int))=false:=by simp[a1L]
  rw[a0o (b:=Sum.inl (acc,z0,(o,dk,()),rdr P R,())) (by simp only[b0b,d,cF];simp[a2h])];simp[a2h]
 |z::zs,[],_,_,_,_,_,_,hk,_,_,_,_,_,_,_=>by simp at hk
 |z::zs,k::ks,l,dk,acc,P,R,dz,hk,hkb,hs,hw,hd,h256,hacc,hok=>by
  simp only[a08,bA]at hkb;rw[a52]at hs;have hz:z≤l.length:=by omega
  have htl:(l.take z).length=z:=by rw[a05];omega
  have e:a2h (z::zs) (k::ks) l++R=b2w k (l.take z)++(a2h zs ks (l.drop z)++R):=by simp[a2h]
  rw[e]at hok⊢;have hlen:(a1r (dz++z::zs)).length=dz.length+1+zs.length:=by rw[a1L];simp;omega
  have d:decide ((dz.length:Int)<((a1r (dz++z::zs)).length:Int))=true:=by simp only[dT];omega
  have d0:decide ((0:Int)≤(dz.length:Int))=true:=by simp
  have hone:=c8Z hkb.1 (c6v hw z) (by omega) hok;rw[htl]at hone;have hz0:((0:Int) != 0)=false:=rfl;rw[lN,lC]at h256;have hlm1:lim (a46 dk+1)=true:=a1u (by omega);have hlm2:lim (a46 acc+a46 (l.take z))=true:=a1u (by omega);have hw1:wrap .i64 ((dz.length:Int)+1)=(((dz++[z]).length:Nat):Int):=by rw[a0f (by omega)];simp
  have ea:dz++z::zs=(dz++[z])++zs:=by simp
  rw[a0q (s':=(((a1r ((dz++[z])++zs)).length:Int),(((dz++[z]).length:Nat):Int),acc++l.take z,a1r ((dz++[z])++zs),rdr (P++b2w k (l.take z)) (a2h zs ks (l.drop z)++R),z0,(o,dk++[k],()),())) (by
   simp only[b0b,d,d0,a02,cT,tN,d3W,hone,oB,hz0,cF,hlm1,hlm2,hw1,a16];rw[ea])]
  rw[b8p zs ks (l.drop z) (dk++[k]) (acc++l.take z) _ R (dz++[z]) (by simpa using hk) hkb.2 (by rw[a07];omega) (c6w hw z) (by simp[hd]) (by simp;omega) (by simp;omega) hok.shift];simp[a2h]
def a7z(p:Prt)(zn:List Nat)(l:List Int):List Int:=pb p.1 4++a2h zn p.2.1 l
theorem c7c(h:PartsOk p n warm l zn)(L:List Int):a5i p zn l L=L++a7z p zn l:=by
 obtain⟨o,ks,u⟩:=p;have ho:=h.order;simp only at ho;obtain⟨O,rfl⟩:=a00 ho.1;unfold a5i a7z;simp only;rw[a2V (by omega),a2y (n:=4) (by omega) (by omega),c4o _ _ _ _ h.all h.wide]
 simp
theorem c9a(h:PartsOk p n warm l zn)(hok:OkR P (a7z p zn l++R)):
  b3B (rdr P (a7z p zn l++R),n,warm)=some (p,l,(0:Int),rdr (P++a7z p zn l) R):=by
 obtain⟨o,ks,u⟩:=p;have ho:=h.order;have h5:=h.short;have hlen:=h.len;simp only at ho;obtain⟨O,rfl⟩:=a00 ho.1;have hz:∀A B:List Int,(rdr A B).2.2.1=0:=fun _ _=>rfl;have hmay:=h.may;unfold a6B at hmay;simp only[bA,a34,beq_eq_false_iff_ne]at hmay;have hs:=h.sizes;simp only at hs;have hne:(((a1r zn).length:Int)==0)=false:=by
  rw[beq_eq_false_iff_ne]
  have:=hmay.1
  rw[hs]at this;omega
 unfold a7z at hok⊢;simp only at hok⊢;rw[aA]at hok⊢;have h1:a0k (rdr P (pb (O:Int) 4++(a2h zn ks l++R)),(4:Int))=_:=a4z (v:=O) (n:=4) (by omega) (by omega) hok;have w1:wrap .i64 (O:Int)=(O:Int):=a0f (by omega);have hlp:=b8p (o:=(O:Int)) (z0:=((0:Int),([]:List Int),())) zn ks l [] [] _ R [] h.ks h.all h.sum h.wide rfl (by simpa using hlen) (by simp;omega) hok.shift;simp only[a19,nZ,a06,a17]at hlp;unfold b3B a0x;simp only[b6c,h.row,oB,bT,cF];rw[h1];simp only[oB,hz,bne_self_eq_false,cF,w1,a2E,hs,hne]
 erw[hlp]
 simp
def a8s(s:Sub):List Int:=
 pb ((s.2.2.2.2.2.1.length-1:Nat):Int) 5++(pb s.2.2.2.1 4++(pb ((a0l s.2.2.2.2.2.1:Nat):Int) 5++sB (a0l s.2.2.2.2.2.1) s.2.2.2.2.2.1))
theorem c6x{c:List Int}{t:Int}(h:b0o c t=true):1≤c.length∧c.length≤32∧0≤t∧t≤15∧c.all a0b=true:=by
 simp only[b0o,bA,dT]at h;obtain⟨h1,h2,h3,h4,h5⟩:=h;refine⟨h1,h2,h3,h4,lA.2 fun x hx=>?_⟩
 have:=lA.1 h5 x hx
 simp only[c1o,bA,dT]at this;rw[a2j];omega
theorem c4p(h:b0o s.2.2.2.2.2.1 s.2.2.2.1=true)(L:List Int):a7t s L=L++a8s s:=by
 obtain⟨h1,h2,h3,h4,h5⟩:=c6x h;have hwd:=a2B h5;unfold a7t a8s;generalize s.2.2.2.2.2.1=c at *;generalize s.2.2.2.1=t at *;obtain⟨T,rfl⟩:=a00 h3;have e1:wrap .u64 (wrap .i64 (((c.length:Nat):Int)-1))=((c.length-1:Nat):Int):=by rw[a0f (by omega),a0G (by omega)];omega
 have e2:wrap .u64 (T:Int)=(T:Int):=a0G (by omega);rw[e1,e2,b1D (by omega),a2y (v:=a0l c) (n:=5) (by omega) (by omega),a2y (v:=T) (n:=4) (by omega) (by omega),a2y (v:=c.length-1) (n:=5) (by omega) (by omega)]
 simp
def b7z(s:Sub)(c:List Int):Sub:=(s.1,s.2.1,s.2.2.1,s.2.2.2.1,s.2.2.2.2.1,c,s.2.2.2.2.2.2)
def c5w(s:Sub)(t:Int):Sub:=(s.1,s.2.1,s.2.2.1,t,s.2.2.2.2)
theorem c4q{n:Nat}(hn:n≤62){N:Nat}(hN:N<1000000)(s:Sub):∀(l done P R:List Int),(∀x∈l,b7y n x)→done.length+l.length=N→OkR P (sB n l++R)→
  a0h a6U ((n:Int),(N:Int),(done.length:Int),rdr P (sB n l++R),b7z s done,())=some ((n:Int),b7z s (done++l),rdr (P++sB n l) R,())
 | [],done,P,R,_,hl,_=>by
  have:done.length=N:=by simpa using hl
  subst this;have d:decide ((done.length:Int)<(done.length:Int))=false:=by simp
  rw[a0o (b:=((n:Int),b7z s done,rdr P R,())) (by simp only[a6U,d,cF];simp[sB])];simp[sB]
 |x::l,done,P,R,h,hl,hok=>by
  rw[lC]at hl;rw[c5v]at hok⊢;have d:decide ((done.length:Int)<(N:Int))=true:=by simp;omega
  have h1:=b1C hn (h x (by simp)) hok;have hlm:lim (a46 done+1)=true:=a1u (by omega);have hw:wrap .i64 ((done.length:Int)+1)=(((done++[x]).length:Nat):Int):=by rw[a0f (by omega)];simp
  rw[a0q (s':=((n:Int),(N:Int),(((done++[x]).length:Nat):Int),rdr (P++pb (a0H x n) n) (sB n l++R),b7z s (done++[x]),())) (by
   simp only[a6U,d,cT,h1,oB,b7z,hlm,hw,a16])]
  rw[c4q hn hN s l (done++[x]) _ R (fun y hy=>h y (by simp[hy])) (by simp;omega) hok.shift];simp[sB]
theorem c2l{s0:Sub}(h:b0o s.2.2.2.2.2.1 s.2.2.2.1=true)(h0:s0.2.2.2.2.2.1=[])(hok:OkR P (a8s s++R)):
  a9Z (rdr P (a8s s++R),s0)=some (true,rdr (P++a8s s) R,b7z (c5w s0 s.2.2.2.1) s.2.2.2.2.2.1):=by
 obtain⟨h1,h2,h3,h4,h5⟩:=c6x h;have hwd:=a2B h5;unfold a8s at hok⊢;generalize s.2.2.2.2.2.1=c at *;generalize s.2.2.2.1=t at *;obtain⟨T,rfl⟩:=a00 h3;simp only[aA]at hok⊢;have g1:a0k (rdr P (pb ((c.length-1:Nat):Int) 5++(pb (T:Int) 4++(pb ((a0l c:Nat):Int) 5++(sB (a0l c) c++R)))),(5:Int))=_:=a4z (v:=c.length-1) (n:=5) (by omega) (by omega) hok;have hok2:=hok.shift;have g2:a0k (rdr (P++pb ((c.length-1:Nat):Int) 5) (pb (T:Int) 4++(pb ((a0l c:Nat):Int) 5++(sB (a0l c) c++R))),(4:Int))=_:=a4z (v:=T) (n:=4) (by omega) (by omega) hok2;have hok3:=hok2.shift;have g3:a0k (rdr (P++pb ((c.length-1:Nat):Int) 5++pb (T:Int) 4) (pb ((a0l c:Nat):Int) 5++(sB (a0l c) c++R)),(5:Int))=_:=a4z (v:=a0l c) (n:=5) (by omega) (by omega) hok3;have hlp:=c4q (n:=a0l c) (by omega) (N:=c.length) (by omega) (c5w s0 (T:Int)) c [] _ R (b9k h5) (by simp) hok3.shift;simp only[a19,nZ,a06,a17]at hlp;have w1:wrap .i64 ((c.length-1:Nat):Int)=((c.length-1:Nat):Int):=a0f (by omega);have w2:wrap .i64 (((c.length-1:Nat):Int)+1)=(c.length:Int):=by rw[a0f (by omega)];omega
 have w3:wrap .i64 (T:Int)=(T:Int):=a0f (by omega);have w4:wrap .i64 ((a0l c:Nat):Int)=((a0l c:Nat):Int):=a0f (by omega);have hs0:((s0.1,s0.2.1,s0.2.2.1,(T:Int),s0.2.2.2.2):Sub)=b7z (c5w s0 (T:Int)) []:=by
  unfold b7z c5w;rw[←h0]
 unfold a9Z;rw[g1];simp only[oB];rw[g2];simp only[oB];rw[g3];simp only[oB,w1,w2,w3,w4]
 erw[hs0,hlp]
 simp only[oB];rw[show(b7z (c5w s0 (T:Int)) c).2.2.2.2.2.1=c from rfl,a2U (show short c by unfold short;omega)]
 simp
def a8O(st:List Stg):List Int:=st.flatMap fun g=>pb (g.1-1) 5++pb g.2.1 4
theorem c2m{g:Stg}(h:Ab.stageB g=true):1≤g.1∧g.1≤32∧0≤g.2.1∧g.2.1≤8:=by
 simp only[Ab.stageB,bA,dT]at h;exact⟨h.1,h.2.1,h.2.2.1,h.2.2.2⟩
theorem c2n:∀(st:List Stg)(L:List Int),st.all Ab.stageB=true→a3O st L=L++a8O st
 | [],L,_=>by simp[a3O,a8O]
 |g::st,L,h=>by
  simp only[a08,bA]at h;obtain⟨h1,h2,h3,h4⟩:=c2m h.1;show a3O st (a7s g L)=_;rw[c2n st _ h.2];obtain⟨a,b,u⟩:=g;simp only at h1 h2 h3 h4;obtain⟨B,rfl⟩:=a00 h3;obtain⟨A,hA⟩:=a00 (show 0≤a-1 by omega);unfold a7s;simp only;rw[hA,b6g (q:=A) (by omega),a2V (q:=A) (by omega),a2V (q:=B) (by omega),a2y (v:=A) (n:=5) (by omega) (by omega),a2y (v:=B) (n:=4) (by omega) (by omega)];simp[a8O,hA]
def a5Q(s:Sub):List Int:=
 if s.1=2 then pb s.2.2.1 3
 else if s.1=3 then a8s s
 else if s.1=4 then pb (s.2.2.2.2.1-1) 10++(sB 8 s.2.2.2.2.2.2.1++a8s s)
 else if s.1=5 then pb ((s.2.2.2.2.2.2.2.1.length:Nat):Int) 2++a8O s.2.2.2.2.2.2.2.1
 else[]
theorem c6y(h:a4K s.1 s n)(L:List Int):a3g s L=L++a5Q s:=by
 unfold a3g a5Q;rcases h with k|k|⟨k,h1,h2,-⟩|⟨k,h1,-⟩|⟨k,h1,-,h3⟩|⟨k,h1,h2⟩;simp[k];simp[k];rw[if_pos k,if_pos k];obtain⟨A,hA⟩:=a00 h1;rw[hA,a2V (by omega),a2y (n:=3) (by omega) (by omega)];rw[if_neg (by omega),if_pos k,if_neg (by omega),if_pos k,c4p h1];rw[if_neg (by omega),if_neg (by omega),if_pos k,if_neg (by omega),if_neg (by omega),if_pos k,c4p h1,b1D (by omega)];simp only[b3I,bA,dT]at h3;obtain⟨A,hA⟩:=a00 (show 0≤s.2.2.2.2.1-1 by omega);rw[hA,b6g (by omega),a2V (by omega),a2y (n:=10) (by omega) (by omega)]
 simp
 rw[if_neg (by omega),if_neg (by omega),if_neg (by omega),if_pos k,if_neg (by omega),if_neg (by omega),if_neg (by omega),if_pos k];simp only[b0C,bA,dT]at h2;rw[c2n _ _ h2.2,a2V (by omega),a2y (n:=2) (by omega) (by omega)]
 simp
def b6R(s:Sub):List Int:=pb s.1 3++(pb s.2.1 5++pb ((a0l s.2.2.2.2.2.2.2.2.1:Nat):Int) 5)
theorem d3X(hk:0≤s.1∧s.1≤5)(hw:0≤s.2.1∧s.2.1≤30)(ha:s.2.2.2.2.2.2.2.2.1.all a0b=true)(L:List Int):b3M s L=L++b6R s:=by
 obtain⟨K,hK⟩:=a00 hk.1;obtain⟨w,hw'⟩:=a00 hw.1
 have:=a2B ha
 unfold b3M b6R;rw[hK,hw',a2V (q:=K) (by omega),a2V (q:=w) (by omega),a2y (v:=a0l s.2.2.2.2.2.2.2.2.1) (n:=5) (by omega) (by omega),a2y (v:=w) (n:=5) (by omega) (by omega),a2y (v:=K) (n:=3) (by omega) (by omega)]
 simp
def a4M(s:Sub):Sub:=(s.1,s.2.1,s.2.2.1,s.2.2.2.1,s.2.2.2.2.1,s.2.2.2.2.2.1,s.2.2.2.2.2.2.1,s.2.2.2.2.2.2.2.1,[],(0,[],()),[],())
theorem c2o{wd N:Nat}{ok:Bool}(hN:N<1000)(k w:Int):∀(st done:List Stg)(P R:List Int),st.all Ab.stageB=true→done.length+st.length=N→OkR P (a8O st++R)→
  a0h a7I ((wd:Int),ok,(N:Int),(done.length:Int),rdr P (a8O st++R),(k,w,0,0,0,[],[0,0,0],done,[],(0,[],()),[],()),()) =
   some ((wd:Int),ok,(k,w,0,0,0,[],[0,0,0],done++st,[],(0,[],()),[],()),rdr (P++a8O st) R,())
 | [],done,P,R,_,hl,_=>by
  have:done.length=N:=by simpa using hl
  subst this;have d:decide ((done.length:Int)<(done.length:Int))=false:=by simp
  rw[a0o (b:=((wd:Int),ok,(k,w,0,0,0,[],[0,0,0],done,[],(0,[],()),[],()),rdr P R,())) (by simp only[a7I,d,cF];simp[a8O])];simp[a8O]
 |g::st,done,P,R,h,hl,hok=>by
  simp only[a08,bA]at h;rw[lC]at hl;obtain⟨h1,h2,h3,h4⟩:=c2m h.1;obtain⟨a,b,u⟩:=g;simp only at h1 h2 h3 h4;obtain⟨B,rfl⟩:=a00 h3;obtain⟨A,hA⟩:=a00 (show 0≤a-1 by omega);obtain rfl:a=(A:Int)+1:=by omega
  have e:a8O (((A:Int)+1,(B:Int),u)::st)++R=pb (A:Int) 5++(pb (B:Int) 4++(a8O st++R)):=by simp[a8O]
  rw[e]at hok⊢;have d:decide ((done.length:Int)<(N:Int))=true:=by simp;omega
  have g1:a0k (rdr P (pb (A:Int) 5++(pb (B:Int) 4++(a8O st++R))),(5:Int))=_:=a4z (v:=A) (n:=5) (by omega) (by omega) hok;have hok2:=hok.shift;have g2:a0k (rdr (P++pb (A:Int) 5) (pb (B:Int) 4++(a8O st++R)),(4:Int))=_:=a4z (v:=B) (n:=4) (by omega) (by omega) hok2;have hlm:lim (a46 done+1)=true:=a1u (by omega);have w1:wrap .i64 (A:Int)=(A:Int):=a0f (by omega);have w2:wrap .i64 (B:Int)=(B:Int):=a0f (by omega);have w3:wrap .i64 ((A:Int)+1)=(A:Int)+1:=a0f (by omega);have hw:wrap .u64 ((done.length:Int)+1)=(((done++[((A:Int)+1,(B:Int),u)]).length:Nat):Int):=by rw[a0G (by omega)];simp
  rw[a0q (s':=((wd:Int),ok,(N:Int),(((done++[((A:Int)+1,(B:Int),u)]).length:Nat):Int),rdr (P++pb (A:Int) 5++pb (B:Int) 4) (a8O st++R),(k,w,0,0,0,[],[0,0,0],done++[((A:Int)+1,(B:Int),u)],[],(0,[],()),[],()),())) (by
    simp only[a7I,d,cT,g1,oB,g2,hlm,w1,w2,w3,hw,a16])]
  rw[c2o hN k w st (done++[((A:Int)+1,(B:Int),u)]) _ R h.2 (by simp;omega) hok2.shift];simp[a8O]
theorem c5x(h:b7s x=true):b7y 8 x:=by
 simp only[b7s,bA,dT]at h;unfold b7y;omega
theorem d3Y{wd:Nat}{w:Int}{a b c:Int}(ha:b7s a=true)(hb:b7s b=true)(hc:b7s c=true)(hok:OkR P (sB 8 [a,b,c]++R)):
  a0h a4k ((wd:Int),(0:Int),rdr P (sB 8 [a,b,c]++R),(k,w,0,0,g,[],[0,0,0],[],[],(0,[],()),[],()),()) =
   some ((wd:Int),rdr (P++sB 8 [a,b,c]) R,(k,w,0,0,g,[],[a,b,c],[],[],(0,[],()),[],()),()):=by
 have e:sB 8 [a,b,c]++R=pb (a0H a 8) 8++(pb (a0H b 8) 8++(pb (a0H c 8) 8++R)):=by simp[sB]
 rw[e]at hok⊢;have g1:a1f (rdr P (pb (a0H a 8) 8++(pb (a0H b 8) 8++(pb (a0H c 8) 8++R))),(8:Int))=_:=b1C (n:=8) (by omega) (c5x ha) hok;have hok2:=hok.shift;have g2:a1f (rdr (P++pb (a0H a 8) 8) (pb (a0H b 8) 8++(pb (a0H c 8) 8++R)),(8:Int))=_:=b1C (n:=8) (by omega) (c5x hb) hok2;have hok3:=hok2.shift;have g3:a1f (rdr (P++pb (a0H a 8) 8++pb (a0H b 8) 8) (pb (a0H c 8) 8++R),(8:Int))=_:=b1C (n:=8) (by omega) (c5x hc) hok3;have w0:wrap .i64 ((0:Int)+1)=1:=by decide
 have w1:wrap .i64 ((1:Int)+1)=2:=by decide
 have w2:wrap .i64 ((2:Int)+1)=3:=by decide
 have d0:decide ((0:Int)<3)=true:=by decide
 have d0':decide ((0:Int)≤0)=true:=by decide
 have d1:decide ((1:Int)<3)=true:=by decide
 have d1':decide ((0:Int)≤1)=true:=by decide
 have d2:decide ((2:Int)<3)=true:=by decide
 have d2':decide ((0:Int)≤2)=true:=by decide
 have d3:decide ((3:Int)<3)=false:=by decide
 rw[a0q (s':=((wd:Int),(1:Int),rdr (P++pb (a0H a 8) 8) (pb (a0H b 8) 8++(pb (a0H c 8) 8++R)),(k,w,0,0,g,[],[a,0,0],[],[],(0,[],()),[],()),())) (by
  simp only[a4k,d0,d0',a02,cT,g1,oB,w0];rfl)]
 rw[a0q (s':=((wd:Int),(2:Int),rdr (P++pb (a0H a 8) 8++pb (a0H b 8) 8) (pb (a0H c 8) 8++R),(k,w,0,0,g,[],[a,b,0],[],[],(0,[],()),[],()),())) (by
  simp only[a4k,d1,d1',a02,cT,g2,oB,w1];rfl)]
 rw[a0q (s':=((wd:Int),(3:Int),rdr (P++pb (a0H a 8) 8++pb (a0H b 8) 8++pb (a0H c 8) 8) R,(k,w,0,0,g,[],[a,b,c],[],[],(0,[],()),[],()),())) (by
  simp only[a4k,d2,d2',a02,cT,g3,oB,w2];rfl)]
 rw[a0o (b:=((wd:Int),rdr (P++pb (a0H a 8) 8++pb (a0H b 8) 8++pb (a0H c 8) 8) R,(k,w,0,0,g,[],[a,b,c],[],[],(0,[],()),[],()),())) (by
  simp only[a4k,d3,cF])]
 simp[sB]
theorem d2z{s:Sub}{n:Int}(hs:a1I s n)(ht:s.2.2.2.2.2.2.1.length=3){P R:List Int}(hok:OkR P (b6R s++(a5Q s++R))):
  b0V (rdr P (b6R s++(a5Q s++R)))=some (a4M s,((a0l s.2.2.2.2.2.2.2.2.1:Nat):Int),true,rdr (P++(b6R s++a5Q s)) R):=by
 obtain⟨-,-,hf,ha,hw0,hw30,-,-,hww,-⟩:=hs;obtain⟨k,w,o,sh,g,c,t,st,wm,pr,re,u⟩:=s;have hk:=b9i hf;simp only at hk hw0 hw30 hww ht;have hwd:=a2B hww;obtain⟨K,rfl⟩:=a00 hk.1;obtain⟨W,rfl⟩:=a00 hw0;unfold b6R at hok⊢;simp only[aA]at hok⊢;have g1:a0k (rdr P (pb (K:Int) 3++(pb (W:Int) 5++(pb ((a0l wm:Nat):Int) 5++(a5Q ((K:Int),(W:Int),o,sh,g,c,t,st,wm,pr,re,u)++R)))),(3:Int))=_:=a4z (v:=K) (n:=3) (by omega) (by omega) hok;have hok2:=hok.shift;have g2:a0k (rdr (P++pb (K:Int) 3) (pb (W:Int) 5++(pb ((a0l wm:Nat):Int) 5++(a5Q ((K:Int),(W:Int),o,sh,g,c,t,st,wm,pr,re,u)++R))),(5:Int))=_:=a4z (v:=W) (n:=5) (by omega) (by omega) hok2;have hok3:=hok2.shift;have g3:a0k (rdr (P++pb (K:Int) 3++pb (W:Int) 5) (pb ((a0l wm:Nat):Int) 5++(a5Q ((K:Int),(W:Int),o,sh,g,c,t,st,wm,pr,re,u)++R)),(5:Int))=_:=a4z (v:=a0l wm) (n:=5) (by omega) (by omega) hok3;have hok4:=hok3.shift;have wK:wrap .i64 (K:Int)=(K:Int):=a0f (by omega);have wW:wrap .i64 (W:Int)=(W:Int):=a0f (by omega);have wd:wrap .i64 ((a0l wm:Nat):Int)=((a0l wm:Nat):Int):=a0f (by omega);unfold b0V;rw[g1];simp only[oB];rw[g2];simp only[oB];rw[g3];simp only[oB,wK,wW,wd];generalize hX:P++pb (K:Int) 3++pb (W:Int) 5++pb ((a0l wm:Nat):Int) 5=X at hok4⊢;have hX':∀B:List Int,P++(pb (K:Int) 3++(pb (W:Int) 5++(pb ((a0l wm:Nat):Int) 5++B)))=X++B:=fun B=>by rw[←hX];simp
 rw[hX'];obtain⟨a1,a2,a3,a4,a5,a6⟩:=ha;simp only at a1 a2 a3 a4 a5 a6;clear g1 g2 g3 hok hok2 hok3 hX hX';rcases hf with h|h|⟨h,h1,h2,-⟩|⟨h,h1,-⟩|⟨h,h1,-,h3⟩|⟨h,h1,h2⟩
 
 simp only at h;obtain rfl:=a1 (by omega);obtain rfl:=a2 (by omega);obtain rfl:=a3 (by omega);obtain rfl:=a4 (by omega);obtain rfl:=a5 (by omega);obtain rfl:=a6 (by omega);rw[h];have hb:a5Q ((0:Int),(W:Int),0,0,0,[],[0,0,0],[],wm,pr,re,u)=[]:=rfl;rw[hb,a06,a25];rfl;simp only at h;obtain rfl:=a1 (by omega);obtain rfl:=a2 (by omega);obtain rfl:=a3 (by omega);obtain rfl:=a4 (by omega);obtain rfl:=a5 (by omega);obtain rfl:=a6 (by omega);rw[h];have hb:a5Q ((1:Int),(W:Int),0,0,0,[],[0,0,0],[],wm,pr,re,u)=[]:=rfl;rw[hb,a06,a25];rfl;simp only at h h1 h2;obtain rfl:=a2 (by omega);obtain rfl:=a3 (by omega);obtain rfl:=a4 (by omega);obtain rfl:=a5 (by omega);obtain rfl:=a6 (by omega);rw[h]at hok4⊢;obtain⟨O,rfl⟩:=a00 h1;have hb:a5Q ((2:Int),(W:Int),(O:Int),0,0,[],[0,0,0],[],wm,pr,re,u)=pb (O:Int) 3:=rfl;rw[hb]at hok4⊢;have e:((2:Int)==2)=true:=rfl;have g4:a0k (rdr X (pb (O:Int) 3++R),(3:Int))=_:=a4z (v:=O) (n:=3) (by omega) (by omega) hok4;have wO:wrap .i64 (O:Int)=(O:Int):=a0f (by omega);simp only[e,cT,g4,oB,wO];rfl;simp only at h h1;obtain rfl:=a1 (by omega);obtain rfl:=a3 (by omega);obtain rfl:=a4 (by omega);obtain rfl:=a6 (by omega);rw[h]at hok4⊢;have hb:a5Q ((3:Int),(W:Int),0,sh,0,c,[0,0,0],[],wm,pr,re,u)=a8s ((3:Int),(W:Int),0,sh,0,c,[0,0,0],[],wm,pr,re,u):=rfl;rw[hb]at hok4⊢;have e2:((3:Int)==2)=false:=rfl;have e4:((3:Int)==4)=false:=rfl;have e3:((3:Int)==3)=true:=rfl;have g4:=c2l (s:=((3:Int),(W:Int),0,sh,0,c,[0,0,0],[],wm,pr,re,u)) (s0:=((3:Int),(W:Int),0,0,0,[],a01 3 0,[],[],(0,[],()),[],())) h1 rfl hok4;simp only[e2,e3,e4,cT,cF,oB]
 erw[g4]
 rfl
 ·simp only at h h1 h3;obtain rfl:=a1 (by omega);obtain rfl:=a6 (by omega);rw[h]at hok4⊢;simp only[b3I,bA,dT]at h3;obtain⟨h3,h5,h6⟩:=h3;obtain⟨A,hA⟩:=a00 (show 0≤g-1 by omega);obtain rfl:g=(A:Int)+1:=by omega
  obtain⟨x,y,z,rfl⟩:∃x y z,t=[x,y,z]:=by
   match t,ht with
   | [x,y,z],_=>exact⟨x,y,z,rfl⟩
  simp only[a08,List.all_nil,Bool.and_true,bA]at h6;have hb:a5Q ((4:Int),(W:Int),0,sh,(A:Int)+1,c,[x,y,z],[],wm,pr,re,u)=pb (A:Int) 10++(sB 8 [x,y,z]++a8s ((4:Int),(W:Int),0,sh,(A:Int)+1,c,[x,y,z],[],wm,pr,re,u)):=by
   show pb ((A:Int)+1-1) 10++_=_;rw[hA]
  rw[hb]at hok4⊢;simp only[aA]at hok4⊢;have e2:((4:Int)==2)=false:=rfl;have e4:((4:Int)==4)=true:=rfl;have g4:a0k (rdr X (pb (A:Int) 10++(sB 8 [x,y,z]++(a8s ((4:Int),(W:Int),0,sh,(A:Int)+1,c,[x,y,z],[],wm,pr,re,u)++R))),(10:Int))=_:=a4z (v:=A) (n:=10) (by omega) (by omega) hok4;have hok5:=hok4.shift;have wA:wrap .i64 (A:Int)=(A:Int):=a0f (by omega);have wA1:wrap .i64 ((A:Int)+1)=(A:Int)+1:=a0f (by omega);have g5:=d3Y (wd:=a0l wm) (k:=4) (w:=(W:Int)) (g:=(A:Int)+1) h6.1 h6.2.1 h6.2.2 hok5;have g6:=c2l (s:=((4:Int),(W:Int),0,sh,(A:Int)+1,c,[x,y,z],[],wm,pr,re,u)) (s0:=((4:Int),(W:Int),0,0,(A:Int)+1,[],[x,y,z],[],[],(0,[],()),[],())) h1 rfl hok5.shift;simp only[e2,e4,cT,cF,g4,oB,wA,wA1]
  erw[g5]
  simp only[oB]
  erw[g6]
  simp only[oB,a4M,b7z,c5w,aA]
 simp only at h h1 h2;obtain rfl:=a1 (by omega);obtain rfl:=a2 (by omega);obtain rfl:=a3 (by omega);obtain rfl:=a4 (by omega);obtain rfl:=a5 (by omega);rw[h]at hok4⊢;simp only[b0C,bA,dT]at h2;have hb:a5Q ((5:Int),(W:Int),0,0,0,[],[0,0,0],st,wm,pr,re,u)=pb ((st.length:Nat):Int) 2++a8O st:=rfl;rw[hb]at hok4⊢;simp only[aA]at hok4⊢;have e2:((5:Int)==2)=false:=rfl;have e4:((5:Int)==4)=false:=rfl;have e3:((5:Int)==3)=false:=rfl;have e5:((5:Int)==5)=true:=rfl;have g4:a0k (rdr X (pb ((st.length:Nat):Int) 2++(a8O st++R)),(2:Int))=_:=a4z (v:=st.length) (n:=2) (by omega) (by omega) hok4;have g5:=c2o (wd:=a0l wm) (ok:=true) (N:=st.length) (by omega) (5:Int) (W:Int) st [] _ R h2.2 (by simp) hok4.shift;simp only[a19,nZ,a06,a17]at g5;simp only[e2,e3,e4,e5,cT,cF,oB]
 erw[g4]
 simp only[oB]
 erw[g5]
 simp only[oB,a4M,aA]
def a9E(s:Sub)(zn:List Nat):List Int:=
 (b6R s++a5Q s)++(sB (a0l s.2.2.2.2.2.2.2.2.1) s.2.2.2.2.2.2.2.2.1++if s.1=0∨s.1=1 then[]else a7z s.2.2.2.2.2.2.2.2.2.1 zn s.2.2.2.2.2.2.2.2.2.2.1)
theorem c2p(hs:a1I s n)(hz:s.1≠0∧s.1≠1→PartsOk s.2.2.2.2.2.2.2.2.2.1 n ((s.2.2.2.2.2.2.2.2.1.length:Nat):Int) s.2.2.2.2.2.2.2.2.2.2.1 zn)(L:List Int):
  a6c s zn L=L++a9E s zn:=by
 obtain⟨-,-,hf,-,h5,h6,-,-,hw,-⟩:=hs;have hwd:=a2B hw;have hh:=d3X (b9i hf) ⟨h5,h6⟩ hw L;unfold a6c a9E
 by_cases hk:s.1=0∨s.1=1
 rw[if_pos hk,if_pos hk,b1D (by omega),c6y hf,hh]
 simp
 rw[if_neg hk,if_neg hk,c7c (hz (not_or.1 hk)),b1D (by omega),c6y hf,hh]
 simp
def a8P(s:Sub)(l:List Int):Sub:=(s.1,s.2.1,s.2.2.1,s.2.2.2.1,s.2.2.2.2.1,s.2.2.2.2.2.1,s.2.2.2.2.2.2.1,s.2.2.2.2.2.2.2.1,l,s.2.2.2.2.2.2.2.2.2)
theorem c6z{wd:Nat}(hn:wd≤62){N:Nat}(hN:N<1000000)(n:Int)(ok:Bool)(z s:Sub):∀(l done P R:List Int),(∀x∈l,b7y wd x)→done.length+l.length=N→OkR P (sB wd l++R)→
  a0h b2h (n,(wd:Int),ok,(N:Int),(done.length:Int),rdr P (sB wd l++R),z,a8P s done,())=some (n,(wd:Int),ok,rdr (P++sB wd l) R,z,a8P s (done++l),())
 | [],done,P,R,_,hl,_=>by
  have:done.length=N:=by simpa using hl
  subst this;have d:decide ((done.length:Int)<(done.length:Int))=false:=by simp
  rw[a0o (b:=(n,(wd:Int),ok,rdr P R,z,a8P s done,())) (by simp only[b2h,d,cF];simp[sB])];simp[sB]
 |x::l,done,P,R,h,hl,hok=>by
  rw[lC]at hl;rw[c5v]at hok⊢;have d:decide ((done.length:Int)<(N:Int))=true:=by simp;omega
  have h1:=b1C hn (h x (by simp)) hok;have hlm:lim (a46 done+1)=true:=a1u (by omega);have hw:wrap .i64 ((done.length:Int)+1)=(((done++[x]).length:Nat):Int):=by rw[a0f (by omega)];simp
  rw[a0q (s':=(n,(wd:Int),ok,(N:Int),(((done++[x]).length:Nat):Int),rdr (P++pb (a0H x wd) wd) (sB wd l++R),z,a8P s (done++[x]),())) (by
   simp only[b2h,d,cT,h1,oB,a8P,hlm,hw,a16])]
  rw[c6z hn hN n ok z s l (done++[x]) _ R (fun y hy=>h y (by simp[hy])) (by simp;omega) hok.shift];simp[sB]
theorem d2A(h:SmallS s):SmallS (a4M s) where
 coefs:=h.coefs
 taps:=h.taps
 stages:=h.stages
 warm:=by show([]:List Int).length≤5000;simp
 rest:=by show([]:List Int).length≤5000;simp
 ks:=by show([]:List Int).length≤_;simp
theorem d7g(h:SmallS s)(ho:(a2Q s n).isSome=true)(hz:s.1≠0∧s.1≠1→PartsOk s.2.2.2.2.2.2.2.2.2.1 n ((s.2.2.2.2.2.2.2.2.1.length:Nat):Int) s.2.2.2.2.2.2.2.2.2.2.1 zn)(hok:OkR P (a9E s zn++R)):b4h (rdr P (a9E s zn++R),n)=some (s,(0:Int),rdr (P++a9E s zn) R):=by
 have hs:=b7x ho;have hhead:=@d2z s n hs h.taps P;have hs':=hs;obtain⟨h1,h2,hf,-,-,-,-,hwl,hww,-,hno,-⟩:=hs';have hwd:=a2B hww;have hwlen:=h.warm;have d1:decide (n<1)=false:=by simp;omega
 have d2:decide (n > 4096)=false:=by simp;omega
 have hzr:∀A B:List Int,(rdr A B).2.2.1=0:=fun _ _=>rfl;have hfit:a9q ((a4M s).1,a4M s,n)=some true:=by
  rw[b8d (d2A h)];unfold b6e
  have:a4K (a4M s).1 (a4M s) n:=hf
  simp only[this,decide_true]
 have hwarm:a5y (a4M s,n)=some ((s.2.2.2.2.2.2.2.2.1.length:Nat):Int):=by
  rw[b1A]
  have:a2F (a4M s) n=a2F s n:=rfl
  rw[this,←hwl]
 have hmay:=c3U h n;rw[ho]at hmay;have hwidth:a1H s.2.2.2.2.2.2.2.2.1=some ((a0l s.2.2.2.2.2.2.2.2.1:Nat):Int):=a2U (by unfold short;omega);unfold b4h a0x;unfold a9E at hok⊢;simp only[aA]at hok⊢;have hok1:OkR (P++(b6R s++a5Q s)) (sB (a0l s.2.2.2.2.2.2.2.2.1) s.2.2.2.2.2.2.2.2.1++((if s.1=0∨s.1=1 then[]else a7z s.2.2.2.2.2.2.2.2.2.1 zn s.2.2.2.2.2.2.2.2.2.2.1)++R)):=OkR.shift (by rw[aA];exact hok)
 have hW:=fun(ok:Bool) (z:Sub)=>c6z (wd:=a0l s.2.2.2.2.2.2.2.2.1) (by omega) (N:=s.2.2.2.2.2.2.2.2.1.length) (by omega) n ok z (a4M s) s.2.2.2.2.2.2.2.2.1 [] _ _ (b9k hww) (by simp) hok1;simp only[a19,nZ,a06,a17]at hW;simp only[d1,d2,cF,hzr,bne_self_eq_false,oB];rw[hhead hok];simp only[hzr,bne_self_eq_false,cF,oB,hfit,bT,hwarm];rw[show((a4M s:Sub))=a8P (a4M s) []from rfl]
 erw[hW]
 simp only[oB,hzr,bne_self_eq_false,cF];rw[show(a8P (a4M s) s.2.2.2.2.2.2.2.2.1).1=s.1 from rfl,a7w];simp only[oB]
 by_cases hk:s.1=0∨s.1=1
 have hd:decide (s.1≠0∧s.1≠1)=false:=by simp only[decide_eq_false_iff_not];omega
 have hsub:a8P (a4M s) s.2.2.2.2.2.2.2.2.1=s:=by
  obtain⟨e1,e2,e3⟩:=hno hk;obtain⟨k,w,o,sh,g,c,t,st,wm,⟨p1,p2,u1⟩,re,u⟩:=s;simp only at e1 e2 e3;subst e1 e2 e3;rfl
 rw[hsub];simp only[hd,cF,bT,hwidth,oB,bne_self_eq_false,hmay,if_pos hk,a06,a25]
 simp
 have hd:decide (s.1≠0∧s.1≠1)=true:=by simp only[dT];omega
 have hp:=hz (not_or.1 hk);have hok2:=hok1.shift;rw[if_neg hk]at hok2;have hget:=c9a hp hok2;simp only[hd,cT,if_neg hk];rw[show(a8P (a4M s) s.2.2.2.2.2.2.2.2.1).2.2.2.2.2.2.2.2.1=s.2.2.2.2.2.2.2.2.1 from rfl]
 erw[hget]
 have hz0:((0:Int) != 0)=false:=rfl;simp only[oB,hz0,cF,bT,hwidth,bne_self_eq_false];have hsub:((a8P (a4M s) s.2.2.2.2.2.2.2.2.1).1,(a8P (a4M s) s.2.2.2.2.2.2.2.2.1).2.1,(a8P (a4M s) s.2.2.2.2.2.2.2.2.1).2.2.1,(a8P (a4M s) s.2.2.2.2.2.2.2.2.1).2.2.2.1,(a8P (a4M s) s.2.2.2.2.2.2.2.2.1).2.2.2.2.1,(a8P (a4M s) s.2.2.2.2.2.2.2.2.1).2.2.2.2.2.1,(a8P (a4M s) s.2.2.2.2.2.2.2.2.1).2.2.2.2.2.2.1,(a8P (a4M s) s.2.2.2.2.2.2.2.2.1).2.2.2.2.2.2.2.1,s.2.2.2.2.2.2.2.2.1,s.2.2.2.2.2.2.2.2.2.1,s.2.2.2.2.2.2.2.2.2.2.1,(a8P (a4M s) s.2.2.2.2.2.2.2.2.1).2.2.2.2.2.2.2.2.2.2.2)=s:=rfl
 erw[hsub]
 simp only[hmay,oB,bT,cF]
 simp
theorem d9C(y:Int):bits .u64 .and y 1=y%2:=by
 have h:((a04 64 y) &&& (a04 64 1)).toNat=(y%18446744073709551616).toNat%2:=by
  rw[a59,a31];have e:(a04 64 1).toNat=2^1-1:=by decide
  rw[e,a74];rfl
 show wrap .u64 ((((a04 64 y) &&& (a04 64 1)).toNat:Nat):Int)=_;rw[h,a0G (by omega)];omega
theorem a2G(v:Int):∀n,a1M (pb v n)
 |0=>fun b hb=>by cases hb
 |n+1=>fun b hb=>by
  rcases mC.1 hb with rfl|hb;unfold a7Q;rw[d9C,b2o];omega;exact a2G v n b hb
theorem d0A(n:Nat):a1M (unB n):=fun b hb=>by
 rcases mA.1 hb with hb|hb;exact .inl (b04.1 hb).2;exact .inr (by simpa using hb)
theorem b6S{f:α→List Int}{l:List α}(h:∀x,a1M (f x)):a1M (l.flatMap f):=fun b hb=>by
 obtain⟨x,-,hx⟩:=b26.1 hb;exact h x b hx
theorem d3Z(k:Nat)(x:Int):a1M (b1c k x):=by
 unfold b1c;split;exact(d0A _).app (a2G _ _);exact(d0A _).app (a2G _ _)
theorem c1r(n:Nat)(l:List Int):a1M (sB n l):=b6S fun _=>a2G _ _
theorem d4a(k:Int)(l:List Int):a1M (b2w k l):=by
 unfold b2w;split;exact(a2G _ _).app ((a2G _ _).app (c1r _ _));exact(a2G _ _).app (b6S fun _=>d3Z _ _)
theorem b9l:a1M []:=fun b hb=>by cases hb
theorem c4r:∀(zs:List Nat)(ks l:List Int),a1M (a2h zs ks l)
 |z::zs,k::ks,l=>by
  simp only[a2h];exact(d4a _ _).app (c4r zs ks _)
 | [],_,_=>by simp only[a2h];exact b9l
 |_::_,[],_=>by simp only[a2h];exact b9l
theorem c4s(s:Sub):a1M (a8s s):=(a2G _ _).app ((a2G _ _).app ((a2G _ _).app (c1r _ _)))
theorem d4b(s:Sub):a1M (a5Q s):=by
 unfold a5Q;split;exact a2G _ _;split;exact c4s s;split;exact(a2G _ _).app ((c1r _ _).app (c4s s));split;exact(a2G _ _).app (b6S fun _=>(a2G _ _).app (a2G _ _));exact b9l
theorem d5v(s:Sub)(zn:List Nat):a1M (a9E s zn):=by
 refine(((a2G _ _).app ((a2G _ _).app (a2G _ _))).app (d4b s)).app ((c1r _ _).app ?_);split;exact b9l;exact(a2G _ _).app (c4r _ _ _)
theorem d5w(h:SmallS s)(ho:(a2Q s n).isSome=true)(hL:L.length<50000000):
  ∃zn,b1y (wL L,s,n)=some (0,wL (L++a9E s zn))∧a4Z (s,n)=some (((a9E s zn).length:Nat):Int)∧(a9E s zn).length≤700000∧
   (s.1≠0∧s.1≠1→PartsOk s.2.2.2.2.2.2.2.2.2.1 n ((s.2.2.2.2.2.2.2.2.1.length:Nat):Int) s.2.2.2.2.2.2.2.2.2.2.1 zn):=by
 obtain⟨e,L',h1,-,h3,h4,-⟩:=b8U h (n:=n) (L:=L) (by omega);obtain⟨rfl,zn,rfl,hz⟩:=h4 ho;have hs:=b7x ho;rw[c2p hs hz]at h1 h3;refine⟨zn,h1,?_,by simp at h3;omega,hz⟩;rw[d0w h];unfold a5b;rw[if_pos ho,←c5q hz,c2p hs hz]
 simp
theorem d8b(hL:L.length<1000000000):b4U (wL L).1=some (rdr [] L):=by
 obtain⟨-,h⟩:=a6K L;unfold b4U;rw[a1u (by omega)];rfl
theorem d5x(hL:L.length<1000000000):a5M (wL L)=some ((wL L).1,wL L):=by
 obtain⟨-,h⟩:=a6K L;unfold a5M;rw[a1u (by omega)];rfl
def a0E(n:Nat):List Int:=if h:n<128 then[(n:Int)]else((n%128+128:Nat):Int)::a0E (n / 128)
termination_by n
decreasing_by omega
theorem b8q{n:Nat}(h:n<128):a0E n=[(n:Int)]:=by rw[a0E,dif_pos h]
theorem b8r{n:Nat}(h:¬ n<128):a0E n=((n%128+128:Nat):Int)::a0E (n / 128):=by rw[a0E,dif_neg h]
theorem c2S:∀(k n:Nat),n<128^(k+1)→1≤(a0E n).length∧(a0E n).length≤k+1
 |0,n,h=>by rw[b8q (by omega)];simp
 |k+1,n,h=>by
  by_cases hn:n<128
  rw[b8q hn];simp;rw[b8r hn]
  have:=c2S k (n / 128) (by rw[a73 (by omega)];rw[a58]at h;exact h)
  simp only[lC];omega
theorem d0B:∀(k n:Nat)(a:List Int)(b c:Int)(out:List Int),n<128^(k+1)→k≤8→out.length+k<1000000→
  ∃r pre,a0h a9V ((n:Int),a,b,c,out,())=some (((r:Nat):Int),a,b,c,out++pre,())∧a0E n=pre++[(r:Int)]∧r<128
 |k,n,a,b,c,out,h,hk,ho=>by
  by_cases hn:n<128
  refine⟨n,[],?_,by rw[b8q hn];rfl,hn⟩;rw[a0o (b:=((n:Int),a,b,c,out,())) (by
   have d:decide ((n:Int)≥128)=false:=by simp;omega
   simp only[a9V,d,cF])]
  simp
  ·cases k with
   |zero=>omega
   |succ k=>
    have hd:n / 128<128^(k+1):=by rw[a73 (by omega)];rw[a58]at h;exact h
    have hn64:n<18446744073709551616:=by
     have:128^(k+1+1)≤128^9:=a20 (by omega) (by omega)
     have e:(128:Nat)^9=9223372036854775808:=by decide
     omega
    obtain⟨r,pre,h1,h2,h3⟩:=d0B k (n / 128) a b c (out++[((n%128+128:Nat):Int)]) hd (by omega) (by simp;omega);refine⟨r,((n%128+128:Nat):Int)::pre,?_,by rw[b8r hn,h2];rfl,h3⟩;have d:decide ((n:Int)≥128)=true:=by simp;omega
    have e1:wrap .u64 (a68 (n:Int) 128)=((n / 128:Nat):Int):=by
     rw[show a68 (n:Int) 128=((n / 128:Nat):Int)from rfl];exact a0G (by omega)
    have e2:wrap .u8 (wrap .u8 (a43 (n:Int) 128)+128)=((n%128+128:Nat):Int):=by
     rw[show a43 (n:Int) 128=((n%128:Nat):Int)from rfl,b2o,b2o];omega
    rw[a0q (s':=(((n / 128:Nat):Int),a,b,c,out++[((n%128+128:Nat):Int)],())) (by
     simp only[a9V,d,cT,a1u (show out.length+1<2147483648 by omega),e1,e2,a16])]
    rw[h1]
    simp
theorem b6n{α β γ:Type}(f:α→List γ):∀(l:List α)(a:List γ),a3H (β:=β) (fun a x=>.inl (a++f x)) l a=.inl (a++l.flatMap f)
 | [],a=>by simp[a3H]
 |x::l,a=>by simp only[a3H];rw[b6n f l];simp
def asI(ns:List Nat):List Int:=ns.map fun n:Nat=>(n:Int)
theorem c9b{ns:List Nat}(h:∀n∈ns,n<9223372036854775808)(hl:ns.length≤1000):b3v (asI ns)=some (ns.flatMap a0E):=by
 have hlen:(asI ns).length=ns.length:=by simp[asI]
 have:=a2x (f:=a9W) (asI ns) (fun i (a:List Int)=>(asI ns,((asI ns).length:Int),(i:Int),a,())) (fun a x=>.inl (a++a0E x.toNat)) (fun i a=>a.length≤10*i) (fun a=>(a,()))
  (fun i hi a ha=>⟨fun a' ha'=>by
   have hi':i<ns.length:=by omega
   have hx:(asI ns)[i]=((ns[i]:Nat):Int):=by simp[asI]
   have hb:=h ns[i] (a09 hi');have hb9:ns[i]<128^(8+1):=by rw[show(128:Nat)^(8+1)=9223372036854775808 from by decide];exact hb
   obtain⟨r,pre,h1,h2,h3⟩:=d0B 8 ns[i] (asI ns) ((asI ns).length:Int) (i:Int) a hb9 (a42 _) (by omega);have hv:=c2S 8 ns[i] hb9;rw[h2]at hv;simp only[lN,lC,a19]at hv;simp only[hx,tN,h2,Sum.inl.injEq]at ha';subst ha';have e:wrap .u8 (r:Int)=(r:Int):=by rw[b2o];omega
   refine⟨?_,by simp;omega⟩;simp only[a9W,dlt hi,cT,a0c hi,hx,oB,h1,a1u (show(a++pre).length+1<2147483648 by simp;omega),a0d (show i<1000000 by omega),e,a16,aA],fun b hb=>by cases hb⟩)
  (fun a ha=>by simp only[a9W,dge,cF]) (a:=[]) (by simp)
 unfold b3v;simp only[nZ]at this;rw[this,b6n];simp[b0n,asI,List.flatMap_map]
theorem orA{k:Nat}(ha:a<2^k)(hs:b*2^k+a<18446744073709551616):bits .u64 .or (a:Int) ((b*2^k:Nat):Int)=((a+b*2^k:Nat):Int):=by
 show wrap .u64 (((a04 64 (a:Int) ||| a04 64 ((b*2^k:Nat):Int)).toNat:Nat):Int)=_;have h1:(a04 64 (a:Int)).toNat=a:=by rw[a31];omega
 have h2':(a04 64 ((b*2^k:Nat):Int)).toNat=b*2^k:=by rw[a31];omega
 rw[a63,h1,h2'];have e:a ||| b*2^k=a+b*2^k:=by
  have:=a56 (i:=k) (b:=a) ha b
  rw[Nat.or_comm,a79 b,←this,Nat.add_comm]
 rw[e];exact a0G (by omega)
theorem c2q{rest:List Int}:∀(j m i acc:Nat)(P:List Int),m<128^(j+1)→P.length=i→(i=0∨1≤m)→acc<2^(7*i)→m*2^(7*i)+acc<9223372036854775808→(P++(a0E m++rest)).length<1000000→
  a0h a6T ((acc:Int),P++(a0E m++rest),((P++(a0E m++rest)).length:Nat),(i:Int),())=some (.inr (((acc+m*2^(7*i):Nat):Int),((i+(a0E m).length:Nat):Int),(0:Int),()))
 |j,m,i,acc,P,hj,hP,hm,ha,hs,hl=>by
  have hi8:i≤8:=by
   rcases hm with h0|h1;omega;apply Classical.byContradiction;intro hi;have h2:2^(7*9)≤2^(7*i):=a20 (by omega) (by omega);have h3:2^(7*i)≤m*2^(7*i):=Nat.le_mul_of_pos_left _ (by omega);have e:(2:Nat)^(7*9)=9223372036854775808:=by decide
   omega
  have hw7:wrap .i64 ((7:Int)*(i:Int))=((7*i:Nat):Int):=by rw[a0f (by omega)];omega
  have hwn:decide ((((7*i:Nat):Int))<0)=false:=by simp;omega
  have hwi:wrap .i64 ((i:Int)+1)=((i+1:Nat):Int):=a0d (by omega);have d9:∀c:Nat,c<256→(i=9→False):=fun _ _ h=>by omega
  have h9:((i:Int)==9)=false:=by simp;omega
  have step:∀(c:Nat)(tl:List Int),c<256→a0E m=(c:Int)::tl→(i=0∨c≠0)→
    a6T ((acc:Int),P++(a0E m++rest),((P++(a0E m++rest)).length:Nat),(i:Int),()) =
     bif decide ((c:Int)<128)then some (.inr (Sum.inr (bits .u64 .or (acc:Int) (a0z .u64 (wrap .u64 (a43 (c:Int) 128)) ((7*i:Nat):Int)),((i+1:Nat):Int),(0:Int),())))
     else some (.inl (bits .u64 .or (acc:Int) (a0z .u64 (wrap .u64 (a43 (c:Int) 128)) ((7*i:Nat):Int)),P++(a0E m++rest),((P++(a0E m++rest)).length:Nat),((i+1:Nat):Int),())):=fun c tl hc hv h0=>by
   have hlt:i<(P++(a0E m++rest)).length:=by rw[hv];simp;omega
   have hg:a0p (P++(a0E m++rest)) (i:Int)=some (c:Int):=by
    rw[a0c hlt];congr 1;subst hP;simp[hv]
   have hz:(decide ((i:Int) > 0)=true→((c:Int)==0)=false):=fun h=>by
    simp only[dT]at h;simp only[beq_eq_false_iff_ne,ne_eq];omega
   simp only[a6T,dlt hlt,cT,hg,oB,h9,cF];cases hd:decide ((i:Int) > 0)with
   |true=>simp only[cT,oB,hz hd,cF,hw7,hwn,hwi]
   |false=>simp only[oB,cF,hw7,hwn,hwi]
  have val:∀c:Nat,c%128*2^(7*i)+acc<9223372036854775808→bits .u64 .or (acc:Int) (a0z .u64 (wrap .u64 (a43 (c:Int) 128)) ((7*i:Nat):Int))=((acc+c%128*2^(7*i):Nat):Int):=fun c hc=>by
   rw[show a43 (c:Int) 128=((c%128:Nat):Int)from rfl,a0G (by omega),b4n (by omega) (by omega)];exact orA ha (by omega)
  by_cases hm128:m<128
  rw[a0o (step m [] (by omega) (b8q hm128) (by omega) |>.trans (by
   have d:decide ((m:Int)<128)=true:=by simp;omega
   simp only[d,cT];rfl))]
  rw[val m (by rw[a28 hm128];exact hs),a28 hm128,b8q hm128];rfl
  ·cases j with
   |zero=>omega
   |succ j=>
    have hd:m / 128<128^(j+1):=by rw[a73 (by omega)];rw[a58]at hj;exact hj
    have hp7:2^(7*(i+1))=128*2^(7*i):=by rw[show 7*(i+1)=7+7*i from by omega,Nat.pow_add]
    have hmm:m*2^(7*i)=m%128*2^(7*i)+m / 128*2^(7*(i+1)):=by
     rw[hp7,←a99,←Nat.add_mul];congr 1;omega
    have hb:m%128*2^(7*i)≤127*2^(7*i):=a39 _ (by omega);rw[a0q (step (m%128+128) (a0E (m / 128)) (by omega) (b8r hm128) (by omega) |>.trans (by
     have d:decide (((m%128+128:Nat):Int)<128)=false:=by simp;omega
     simp only[d,cF];rfl))]
    rw[val (m%128+128) (by rw[b17,Nat.mod_mod];omega),b17,Nat.mod_mod];have e:P++(a0E m++rest)=(P++[((m%128+128:Nat):Int)])++(a0E (m / 128)++rest):=by rw[b8r hm128];simp
    rw[e]at hl⊢;have ih:=c2q j (m / 128) (i+1) (acc+m%128*2^(7*i)) (P++[((m%128+128:Nat):Int)]) hd (by simp[hP]) (.inr (by omega)) (by rw[hp7];omega) (by omega) hl;rw[ih,hmm,b8r hm128];congr 3;omega
    simp;omega
theorem d4c{n:Nat}(h:n<9223372036854775808){rest:List Int}(hl:(a0E n++rest).length<1000000):a9Y (a0E n++rest)=some ((n:Int),(((a0E n).length:Nat):Int),(0:Int)):=by
 have:=c2q (rest:=rest) 8 n 0 0 [] (by rw[show(128:Nat)^(8+1)=9223372036854775808 from by decide];exact h) rfl (.inl rfl) (by simp) (by simpa using h) hl
 simp only[a06,nZ,Nat.mul_zero,Nat.pow_zero,b23,Nat.zero_add,a17]at this;unfold a9Y;rw[this];rfl
def ord(P R:List Int):List Int×(Int×Int×Unit):=(P++R,(P.length:Int),(0:Int),())
theorem b0E{n:Nat}(hn:n<9223372036854775808){most:Int}(hm:(n:Int)≤most)(hl:(P++(a0E n++R)).length<1000000):
  a0Y (ord P (a0E n++R),most)=some ((n:Int),ord (P++a0E n) R):=by
 have hd:b32 (a35 (P.length:Int)) (b18 (P++(a0E n++R)).length (P++(a0E n++R)))=a0E n++R:=by
  rw[a29,tN,List.drop_left]
 have h0:((0:Int) != 0)=false:=rfl;have d1:decide ((0:Int)≤(P.length:Int))=true:=by simp
 have d2:decide ((P.length:Int)≤((P++(a0E n++R)).length:Int))=true:=by simp;omega
 have d3:decide ((n:Int) > most)=false:=by simp;omega
 have hlv:(a0E n++R).length<1000000:=by rw[lN]at hl;omega
 have hw:wrap .i64 ((P.length:Int)+((a0E n).length:Int))=(((P++a0E n).length:Nat):Int):=by
  rw[a0f (by simp only[lN]at hl;omega)];simp
 unfold a0Y ord;simp only[h0,cF,d1,d2,a02,cT];rw[hd,d4c hn hlv];simp only[oB,beq_self_eq_true,cT,d3,cF,h0,hw,aA]
def b0r(g:Int):Nat:=if 0≤g then(2*g).toNat else(-2*g-1).toNat
theorem d8c(h:-100000≤g∧g≤100000):b3u g=some ((b0r g:Nat):Int):=by
 unfold b3u b0r
 by_cases hg:0≤g
 have d:decide (g≥0)=true:=by simpa using hg
 rw[d,cT,if_pos hg,a0G (n:=g) (by omega),a0G (by omega),a26 (by omega)];have d:decide (g≥0)=false:=by simp;omega
 rw[d,cF,if_neg hg,a0f (n:=g+1) (by omega),a0f (by omega),a0G (n:=0-(g+1)) (by omega),a0G (n:=2*(0-(g+1))) (by omega),a0G (by omega),a26 (by omega)];congr 1;omega
theorem c5y(h:-(m:Int)≤g∧g≤(m:Int)):b0r g≤2*m:=by
 unfold b0r
 split<;>omega
theorem d8d(h:-100000≤g∧g≤100000):b3z ((b0r g:Nat):Int)=some g:=by
 unfold b3z;have e1:a43 ((b0r g:Nat):Int) 2=((b0r g%2:Nat):Int):=rfl;have e2:a68 ((b0r g:Nat):Int) 2=((b0r g / 2:Nat):Int):=rfl;rw[e1,e2];unfold b0r
 by_cases hg:0≤g
 rw[if_pos hg];have d:((((2*g).toNat%2:Nat):Int)==0)=true:=by simp;omega
 rw[d,cT,a0G (by omega),a0f (by omega)];congr 1;omega;rw[if_neg hg];have d:((((-2*g-1).toNat%2:Nat):Int)==0)=false:=by simp;omega
 rw[d,cF,a0G (by omega),a0f (n:=(((-2*g-1).toNat / 2:Nat):Int)) (by omega),a0f (n:=0-(((-2*g-1).toNat / 2:Nat):Int)) (by omega),a0f (by omega)];congr 1;omega
def e8(s:Int):Int:=bif (a0C .u8 s 7)==(1:Int)then bits .u8 .xor (a0z .u8 s 1) 7 else a0z .u8 s 1
def e16(s:Int):Int:=bif (a0C .u16 s 15)==(1:Int)then bits .u16 .xor (a0z .u16 s 1) 32773 else a0z .u16 s 1
def rep{α:Type}(f:α→α):Nat→α→α
 |0,s=>s
 |n+1,s=>rep f n (f s)
def g8(s c:Int):Int:=rep e8 8 (bits .u8 .xor s c)
def g16(s c:Int):Int:=rep e16 8 (bits .u16 .xor s (a0z .u16 (wrap .u16 c) 8))
theorem c4t(l:List Int)(n i:Int):∀(j k:Nat)(s:Int),k+j=8→a0h b2f (s,l,n,i,(k:Int),())=some (rep e8 j s,l,n,i,())
 |0,k,s,h=>by
  obtain rfl:k=8:=by omega
  exact a0o rfl
 |j+1,k,s,h=>by
  have d:decide ((k:Int)<8)=true:=by simp;omega
  rw[a0q (s':=(e8 s,l,n,i,((k+1:Nat):Int),())) (by
   simp only[b2f,d,cT,a0d (show k<1000000 by omega),e8];cases (a0C .u8 s 7==1:Bool)<;>rfl)]
  exact c4t l n i j (k+1) (e8 s) (by omega)
theorem c1a(l:List Int)(n i:Int):∀(j k:Nat)(s:Int),k+j=8→a0h b0k (s,l,n,i,(k:Int),())=some (rep e16 j s,l,n,i,())
 |0,k,s,h=>by
  obtain rfl:k=8:=by omega
  exact a0o rfl
 |j+1,k,s,h=>by
  have d:decide ((k:Int)<8)=true:=by simp;omega
  rw[a0q (s':=(e16 s,l,n,i,((k+1:Nat):Int),())) (by
   simp only[b0k,d,cT,a0d (show k<1000000 by omega),e16];cases (a0C .u16 s 15==1:Bool)<;>rfl)]
  exact c1a l n i j (k+1) (e16 s) (by omega)
def b9m(l:List Int):Int:=l.foldl g8 0
def a3I(l:List Int):Int:=l.foldl g16 0
theorem c9c(h:short l):a9t l=some (b9m l):=by
 have:=a2x (f:=a8V) (β:=Int×Unit) l (fun i (a:Int)=>(a,l,(l.length:Int),(i:Int),())) (fun a x=>.inl (g8 a x)) (fun _ _=>True) (fun a=>(a,()))
  (fun i hi a _=>⟨fun a' ha'=>by
   simp only[Sum.inl.injEq]at ha';subst ha'
   have:=c4t l (l.length:Int) (i:Int) 8 0 (bits .u8 .xor a l[i]) rfl
   simp only[nZ]at this;refine⟨?_,trivial⟩;simp only[a8V,dlt hi,cT,a0c hi,oB,this,a0d (a57 hi h),g8],fun b hb=>by cases hb⟩)
  (fun a ha=>by simp only[a8V,dge,cF]) (a:=0) trivial
 unfold a9t;simp only[nZ]at this;rw[this,b9g];rfl
theorem c4u(h:short l):a7f l=some (a3I l):=by
 have:=a2x (f:=a6S) (β:=Int×Unit) l (fun i (a:Int)=>(a,l,(l.length:Int),(i:Int),())) (fun a x=>.inl (g16 a x)) (fun _ _=>True) (fun a=>(a,()))
  (fun i hi a _=>⟨fun a' ha'=>by
   simp only[Sum.inl.injEq]at ha';subst ha'
   have:=c1a l (l.length:Int) (i:Int) 8 0 (bits .u16 .xor a (a0z .u16 (wrap .u16 l[i]) 8)) rfl
   simp only[nZ]at this;refine⟨?_,trivial⟩;simp only[a6S,dlt hi,cT,a0c hi,oB,this,a0d (a57 hi h),g16],fun b hb=>by cases hb⟩)
  (fun a ha=>by simp only[a6S,dge,cF]) (a:=0) trivial
 unfold a7f;simp only[nZ]at this;rw[this,b9g];rfl
theorem b5o(n:Int):wrap .u16 n=n%65536:=by simp[wrap,IntKind.bits,IntKind.signed]
theorem d4d(s:Int):0≤e16 s∧e16 s<65536:=by
 unfold e16;cases (a0C .u16 s 15==1:Bool);simp only[cF,a0z,b5o];omega;simp only[cT,bits,b5o];omega
theorem c2r(l:List Int):0≤a3I l∧a3I l<65536:=by
 unfold a3I;rcases a93 l with rfl|⟨L,b,rfl⟩
 simp
 rw[a94,List.foldl_append];exact d4d _
theorem e2H{v:Int}(h:0≤v∧v<65536):b3w (v,2)=some [v / 256,v%256]:=by
 have e1:wrap .u64 (a68 v 256)=v / 256:=by rw[a60 h.1];exact a0G (by omega)
 have e2:wrap .u8 (a43 v 256)=v%256:=by rw[a44 h.1,b2o];omega
 have e3:wrap .u8 (a43 (v / 256) 256)=v / 256:=by rw[a44 (by omega),b2o];omega
 have s0:a5C (v,(2:Int),(0:Int),([]:List Int),())=some (.inl (v / 256,(2:Int),(1:Int),[v%256],())):=by
  simp only[a5C,show decide ((0:Int)<2)=true from rfl,cT,a1u (show([]:List Int).length+1<2147483648 by simp),e1,e2];rfl
 have s1:a5C (v / 256,(2:Int),(1:Int),[v%256],())=some (.inl (wrap .u64 (a68 (v / 256) 256),(2:Int),(2:Int),[v%256,v / 256],())):=by
  simp only[a5C,show decide ((1:Int)<2)=true from rfl,cT,a1u (show([v%256]:List Int).length+1<2147483648 by simp),e3];rfl
 have hs:b0T (v,2)=some [v%256,v / 256]:=by
  unfold b0T b4C;simp only[oB];rw[show a3s (a2q (2:Int) 0) 8=2 from rfl,a0q s0,a0q s1,a0o (b:=([v%256,v / 256],())) rfl];rfl
 unfold b3w a3S;simp only[hs,oB];rfl
@[reducible] def a0W:Type:=Int×(Int×(Int×Unit))
@[reducible] def a1D:Type:=Int×(Int×(a0W×(List a0W×(List Sub×Unit))))
variable {f:a1D}
@[reducible] def a2b:Type:=Int×(List (List Int)×Unit)
def a2t(n:Int)(s:a0W):Bool:=!(decide (s.1<0) || decide (s.1≥n) || decide (s.2.1<0) || decide (s.2.1≥n) || s.1==s.2.1)&&!(decide (s.2.2.1 < -1024) || decide (s.2.2.1 > 1024))
theorem a3R{s:a0W}:a2t n s=true↔0≤s.1∧s.1<n∧0≤s.2.1∧s.2.1<n∧s.1≠s.2.1∧-1024≤s.2.2.1∧s.2.2.1≤1024:=by
 simp only[a2t,bA,a34,a97,decide_eq_false_iff_not,beq_eq_false_iff_ne];omega
def a5S(l:List a0W)(n:Int):Prop:=1≤n∧n≤8∧l.length≤16∧l.all (a2t n)=true
instance (l:List a0W) (n:Int):Decidable (a5S l n):=by unfold a5S;infer_instance
theorem b7A(l:List a0W)(n:Int):a9O (l,n)=some (decide (a5S l n)):=by
 unfold a9O a5S
 by_cases h1:n<1
 have:¬ 1≤n:=by omega
 simp[h1,this]
 by_cases h2:n > 8
 have:¬ n≤8:=by omega
 simp[h1,h2,this]
 by_cases h3:((l.length:Nat):Int) > 16
 have:¬ l.length≤16:=by omega
 simp[h1,h2,h3,this];have hall:=a1v (f:=a8c) (β:=Unit ⊕ (Bool×Unit)) l (fun i=>(n,l,(l.length:Int),(i:Int),())) (a2t n) (bt:=Sum.inl ()) (bf:=Sum.inr (false,()))
  (fun i h hp=>by
   obtain⟨a1,a2,a3,a4,a5,a6,a7⟩:=a3R.1 hp;have e1:decide (l[i].1<0)=false:=by simp;omega
   have e2:decide (l[i].1≥n)=false:=by simp;omega
   have e3:decide (l[i].2.1<0)=false:=by simp;omega
   have e4:decide (l[i].2.1≥n)=false:=by simp;omega
   have e5:(l[i].1==l[i].2.1)=false:=by simpa using a5
   have e6:decide (l[i].2.2.1 < -1024)=false:=by simp;omega
   have e7:decide (l[i].2.2.1 > 1024)=false:=by simp;omega
   simp only[a8c,dlt h,cT,a0c h,oB,e1,e2,e3,e4,e5,e6,e7,cF,a0d (show i<1000000 by omega)])
  (fun i h hp=>by
   simp only[a8c,dlt h,cT,a0c h,oB];unfold a2t at hp;generalize decide (l[i].1<0)=b1 at *;generalize decide (l[i].1≥n)=b2 at *;generalize decide (l[i].2.1<0)=b3 at *;generalize decide (l[i].2.1≥n)=b4 at *;generalize (l[i].1==l[i].2.1)=b5 at *;cases b1<;>cases b2<;>cases b3<;>cases b4<;>cases b5<;>simp at hp⊢;generalize hb6:decide (l[i].2.2.1 < -1024)=b6;cases b6;simp only[decide_eq_false_iff_not]at hb6
   have:1024<l[i].2.2.1:=hp (by omega)
   simp[this]
   simp)
  (by simp[a8c])
 simp only[nZ]at hall;have d3:decide (((l.length:Nat):Int) > 16)=false:=by simpa using h3
 have d1:decide (n<1)=false:=by simpa using h1
 have d2:decide (n > 8)=false:=by simpa using h2
 simp only[d1,d2,d3,cF,oB,hall];have e1:1≤n:=by omega
 have e2:n≤8:=by omega
 have e3:l.length≤16:=by omega
 by_cases hA:l.all (a2t n)=true
 rw[decide_eq_true (p:=1≤n∧n≤8∧l.length≤16∧l.all (a2t n)=true) ⟨e1,e2,e3,hA⟩,hA];rfl;rw[decide_eq_false (p:=1≤n∧n≤8∧l.length≤16∧l.all (a2t n)=true) (fun h=>hA h.2.2.2),b19.2 hA];rfl
def c2T(f:a0W):Prop:=1≤f.1∧f.1≤1048576∧1≤f.2.1∧f.2.1≤8∧4≤f.2.2.1∧f.2.2.1≤24
instance (f:a0W):Decidable (c2T f):=by unfold c2T;infer_instance
theorem b8s(f:a0W):a8b f=some (decide (c2T f)):=by
 unfold a8b a8a c2T
 by_cases h1:1≤f.1<;>by_cases h2:f.1≤1048576<;>by_cases h3:1≤f.2.1<;>by_cases h4:f.2.1≤8<;>by_cases h5:4≤f.2.2.1<;>simp[h1,h2,h3,h4,h5]
def frP(f:a1D):Prop:=c2T f.2.2.1∧1≤f.2.1∧f.2.1≤4096∧0≤f.1∧f.1≤4194304-f.2.1∧a5S f.2.2.2.1 f.2.2.1.2.1
instance (f:a1D):Decidable (frP f):=by unfold frP;infer_instance
theorem b8t(f:a1D):a8d f=some (decide (frP f)):=by
 unfold a8d frP;rw[b8s,b7A]
 by_cases h1:c2T f.2.2.1<;>by_cases h2:1≤f.2.1<;>by_cases h3:f.2.1≤4096<;>by_cases h4:0≤f.1<;>simp[h1,h2,h3,h4]
 have hw:wrap .i64 ((4194304:Int)-f.2.1)=4194304-f.2.1:=a0f (by omega);rw[hw]
 by_cases h5:f.1≤4194304-f.2.1<;>simp[h5]
def a8t(s:a0W):List Nat:=[s.1.toNat,s.2.1.toNat,b0r s.2.2.1]
def a6D(s:a0W):List Int:=a0E s.1.toNat++(a0E s.2.1.toNat++a0E (b0r s.2.2.1))
def hb(f:a1D)(body:Nat):List Int:=
 [245,75]++(a0E f.1.toNat++(a0E f.2.1.toNat++(a0E f.2.2.1.1.toNat++(a0E f.2.2.1.2.1.toNat++(a0E f.2.2.1.2.2.1.toNat++(a0E f.2.2.2.1.length++(f.2.2.2.1.flatMap a6D++a0E body)))))))
def a2c(f:a1D)(body:Nat):List Int:=hb f body++[b9m (hb f body)]
theorem a8I{n:Nat}(h:n<9223372036854775808):1≤(a0E n).length∧(a0E n).length≤9:=c2S 8 n (by rw[show(128:Nat)^(8+1)=9223372036854775808 from by decide];exact h)
theorem d4e(hn:n≤8){s:a0W}(h:a2t n s=true):(a6D s).length≤27:=by
 obtain⟨a1,a2,a3,a4,a5,a6,a7⟩:=a3R.1 h
 have:=c5y (m:=1024) ⟨a6,a7⟩
 have h1:=a8I (n:=s.1.toNat) (by omega);have h2:=a8I (n:=s.2.1.toNat) (by omega);have h3:=a8I (n:=b0r s.2.2.1) (by omega);simp only[a6D,lN];omega
theorem c6A{n:Int}(hn:n≤8):∀(l:List a0W),l.all (a2t n)=true→(l.flatMap a6D).length≤27*l.length
 | [],_=>by simp
 |s::l,h=>by
  simp only[a08,bA]at h
  have:=d4e hn h.1
  have:=c6A hn l h.2
  simp only[a67,lN,lC];omega
theorem c9d(hf:frP f){body:Nat}(hb':body≤1048576):2≤(hb f body).length∧(hb f body).length≤600:=by
 obtain⟨⟨r1,r2,c1,c2,d1,d2⟩,l1,l2,s1,s2,m1,m2,m3,m4⟩:=hf;have h1:=a8I (n:=f.1.toNat) (by omega);have h2:=a8I (n:=f.2.1.toNat) (by omega);have h3:=a8I (n:=f.2.2.1.1.toNat) (by omega);have h4:=a8I (n:=f.2.2.1.2.1.toNat) (by omega);have h5:=a8I (n:=f.2.2.1.2.2.1.toNat) (by omega);have h6:=a8I (n:=f.2.2.2.1.length) (by omega);have h7:=a8I (n:=body) (by omega);have h8:=c6A m2 _ m4;simp only[hb,lN,lC,a19];omega
theorem d0C:∀l:List a0W,(l.flatMap a8t).length=3*l.length
 | []=>rfl
 |s::l=>by simp only[a67,lN,lC,d0C l];simp only[a8t,lC,a19];omega
theorem d0D(a b:List Nat):asI (a++b)=asI a++asI b:=by simp[asI]
theorem d2B(hf:frP f){body:Nat}(hb':body≤1048576):a8W (f,(body:Int))=some (a2c f body):=by
 have hf':=hf;obtain⟨⟨r1,r2,c1,c2,d1,d2⟩,l1,l2,s1,s2,m1,m2,m3,m4⟩:=hf';have hall:∀s∈f.2.2.2.1,a2t f.2.2.1.2.1 s=true:=fun s hs=>lA.1 m4 s hs;have hloop:=a2x (f:=a6m) (β:=Int×(List Int×Unit)) f.2.2.2.1 (fun i (a:List Int)=>((body:Int),f.2.2.2.1,((f.2.2.2.1.length:Nat):Int),(i:Int),a,())) (fun a x=>.inl (a++asI (a8t x))) (fun i a=>a.length=6+3*i) (fun a=>((body:Int),a,()))
  (fun i hi a ha=>⟨fun a' ha'=>by
   simp only[Sum.inl.injEq]at ha';subst ha';obtain⟨a1,a2,a3,a4,a5,a6,a7⟩:=a3R.1 (hall _ (a09 hi));refine⟨?_,by simp[ha,asI,a8t];omega⟩;simp only[a6m,dlt hi,cT,a0c hi,oB,d8c (g:=f.2.2.2.1[i].2.2.1) (by omega),a1u (show a.length+3<2147483648 by omega),a0d (show i<1000000 by omega),a16];rw[a0G (n:=f.2.2.2.1[i].1) (by omega),a0G (n:=f.2.2.2.1[i].2.1) (by omega)];simp only[asI,a8t,a61,b06,a26 a1,a26 a3],fun b hb=>by cases hb⟩)
  (fun a ha=>by simp only[a6m,dge,cF]) (a:=asI [f.1.toNat,f.2.1.toNat,f.2.2.1.1.toNat,f.2.2.1.2.1.toNat,f.2.2.1.2.2.1.toNat,f.2.2.2.1.length]) (by simp[asI])
 rw[b6n]at hloop;simp only[b0n,nZ]at hloop;have hinit:([wrap .u64 f.1,wrap .u64 f.2.1,wrap .u64 f.2.2.1.1,wrap .u64 f.2.2.1.2.1,wrap .u64 f.2.2.1.2.2.1,wrap .u64 ((f.2.2.2.1.length:Nat):Int)]:List Int)=asI [f.1.toNat,f.2.1.toNat,f.2.2.1.1.toNat,f.2.2.1.2.1.toNat,f.2.2.1.2.2.1.toNat,f.2.2.2.1.length]:=by
  rw[a0G (n:=f.1) (by omega),a0G (n:=f.2.1) (by omega),a0G (n:=f.2.2.1.1) (by omega),a0G (n:=f.2.2.1.2.1) (by omega),a0G (n:=f.2.2.1.2.2.1) (by omega),a0G (by omega)];simp only[asI,a61,b06,a26 (show 0≤f.1 by omega),a26 (show 0≤f.2.1 by omega),a26 (show 0≤f.2.2.1.1 by omega),a26 (show 0≤f.2.2.1.2.1 by omega),a26 (show 0≤f.2.2.1.2.2.1 by omega)]
 have hns:asI [f.1.toNat,f.2.1.toNat,f.2.2.1.1.toNat,f.2.2.1.2.1.toNat,f.2.2.1.2.2.1.toNat,f.2.2.2.1.length]++f.2.2.2.1.flatMap (fun x=>asI (a8t x))++[((body:Nat):Int)]=asI ([f.1.toNat,f.2.1.toNat,f.2.2.1.1.toNat,f.2.2.1.2.1.toNat,f.2.2.1.2.2.1.toNat,f.2.2.2.1.length]++f.2.2.2.1.flatMap a8t++[body]):=by
  rw[d0D,d0D];congr 2;simp only[asI,List.map_flatMap]
 have hlt:∀n∈[f.1.toNat,f.2.1.toNat,f.2.2.1.1.toNat,f.2.2.1.2.1.toNat,f.2.2.1.2.2.1.toNat,f.2.2.2.1.length]++f.2.2.2.1.flatMap a8t++[body],n<9223372036854775808:=fun n hn=>by
  simp only[mA,mC,a71,or_false,b26]at hn;rcases hn with(hn|⟨s,hs,hn⟩)|hn;omega;obtain⟨a1,a2,a3,a4,a5,a6,a7⟩:=a3R.1 (hall _ hs)
  have:=c5y (m:=1024) ⟨a6,a7⟩
  simp only[a8t,mC,a71,or_false]at hn;omega;omega
 have hlen:=d0C f.2.2.2.1;have hput:=c9b hlt (by simp[hlen];omega);have hflat:(([f.1.toNat,f.2.1.toNat,f.2.2.1.1.toNat,f.2.2.1.2.1.toNat,f.2.2.1.2.2.1.toNat,f.2.2.2.1.length]++f.2.2.2.1.flatMap a8t++[body]).flatMap a0E)=(hb f body).drop 2:=by
  simp only[hb,List.flatMap_append,a67,List.flatMap_nil,a25,aA,List.flatMap_assoc,a85,a06,List.drop_succ_cons,a18];congr 7;exact congrArg (fun g=>List.flatMap g f.2.2.2.1) (funext fun s=>by simp[a6D,a8t])
 have hbe:[245,75]++(hb f body).drop 2=hb f body:=by simp[hb]
 have hbl:=c9d hf hb';unfold a8W;simp only[hinit];rw[hloop];simp only[oB,a16];have hl2:=congrArg a46 hns;rw[show(asI ([f.1.toNat,f.2.1.toNat,f.2.2.1.1.toNat,f.2.2.1.2.1.toNat,f.2.2.1.2.2.1.toNat,f.2.2.2.1.length]++f.2.2.2.1.flatMap a8t++[body])).length=7+3*f.2.2.2.1.length from by simp only[asI,List.length_map,lN,hlen,lC,a19];omega]at hl2;rw[lN,a54]at hl2;rw[a0G (n:=(body:Int)) (by omega),a1u (by omega),cT,hns,hput];simp only[oB,hflat,a16,hbe];rw[a1u (by simp;omega),cT,c9c (show short (hb f body)by unfold short;omega)];simp only[oB];rw[a1u (by omega),cT];rfl
def d2C(f:a1D):a1D:=(f.1,f.2.1,f.2.2.1,f.2.2.2.1,[],())
theorem a5j{k:Nat}(h:(P++(A++R)).length<k):((P++A)++R).length<k:=by rw[aA];exact h
theorem c4v{x:List Int}{ch:Int}(hch:ch≤8)(s l:Int)(fm:a0W)(u:List Sub×Unit){N:Nat}(hN:N≤16){R:List Int}:∀(rest done:List a0W)(P:List Int),rest.all (a2t ch)=true→done.length+rest.length=N→
  (P++(rest.flatMap a6D++R)).length<1000000→
  a0h a6n (x,(N:Int),(done.length:Int),(s,l,fm,done,u),ord P (rest.flatMap a6D++R),())=some (x,(s,l,fm,done++rest,u),ord (P++rest.flatMap a6D) R,())
 | [],done,P,_,hl,_=>by
  have e:done.length=N:=by simpa using hl
  rw[e,a0o (b:=(x,(s,l,fm,done,u),ord P R,())) (by simp only[a6n,dge,cF];rfl)]
  simp
 |g::rest,done,P,h,hl,hlen=>by
  simp only[a08,bA]at h;rw[lC]at hl;obtain⟨a1,a2,a3,a4,a5,a6,a7⟩:=a3R.1 h.1;have hz:=c5y (m:=1024) ⟨a6,a7⟩;have eT:(g::rest).flatMap a6D++R=a0E g.1.toNat++(a0E g.2.1.toNat++(a0E (b0r g.2.2.1)++(rest.flatMap a6D++R))):=by simp[a6D]
  rw[eT]at hlen⊢;have n1:=b0E (n:=g.1.toNat) (most:=7) (by omega) (by omega) hlen;have hlen2:=a5j hlen;have n2:=b0E (n:=g.2.1.toNat) (most:=7) (by omega) (by omega) hlen2;have hlen3:=a5j hlen2;have n3:=b0E (n:=b0r g.2.2.1) (most:=2048) (by omega) (by omega) hlen3;have hlen4:=a5j hlen3;have hw:wrap .u64 ((done.length:Int)+1)=(((done++[g]).length:Nat):Int):=by rw[a0G (by omega)];simp
  have w1:wrap .i64 ((g.1.toNat:Nat):Int)=g.1:=by rw[a0f (by omega)];omega
  have w2:wrap .i64 ((g.2.1.toNat:Nat):Int)=g.2.1:=by rw[a0f (by omega)];omega
  have hd:decide ((done.length:Int)<(N:Int))=true:=by simp;omega
  rw[a0q (s':=(x,(N:Int),(((done++[g]).length:Nat):Int),(s,l,fm,done++[g],u),ord (P++a0E g.1.toNat++a0E g.2.1.toNat++a0E (b0r g.2.2.1)) (rest.flatMap a6D++R),())) (by
   simp only[a6n,hd,cT,n1,n2,n3,oB,d8d (g:=g.2.2.1) (by omega),a1u (show done.length+1<2147483648 by omega),w1,w2,hw,a16])]
  rw[c4v hch s l fm u hN rest (done++[g]) _ h.2 (by simp;omega) hlen4];simp[a6D]
theorem c4w(hf:frP f){body:Nat}(hb':body≤1048576)(hl:(a2c f body++R).length<1000000):
  a6o (a2c f body++R)=some (d2C f,((a2c f body).length:Int),(body:Int),(0:Int)):=by
 have hf':=hf;obtain⟨⟨r1,r2,c1,c2,d1,d2⟩,l1,l2,s1,s2,m1,m2,m3,m4⟩:=hf';have hbl:=c9d hf hb'

 have hT:a2c f body++R=[245,75]++(a0E f.1.toNat++(a0E f.2.1.toNat++(a0E f.2.2.1.1.toNat++(a0E f.2.2.1.2.1.toNat++(a0E f.2.2.1.2.2.1.toNat++(a0E f.2.2.2.1.length++(f.2.2.2.1.flatMap a6D++(a0E body++([b9m (hb f body)]++R))))))))):=by
  simp[a2c,hb]
 generalize hx:a2c f body++R=x at *;have hxl:2≤x.length:=by rw[hT];simp
 have g0:a0p x 0=some 245:=by rw[hT];rfl
 have g1:a0p x 1=some 75:=by rw[hT];rfl
 have hdrop:b32 2 (b18 x.length x)=a0E f.1.toNat++(a0E f.2.1.toNat++(a0E f.2.2.1.1.toNat++(a0E f.2.2.1.2.1.toNat++(a0E f.2.2.1.2.2.1.toNat++(a0E f.2.2.2.1.length++(f.2.2.2.1.flatMap a6D++(a0E body++([b9m (hb f body)]++R)))))))):=by
  rw[a29,hT];rfl
 have hlen0:([]++(a0E f.1.toNat++(a0E f.2.1.toNat++(a0E f.2.2.1.1.toNat++(a0E f.2.2.1.2.1.toNat++(a0E f.2.2.1.2.2.1.toNat++(a0E f.2.2.2.1.length++(f.2.2.2.1.flatMap a6D++(a0E body++([b9m (hb f body)]++R))))))))):List Int).length<1000000:=by
  rw[←hdrop];simp;omega
 have n1:=b0E (n:=f.1.toNat) (most:=4194304) (by omega) (by omega) hlen0;have h1:=a5j hlen0;have n2:=b0E (n:=f.2.1.toNat) (most:=4096) (by omega) (by omega) h1;have h2:=a5j h1;have n3:=b0E (n:=f.2.2.1.1.toNat) (most:=1048576) (by omega) (by omega) h2;have h3:=a5j h2;have n4:=b0E (n:=f.2.2.1.2.1.toNat) (most:=8) (by omega) (by omega) h3;have h4:=a5j h3;have n5:=b0E (n:=f.2.2.1.2.2.1.toNat) (most:=24) (by omega) (by omega) h4;have h5:=a5j h4;have n6:=b0E (n:=f.2.2.2.1.length) (most:=16) (by omega) (by omega) h5;have h6:=a5j h5;have hloop:=c4v (x:=x) m2 f.1 f.2.1 f.2.2.1 ([],()) m3 f.2.2.2.1 [] _ m4 (by simp) h6;have h7:=a5j h6;have n7:=b0E (n:=body) (most:=1048576) (by omega) (by omega) h7;simp only[a19,nZ,a06,a17]at n1 n2 n3 n4 n5 n6 n7 hloop;have w1:wrap .i64 ((f.1.toNat:Nat):Int)=f.1:=by rw[a0f (by omega)];omega
 have w2:wrap .i64 ((f.2.1.toNat:Nat):Int)=f.2.1:=by rw[a0f (by omega)];omega
 have w3:wrap .i64 ((f.2.2.1.1.toNat:Nat):Int)=f.2.2.1.1:=by rw[a0f (by omega)];omega
 have w4:wrap .i64 ((f.2.2.1.2.1.toNat:Nat):Int)=f.2.2.1.2.1:=by rw[a0f (by omega)];omega
 have w5:wrap .i64 ((f.2.2.1.2.2.1.toNat:Nat):Int)=f.2.2.1.2.2.1:=by rw[a0f (by omega)];omega
 have hPq:a0E f.1.toNat++a0E f.2.1.toNat++a0E f.2.2.1.1.toNat++a0E f.2.2.1.2.1.toNat++a0E f.2.2.1.2.2.1.toNat++a0E f.2.2.2.1.length++f.2.2.2.1.flatMap a6D++a0E body=(hb f body).drop 2:=by simp[hb]
 rw[hPq]at n7;have hor:ord ((hb f body).drop 2) ([b9m (hb f body)]++R)=(x.drop 2,(((hb f body).length-2:Nat):Int),(0:Int),()):=by
  unfold ord;rw[a07,←hx];congr 1;unfold a2c;rw[aA,List.drop_append_of_le_length (by omega)]
 rw[hor]at n7;have hleft:wrap .i64 (((x.drop 2).length:Int)-(((hb f body).length-2:Nat):Int))=((1+R.length:Nat):Int):=by
  have:x.length=(hb f body).length+(1+R.length):=by rw[←hx];simp[a2c];omega
  rw[a07,a0f (by omega)];omega
 have hat:wrap .i64 ((2:Int)+(((hb f body).length-2:Nat):Int))=(((hb f body).length:Nat):Int):=by rw[a0f (by omega)];omega
 have hlx:(hb f body).length<x.length:=by rw[←hx];simp[a2c]
 have htake:b18 (hb f body).length x=hb f body:=by rw[←hx];simp[a2c]
 have hgs:a0p x (((hb f body).length:Nat):Int)=some (b9m (hb f body)):=by rw[a0c hlx];congr 1;subst hx;simp[a2c]
 have dl:decide (((x.length:Nat):Int)<2)=false:=by simp;omega
 have dl2:decide ((2:Int)≤((x.length:Nat):Int))=true:=by simp;omega
 have b0:((245:Int) != 245)=false:=rfl;have b1:((75:Int) != 75)=false:=rfl;have hnew:∀T:List Int,T.length<1000000→b3y T=some (ord [] T):=fun T hT=>by unfold b3y;rw[a1u (by omega)];rfl
 have hlen0':=hlen0;rw[a06]at hlen0';have z0:((0:Int) != 0)=false:=rfl;have dR:decide (((1+R.length:Nat):Int)<1)=false:=by simp;omega
 have da:decide ((0:Int)≤(((hb f body).length:Nat):Int))=true:=by simp
 have db:decide ((((hb f body).length:Nat):Int)≤((x.length:Nat):Int))=true:=by simp;omega
 have ss:(b9m (hb f body) != b9m (hb f body))=false:=bne_self_eq_false _;have hfb:frP (f.1,f.2.1,f.2.2.1,f.2.2.2.1,([]:List Sub),()):=hf;have hwe:wrap .i64 ((((hb f body).length:Nat):Int)+1)=(((a2c f body).length:Nat):Int):=by rw[a0f (by omega)];simp[a2c]
 have hwb:wrap .i64 ((body:Nat):Int)=(body:Int):=a0f (by omega);unfold a6o;simp only[dl,cF,g0,g1,oB,b0,b1,dl2,cT];rw[hdrop,hnew _ hlen0'];simp only[oB,n1,n2,n3,n4,n5,n6,w1,w2,w3,w4,w5]
 erw[hloop]
 simp only[oB,n7,a9u,z0,cF,a8N,b0l,hleft,dR,hat,da,db,a02,cT,tN,htake,c9c (show short (hb f body)by unfold short;omega),hgs,ss];rw[b8t,decide_eq_true hfb];simp only[oB,bT,cF,hwe,hwb];rfl
@[reducible] def PZ:Type:=Sub×List Nat
def d2D(n:Int)(p:PZ):Prop:=SmallS p.1∧(a2Q p.1 n).isSome=true∧(p.1.1≠0∧p.1.1≠1→PartsOk p.1.2.2.2.2.2.2.2.2.2.1 n ((p.1.2.2.2.2.2.2.2.2.1.length:Nat):Int) p.1.2.2.2.2.2.2.2.2.2.2.1 p.2)
def a0s(l:List PZ):List Int:=l.flatMap fun p=>a9E p.1 p.2
theorem c6B(l:List PZ):a1M (a0s l):=b6S fun _=>d5v _ _
theorem c6C(x:a1D)(all:List Sub)(h8:all.length≤8):∀(rest done:List Sub)(L:List Int),done++rest=all→(∀s∈rest,SmallS s∧(a2Q s x.2.1).isSome=true)→L.length+700000*rest.length<40000000→
  ∃zs:List PZ,zs.map (·.1)=rest∧(∀p∈zs,d2D x.2.1 p)∧(a0s zs).length≤700000*rest.length∧((∀s∈rest,∃c,a4Z (s,x.2.1)=some (c:Int))∧some (((a0s zs).length:Nat):Int)=rest.foldr (fun s a=>a.bind fun a=>(a4Z (s,x.2.1)).bind fun c=>some (c+a)) (some 0))∧
   a0h a9X (all,(all.length:Int),(done.length:Int),wL L,x,())=some (.inl (wL (L++a0s zs),x,()))
 | [],done,L,hd,_,_=>by
  have e:done=all:=by simpa using hd
  subst e;refine⟨[],rfl,by simp,by simp[a0s],⟨by simp,by simp[a0s]⟩,?_⟩;rw[a0o (b:=Sum.inl (wL L,x,())) (by simp only[a9X,dge,cF])];simp[a0s]
 |s::rest,done,L,hd,h,hL=>by
  obtain⟨hs,ho⟩:=h s (by simp);rw[lC]at hL;obtain⟨zn,h1,h2,h3,h4⟩:=d5w hs ho (L:=L) (by omega);obtain⟨zs,k1,k2,k3,⟨k4,k5⟩,k6⟩:=c6C x all h8 rest (done++[s]) (L++a9E s zn) (by simpa using hd) (fun t ht=>h t (by simp[ht])) (by rw[lN];omega);have hlt:done.length<all.length:=by rw[←hd];simp
  have hg:a0p all (done.length:Int)=some s:=by rw[a0c hlt];subst hd;simp
  refine⟨(s,zn)::zs,by simp[k1],fun p hp=>?_,?_,⟨fun t ht=>?_,?_⟩,?_⟩;rcases mC.1 hp with rfl|hp;exact⟨hs,ho,h4⟩;exact k2 p hp;simp only[a0s,a67,lN,lC];simp only[a0s]at k3;omega;rcases mC.1 ht with rfl|ht;exact⟨_,h2⟩;exact k4 t ht;simp only[List.foldr_cons,←k5,oB,h2];simp[a0s];have z0:((0:Int) != 0)=false:=rfl;rw[a0q (s':=(all,(all.length:Int),(((done++[s]).length:Nat):Int),wL (L++a9E s zn),x,())) (by
   simp only[a9X,dlt hlt,cT,hg,oB,h1,z0,cF,a0d (show done.length<1000000 by omega)]
   simp)]
  rw[k6];simp[a0s]
def a5I(k:Nat):Nat:=(8-k%8)%8
def a3d(L:List Int):List Int:=L++a01 (a5I L.length) 0
theorem c4x:∀(k:Nat)(L:List Int),a5I L.length=k→L.length+k<900000000→a0h a4o (wL L,())=some (wL (L++a01 k 0),())
 |k,L,hk,hL=>by
  have f:=(a6K L).1;have ht:a43 (wL L).2.1 8=((L.length%8:Nat):Int):=by rw[f];rfl
  unfold a5I at hk;cases k with
  |zero=>
   have:L.length%8=0:=by omega
   rw[a0o (b:=(wL L,())) (by
    simp only[a4o,ht,this];rfl)]
   simp
  |succ k=>
   have hb:(((L.length%8:Nat):Int) != 0)=true:=by simp;omega
   rw[a0q (s':=(wL (L++[0]),())) (by
    simp only[a4o,ht,hb,cT,c3W (show L.length<1000000000 by omega),oB])]
   rw[c4x k (L++[0]) (by unfold a5I;rw[lN,a54];omega) (by rw[lN,a54];omega)];rw[aA];rfl
theorem d5y(hL:L.length<800000000):a5L (wL L)=some (wL (a3d L)):=by
 unfold a5L;rw[c4x _ L rfl (by unfold a5I;omega)];rfl
def a5R(L:List Int):List Int:=(wL (a3d L)).1
theorem c1b(L:List Int):(a5R L).length=(L.length+7) / 8∧8*(a5R L).length=(a3d L).length:=by
 have:=(a6K (a3d L)).2
 unfold a5R;rw[this];unfold a3d a5I;simp only[lN,List.length_replicate];omega
def a6M(f:a1D)(L:List Int):List Int:=a2c f (a5R L).length++a5R L
def a4g(f:a1D)(L:List Int):List Int:=a6M f L++[a3I (a6M f L) / 256,a3I (a6M f L)%256]
theorem b9n(hf:frP f)(hL:L.length≤5600000):(a6M f L).length≤700700∧(a5R L).length≤700000:=by
 have h1:=(c1b L).1;have h2:=c9d hf (body:=(a5R L).length) (by omega);simp only[a6M,a2c,lN,a54];omega
theorem c9e(hm:a5g f=some true)(hf:frP f)(h8:f.2.2.2.2.1.length≤8)(hs:∀s∈f.2.2.2.2.1,SmallS s∧(a2Q s f.2.1).isSome=true):
  ∃zs:List PZ,zs.map (·.1)=f.2.2.2.2.1∧(∀p∈zs,d2D f.2.1 p)∧(a0s zs).length≤5600000∧
   some (((a0s zs).length:Nat):Int)=f.2.2.2.2.1.foldr (fun s a=>a.bind fun a=>(a4Z (s,f.2.1)).bind fun c=>some (c+a)) (some 0)∧a5h f=some (a4g f (a0s zs),0):=by
 obtain⟨zs,k1,k2,k3,⟨-,k5⟩,k6⟩:=c6C f f.2.2.2.2.1 h8 f.2.2.2.2.1 [] [] rfl hs (by simp;omega);have hL:(a0s zs).length≤5600000:=by omega
 refine⟨zs,k1,k2,hL,k5,?_⟩;rw[a06,a19]at k6;have hp:=b9n hf hL;have hw0:wL []=(([]:List Int),(0:Int),()):=rfl;rw[hw0]at k6;have hpl:(a3d (a0s zs)).length<1000000000:=by
  have:=(c1b (a0s zs)).2
  omega
 have hr:=c2r (a6M f (a0s zs));have hpre:a2c f (a5R (a0s zs)).length++a5R (a0s zs)=a6M f (a0s zs):=rfl;have hhl:(a2c f (a5R (a0s zs)).length).length+(a5R (a0s zs)).length=(a6M f (a0s zs)).length:=by rw[←hpre,lN]
 unfold a5h;simp only[hm,oB,bT,cF]
 erw[k6]
 simp only[oB,d5y (show(a0s zs).length<800000000 by omega),d5x hpl]
 erw[d2B hf (show(a5R (a0s zs)).length≤1048576 by omega)]
 simp only[oB,a16];rw[show(wL (a3d (a0s zs))).1=a5R (a0s zs)from rfl];rw[hpre,a1u (by omega),cT,c4u (show short (a6M f (a0s zs))by unfold short;omega)];simp only[oB];rw[a0G (by omega),e2H hr];simp only[oB];rw[a1u (by simp;omega),cT];rfl
def b0i(f:a1D)(l:List Sub):a1D:=(f.1,f.2.1,f.2.2.1,f.2.2.2.1,l,())
theorem d2E(f:a1D):b0i f f.2.2.2.2.1=f:=rfl
theorem c4y(f zf:a1D)(e:Int){N:Nat}(hN:N≤8){Z:List Int}:∀(rest:List PZ)(done:List Sub)(P:List Int),done.length+rest.length=N→(∀p∈rest,d2D f.2.1 p)→OkR P (a0s rest++Z)→
  a0h a8X (e,(N:Int),(done.length:Int),zf,b0i f done,rdr P (a0s rest++Z),())=some (.inl (e,zf,b0i f (done++rest.map (·.1)),rdr (P++a0s rest) Z,()))
 | [],done,P,hl,_,_=>by
  have e1:done.length=N:=by simpa using hl
  rw[e1,a0o (b:=Sum.inl (e,zf,b0i f done,rdr P Z,())) (by simp only[a8X,dge,cF];rfl)];simp[a0s]
 |p::rest,done,P,hl,h,hok=>by
  rw[lC]at hl;obtain⟨hs,ho,hz⟩:=h p (by simp);have eb:a0s (p::rest)++Z=a9E p.1 p.2++(a0s rest++Z):=by simp[a0s]
  rw[eb]at hok⊢;have hg:=d7g hs ho hz hok;have hd:decide ((done.length:Int)<(N:Int))=true:=by simp;omega
  have z0:((0:Int) != 0)=false:=rfl;rw[a0q (s':=(e,(N:Int),(((done++[p.1]).length:Nat):Int),zf,b0i f (done++[p.1]),rdr (P++a9E p.1 p.2) (a0s rest++Z),())) (by
   have hg':b4h (rdr P (a9E p.1 p.2++(a0s rest++Z)),(b0i f done).2.1)=some (p.1,(0:Int),rdr (P++a9E p.1 p.2) (a0s rest++Z)):=hg;simp only[a8X,hd,cT,hg',oB,z0,cF];rw[show(b0i f done).2.2.2.2.1=done from rfl,a1u (show done.length+1<2147483648 by omega),cT,a0d (show done.length<1000000 by omega)];rw[show(((done++[p.1]).length:Nat):Int)=((done.length+1:Nat):Int)from by simp];rfl)]
  rw[c4y f zf e hN rest (done++[p.1]) _ (by simp;omega) (fun q hq=>h q (by simp[hq])) hok.shift];simp[a0s]
theorem c2s{L:List Int}(hL:a1M L)(hl:L.length<500000000)(t:Int×(Int×Unit)):∀(k i:Nat),i+k=L.length→(∀j,i≤j→L.getD j 0=0)→
  a0h a4q ((L.length:Int),(i:Int),((wL L).1,t),())=some (.inl ((L.length:Int),((wL L).1,t),()))
 |0,i,h,_=>by
  obtain rfl:i=L.length:=by omega
  exact a0o (by simp only[a4q,dge,cF])
 |k+1,i,h,h0=>by
  have hlt:i<L.length:=by omega
  have z:((0:Int)==1)=false:=rfl;have hw:wrap .i64 ((i:Int)+1)=((i+1:Nat):Int):=by rw[a0f (by omega)];omega
  rw[a0q (s':=((L.length:Int),((i+1:Nat):Int),((wL L).1,t),())) (by
   simp only[a4q,dlt hlt,cT];rw[c5u hL (by omega) hlt t,h0 i (a42 _)];simp only[oB,z,cF,hw])]
  exact c2s hL hl t k (i+1) (by omega) (fun j hj=>h0 j (by omega))
theorem d5z(L:List Int)(k j:Nat)(hj:L.length≤j):(L++a01 k 0).getD j 0=0:=by
 rw[lD,a23 hj,List.getElem?_replicate]
 split<;>rfl
theorem c6D(h:a1M L):a1M (a3d L):=h.app fun _ hb=>.inl (b04.1 hb).2
theorem d4f(hL:a1M L)(hl:L.length≤5600000):∃r,a5N (rdr L (a01 (a5I L.length) 0))=some r∧r.2.2.1=0:=by
 have hp:(a3d L).length=L.length+a5I L.length:=by simp[a3d]
 have hpn:a5I L.length<8:=by unfold a5I;omega
 have h8:(a3d L).length%8=0:=by rw[hp];unfold a5I;omega
 have z0:((0:Int) != 0)=false:=rfl;have h7:wrap .i64 (wrap .i64 (a68 (wrap .i64 ((L.length:Int)+7)) 8)*8)=((a3d L).length:Int):=by
  rw[a0f (n:=(L.length:Int)+7) (by omega),show a68 ((L.length:Int)+7) 8=(((L.length+7) / 8:Nat):Int)from by
   rw[show((L.length:Int)+7)=((L.length+7:Nat):Int)from by omega];rfl,a0f (n:=(((L.length+7) / 8:Nat):Int)) (by omega),a0f (by omega),hp]
  unfold a5I;omega
 have hloop:=c2s (c6D hL) (by omega) ((L.length:Int),(0:Int),()) (a5I L.length) L.length (by omega) (fun j hj=>d5z L _ j hj);refine⟨((wL (a3d L)).1,((a3d L).length:Int),(0:Int),()),?_,rfl⟩;unfold a5N rdr;simp only[z0,cF,h7];rw[show L++a01 (a5I L.length) 0=a3d L from rfl,hloop];rfl
theorem e2I{v:Int}(h:0≤v∧v<65536):bits .u16 .or (a0z .u16 (wrap .u16 (v / 256)) 8) (wrap .u16 (v%256))=v:=by
 rw[b5o,b5o];have e:a0z .u16 (v / 256%65536) 8=((v.toNat / 256*256:Nat):Int):=by
  show wrap .u16 (v / 256%65536*256)=_;rw[b5o];omega
 rw[e];have e2:v%256%65536=((v.toNat%256:Nat):Int):=by omega
 rw[e2];show wrap .u16 (((a04 16 ((v.toNat / 256*256:Nat):Int) ||| a04 16 ((v.toNat%256:Nat):Int)).toNat:Nat):Int)=_;have h1:(a04 16 ((v.toNat / 256*256:Nat):Int)).toNat=v.toNat / 256*256:=by rw[a31];omega
 have h2:(a04 16 ((v.toNat%256:Nat):Int)).toNat=v.toNat%256:=by rw[a31];omega
 rw[a63,h1,h2];have e:v.toNat / 256*256 ||| v.toNat%256=v.toNat / 256*256+v.toNat%256:=by
  have:=a56 (i:=8) (b:=v.toNat%256) (by omega) (v.toNat / 256)
  rw[show 2^8*(v.toNat / 256)=v.toNat / 256*256 from by omega]at this;exact this.symm
 rw[e,b5o];omega
theorem c7d(hm:a5g f=some true)(hf:frP f)(hch:((f.2.2.2.2.1.length:Nat):Int)=f.2.2.1.2.1){zs:List PZ}(hz:zs.map (·.1)=f.2.2.2.2.1)(hp:∀p∈zs,d2D f.2.1 p)(hL:(a0s zs).length≤5600000)(hR:R.length≤1000):a3D (a4g f (a0s zs)++R)=some (f,((a4g f (a0s zs)).length:Int),(0:Int)):=by
 have hpl:=b9n hf hL;have hr:=c2r (a6M f (a0s zs));have h8:f.2.2.2.2.1.length≤8:=by have:=hf.1.2.2.2.1;omega
 have hbb:=c1b (a0s zs);generalize hbd:a5R (a0s zs)=body at *;have hfb:a4g f (a0s zs)=a6M f (a0s zs)++[a3I (a6M f (a0s zs)) / 256,a3I (a6M f (a0s zs))%256]:=rfl;have hpre:a6M f (a0s zs)=a2c f body.length++body:=by unfold a6M;rw[hbd]
 generalize hpb:a6M f (a0s zs)=pre at *;have hxe:a4g f (a0s zs)++R=a2c f body.length++(body++([a3I pre / 256,a3I pre%256]++R)):=by rw[hfb,hpre];simp
 have hfl:(a4g f (a0s zs)).length=pre.length+2:=by rw[hfb];simp
 have hprl:pre.length=(a2c f body.length).length+body.length:=by rw[hpre];simp
 have hxl:(a4g f (a0s zs)++R).length=pre.length+2+R.length:=by rw[lN,hfl]
 have hget:=c4w hf (body:=body.length) (by omega) (R:=body++([a3I pre / 256,a3I pre%256]++R)) (by rw[←hxe,hxl];omega);rw[←hxe]at hget;generalize hx:a4g f (a0s zs)++R=x at *;have z0:((0:Int) != 0)=false:=rfl;have w1:wrap .i64 (((a2c f body.length).length:Int)+(body.length:Int))=(pre.length:Int):=by rw[a0f (by omega)];omega
 have w2:wrap .i64 ((pre.length:Int)+2)=((pre.length+2:Nat):Int):=by rw[a0f (by omega)];omega
 have w3:wrap .i64 ((pre.length:Int)+1)=((pre.length+1:Nat):Int):=by rw[a0f (by omega)];omega
 have d1:decide ((x.length:Int)<((pre.length+2:Nat):Int))=false:=by simp;omega
 have d2:decide ((0:Int)≤(pre.length:Int))=true:=by simp
 have d3:decide ((pre.length:Int)≤(x.length:Int))=true:=by simp;omega
 have d4:decide ((0:Int)≤((a2c f body.length).length:Int))=true:=by simp
 have d5:decide (((a2c f body.length).length:Int)≤(pre.length:Int))=true:=by simp;omega
 have hxp:x=pre++([a3I pre / 256,a3I pre%256]++R):=by rw[←hx,hfb];simp
 have htake:b18 pre.length x=pre:=by rw[hxp];simp
 have hdrop:b32 (a2c f body.length).length pre=body:=by rw[hpre];simp
 have g1:a0p x (pre.length:Int)=some (a3I pre / 256):=by rw[a0c (by omega)];congr 1;subst hxp;simp
 have g2:a0p x ((pre.length+1:Nat):Int)=some (a3I pre%256):=by rw[a0c (by omega)];congr 1;subst hxp;simp
 have ss:(a3I pre != bits .u16 .or (a0z .u16 (wrap .u16 (a3I pre / 256)) 8) (wrap .u16 (a3I pre%256)))=false:=by rw[e2I hr];exact bne_self_eq_false _
 have hpadl:(a3d (a0s zs)).length<1000000000:=by omega
 have hnew:=d8b hpadl;rw[show(wL (a3d (a0s zs))).1=body from hbd]at hnew;have hok:OkR [] (a0s zs++a01 (a5I (a0s zs).length) 0):=⟨by rw[a06];exact c6D (c6B zs),by
  rw[a06];show(a3d (a0s zs)).length<_;omega⟩
 have hloop:=c4y f ((0:Int),(0:Int),((0:Int),(0:Int),(0:Int),()),([]:List a0W),([]:List Sub),()) (pre.length:Int) h8 zs [] [] (by rw[←hz];simp) hp hok;simp only[a06,a19,hz,d2E]at hloop;have hrd:rdr [] (a3d (a0s zs))=rdr [] (a0s zs++a01 (a5I (a0s zs).length) 0):=rfl;obtain⟨r,ha1,ha2⟩:=d4f (c6B zs) hL;have hleft:a3o (rdr (a0s zs) (a01 (a5I (a0s zs).length) 0))=some ((a5I (a0s zs).length:Int),rdr (a0s zs) (a01 (a5I (a0s zs).length) 0)):=by
  unfold a3o rdr
  have:(wL (a0s zs++a01 (a5I (a0s zs).length) 0)).1=body:=hbd
  simp only[this];have hp:(a3d (a0s zs)).length=(a0s zs).length+a5I (a0s zs).length:=by simp[a3d]
  rw[a0f (n:=8*(body.length:Int)) (by omega),a0f (by omega)];congr 2;omega
 have d8:decide (((a5I (a0s zs).length:Nat):Int)≥8)=false:=by unfold a5I;simp;omega
 have hb0:b0i f []=d2C f:=rfl;have hch':f.2.2.1.2.1=((f.2.2.2.2.1.length:Nat):Int):=hch.symm;unfold a3D;rw[hget];simp only[oB,z0,cF,w1,w2,d1,d2,d3,d4,a02,cT,tN,htake,c4u (show short pre by unfold short;omega),g1,w3,g2,ss,d5,hdrop,hnew,hrd];rw[show(d2C f).2.2.1.2.1=((f.2.2.2.2.1.length:Nat):Int)from hch']
 erw[hloop]
 simp only[oB,hleft,d8,cF,ha1,a0x,ha2,z0,hm,bT,w2,hfl]
theorem c7e(hf:frP f)(hL:L.length≤5600000)(hR:R.length≤1000):a9x (a4g f L++R)=some (f.2.2.1,f.1,f.2.1,(0:Int)):=by
 have hpl:=b9n hf hL;have hxe:a4g f L++R=a2c f (a5R L).length++(a5R L++([a3I (a6M f L) / 256,a3I (a6M f L)%256]++R)):=by simp[a4g,a6M]
 have hget:=c4w hf (body:=(a5R L).length) (by omega) (R:=a5R L++([a3I (a6M f L) / 256,a3I (a6M f L)%256]++R)) (by
  rw[←hxe];simp only[a4g,lN,lC,a19];omega)
 rw[←hxe]at hget;unfold a9x;rw[hget];rfl
theorem b6o(x:Int):b0z x=some (a0b x):=by
 unfold b0z a0b
 by_cases h:-1073741824≤x<;>simp[h]
def a3r(c:List (List Int)):Prop:=1≤c.length∧c.length≤8∧(c.headD []).length≤4096∧c.all (fun r=>decide (r.length=(c.headD []).length)&&r.all a0b)=true
instance (c:List (List Int)):Decidable (a3r c):=by unfold a3r;infer_instance
theorem b4o{l:List α}{d:α}(h:0<l.length):l[0]=l.headD d:=by
 cases l with
 |nil=>simp at h
 |cons a l=>rfl
theorem c5z(c:List (List Int)):a8B c=some (decide (a3r c)):=by
 unfold a8B
 by_cases h1:((c.length:Nat):Int)<1
 have:¬ a3r c:=fun h=>by have:=h.1;omega
 simp[h1,this]
 by_cases h2:((c.length:Nat):Int) > 8
 have:¬ a3r c:=fun h=>by have:=h.2.1;omega
 simp[h1,h2,this];have hc:0<c.length:=by omega
 have hg:a0p c 0=some (c.headD []):=by rw[show(0:Int)=((0:Nat):Int)from rfl,a0c hc,b4o (d:=[]) hc]
 have d1:decide (((c.length:Nat):Int)<1)=false:=by simpa using h1
 have d2:decide (((c.length:Nat):Int) > 8)=false:=by simpa using h2
 simp only[d1,d2,cF,hg,oB]
 by_cases h3:(((c.headD []).length:Nat):Int) > 4096
 rw[decide_eq_true h3,decide_eq_false (show ¬ a3r c from fun h=>by have:=h.2.2.1;omega)];rfl;have d3:decide ((((c.headD []).length:Nat):Int) > 4096)=false:=by simpa using h3
 simp only[d3,cF];have inner:∀(i:Nat)(r:List Int),short r→a0h a5q (c,c,(c.length:Int),(i:Int),r,(r.length:Int),(0:Int),())=some (bif r.all a0b then Sum.inl (c,c,(c.length:Int),(i:Int),())else Sum.inr (false,())):=fun i r hr=>by
  have:=a1v (f:=a5q) r (fun j=>(c,c,(c.length:Int),(i:Int),r,(r.length:Int),(j:Int),())) a0b (bt:=Sum.inl (c,c,(c.length:Int),(i:Int),())) (bf:=Sum.inr (false,()))
   (fun j h hp=>by simp only[a5q,dlt h,cT,a0c h,oB,b6o,hp,bT,cF,a0d (a57 h hr)])
   (fun j h hp=>by simp only[a5q,dlt h,cT,a0c h,oB,b6o,hp,a38])
   (by simp only[a5q,dge,cF])
  exact this
 have hall:=a1v (f:=a5r) c (fun i=>(c,c,(c.length:Int),(i:Int),())) (fun r=>decide (r.length=(c.headD []).length)&&r.all a0b) (bt:=Sum.inl ()) (bf:=Sum.inr (false,()))
  (fun i h hp=>by
   simp only[bA,dT]at hp;have e:((((c[i]).length:Nat):Int) != (((c.headD []).length:Nat):Int))=false:=by rw[hp.1];exact bne_self_eq_false _
   have hi:=inner i c[i] (by unfold short;omega);rw[hp.2,cT]at hi;simp only[a5r,dlt h,cT,a0c h,oB,hg,e,cF,hi,a0d (show i<1000000 by omega)])
  (fun i h hp=>by
   by_cases hl:(c[i]).length=(c.headD []).length
   have e:((((c[i]).length:Nat):Int) != (((c.headD []).length:Nat):Int))=false:=by rw[hl];exact bne_self_eq_false _
   have hi:=inner i c[i] (by unfold short;omega);rw[decide_eq_true hl,a32]at hp;rw[hp,cF]at hi;simp only[a5r,dlt h,cT,a0c h,oB,hg,e,cF,hi];have e:((((c[i]).length:Nat):Int) != (((c.headD []).length:Nat):Int))=true:=by simp only[bne_iff_ne,ne_eq,Int.natCast_inj];exact hl
   simp only[a5r,dlt h,cT,a0c h,oB,hg,e])
  (by simp only[a5r,dge,cF])
 simp only[nZ]at hall;rw[hall];have e1:1≤c.length:=by omega
 have e2:c.length≤8:=by omega
 have e3:(c.headD []).length≤4096:=by omega
 by_cases hA:c.all (fun r=>decide (r.length=(c.headD []).length)&&r.all a0b)=true
 rw[hA,decide_eq_true (show a3r c from⟨e1,e2,e3,hA⟩)];rfl;rw[b19.2 hA,decide_eq_false (show ¬ a3r c from fun h=>hA h.2.2.2)];rfl
def a4t(c:List (List Int))(n:Nat):Prop:=∀r∈c,r.length=n∧r.all a0b=true
theorem d0E(h:a3r c):a4t c (c.headD []).length:=fun r hr=>by
 have:=lA.1 h.2.2.2 r hr
 simpa using this
theorem c2U{n:Nat}(h:a4t c n)(h1:1≤c.length)(h8:c.length≤8)(hn:n≤4096):a3r c:=by
 have hd:(c.headD []).length=n:=by
  rw[←b4o (d:=[]) (show 0<c.length by omega)];exact(h _ (a09 _)).1
 refine⟨h1,h8,by omega,lA.2 fun r hr=>?_⟩
 have:=h r hr
 rw[decide_eq_true (show r.length=(c.headD []).length from by rw[hd];exact this.1),this.2];rfl
theorem c6E{n:Nat}(h:a4t c n)(hn:n≤5000)(h8:c.length≤100):a8h c=some c:=by
 have:=a2x (f:=a7G) (β:=List (List Int)×Unit) c (fun i (a:List (List Int))=>(c,(c.length:Int),(i:Int),a,())) (fun a x=>.inl (a++[x])) (fun i a=>a.length=i) (fun a=>(a,()))
  (fun i hi a ha=>⟨fun a' ha'=>by
   simp only[Sum.inl.injEq]at ha';subst ha';have hr:=(h _ (a09 hi)).1;have hs:∀y:List Int,List.set ([([]:List Int)]:List (List Int)) 0 y=[y]:=fun _=>rfl;refine⟨?_,by simp[ha]⟩;simp only[a7G,dlt hi,cT,a0c hi,oB,a7P (show short c[i]by unfold short;omega),hs];rw[a1u (by simp;omega),cT,a0d (show i<1000000 by omega)];rfl,fun b hb=>by cases hb⟩)
  (fun a ha=>by simp only[a7G,dge,cF]) (a:=[]) rfl
 rw[b6n (fun x:List Int=>[x])]at this;unfold a8h;simp only[nZ]at this;rw[this];simp[b0n]
def a7U(sign g:Int)(x y:Int):Int:=y+sign*(g*x / 256)
def b1q(sign g:Int)(xs ys:List Int):List Int:=List.zipWith (a7U sign g) xs ys
theorem d5A(sign g:Int){xs ys:List Int}(h:xs.length=ys.length):(b1q sign g xs ys).length=ys.length:=by simp[b1q,h]
theorem d5B{y:Int}(hs:sign=1∨sign=-1)(hg:-1024≤g∧g≤1024)(hx:a0b x=true)(hy:a0b y=true):
  wrap .i64 (y+wrap .i64 (sign*a0C .i64 (wrap .i64 (g*x)) 8))=a7U sign g x y:=by
 have hx:=a2j.1 hx;have hy:=a2j.1 hy;have h1:-1099511627776≤g*x∧g*x≤1099511627776:=by
  have h1:g.natAbs≤1024:=by omega
  have h2:x.natAbs≤1073741824:=by omega
  have:=a95 h1 h2
  rw[←Int.natAbs_mul]at this;omega
 rw[a0f (n:=g*x) (by omega)];have h2:a0C .i64 (g*x) 8=g*x / 256:=by
  unfold a0C;show(g*x).fdiv (2^8)=_;rw[a37 _ (by omega)];rfl
 rw[h2];unfold a7U;rcases hs with rfl|rfl;rw[a0f (n:=1*(g*x / 256)) (by omega),a0f (by omega)];rw[a0f (n:=-1*(g*x / 256)) (by omega),a0f (by omega)]
theorem a6N(c:List α)(h:a≠b)(y d:α):(c.set b y).getD a d=c.getD a d:=by
 rw[lD,lD,a75 (Ne.symm h)]
theorem a8J(c:List α)(h:b<c.length)(y d:α):(c.set b y).getD b d=y:=by
 rw[lD,a69 h];rfl
theorem d6s(p:List α)(x:α)(s:List α)(d:α):(p++x::s).getD p.length d=x:=by
 rw[lD];simp
theorem d7h(p:List α)(x y:α)(s:List α):(p++x::s).set p.length y=p++y::s:=by simp
theorem c4z{c:List (List Int)}{s:a0W}{sign:Int}(hsg:sign=1∨sign=-1)(hg:-1024≤s.2.2.1∧s.2.2.1≤1024)(a0:0≤s.1)(b0:0≤s.2.1)(hab:s.1.toNat≠s.2.1.toNat)(hb:s.2.1.toNat<c.length)(hb':s.2.1<(c.length:Int))
  {xs:List Int}(hxs:c.getD s.1.toNat []=xs)(hn:xs.length≤5000):∀(sx suf px pre:List Int),px++sx=xs→px.length=pre.length→sx.length=suf.length→sx.all a0b=true→suf.all a0b=true→
  if(b1q sign s.2.2.1 sx suf).all a0b=true then
   a0h a4B (sign,(xs.length:Int),(pre.length:Int),c.set s.2.1.toNat (pre++suf),s,((s.1.toNat:Nat):Int),())=some (.inl (c.set s.2.1.toNat (pre++b1q sign s.2.2.1 sx suf),()))
  else ∃c',a0h a4B (sign,(xs.length:Int),(pre.length:Int),c.set s.2.1.toNat (pre++suf),s,((s.1.toNat:Nat):Int),())=some (.inr (false,c',()))
 | [],suf,px,pre,hx,hp,hl,_,_=>by
  have e:suf=[]:=a48.1 hl.symm;subst e;have e2:pre.length=xs.length:=by rw[←hx,←hp];simp
  rw[if_pos (by rfl),e2];exact a0o (by simp only[a4B,dge,cF];rfl)
 |x::sx,[],px,pre,_,_,hl,_,_=>by simp at hl
 |x::sx,y::suf,px,pre,hx,hp,hl,hwx,hwy=>by
  simp only[a08,bA]at hwx hwy;have hlt:pre.length<xs.length:=by rw[←hx,←hp];simp
  have h1:(c.set s.2.1.toNat (pre++y::suf)).getD (a35 ((s.1.toNat:Nat):Int)) []=xs:=by rw[tN,a6N _ hab];exact hxs
  have h2:(c.set s.2.1.toNat (pre++y::suf)).getD s.2.1.toNat []=pre++y::suf:=a8J _ hb _ _;have h3:b31 xs (a35 (pre.length:Int)) 0=x:=by rw[tN,←hp,←hx];exact d6s _ _ _ _
  have h4:b31 (pre++y::suf) (a35 (pre.length:Int)) 0=y:=by rw[tN];exact d6s _ _ _ _
  have d0:decide ((0:Int)≤(pre.length:Int))=true:=by simp
  have d1:decide ((pre.length:Int)<(xs.length:Int))=true:=by simp;omega
  have d2:decide ((0:Int)≤s.2.1)=true:=by simpa using b0
  have d3:decide (s.2.1<(((c.set s.2.1.toNat (pre++y::suf)).length:Nat):Int))=true:=by rw[List.length_set];simpa using hb'
  have d4:decide ((pre.length:Int)<(((pre++y::suf).length:Nat):Int))=true:=by simp;omega
  have hv:=d5B hsg hg hwx.1 hwy.1;have hw:wrap .i64 ((pre.length:Int)+1)=((pre.length+1:Nat):Int):=a0d (by omega);have hz:b1q sign s.2.2.1 (x::sx) (y::suf)=a7U sign s.2.2.1 x y::b1q sign s.2.2.1 sx suf:=rfl;have hset:List.set (c.set s.2.1.toNat (pre++y::suf)) s.2.1.toNat (List.set (pre++y::suf) (a35 (pre.length:Int)) (a7U sign s.2.2.1 x y))=c.set s.2.1.toNat ((pre++[a7U sign s.2.2.1 x y])++suf):=by
   rw[tN,List.set_set,d7h];simp
  have hround:a4B (sign,(xs.length:Int),(pre.length:Int),c.set s.2.1.toNat (pre++y::suf),s,((s.1.toNat:Nat):Int),()) =
    bif !(a0b (a7U sign s.2.2.1 x y))then some (.inr (Sum.inr (false,c.set s.2.1.toNat (pre++y::suf),())))
    else some (.inl (sign,(xs.length:Int),((pre.length+1:Nat):Int),c.set s.2.1.toNat ((pre++[a7U sign s.2.2.1 x y])++suf),s,((s.1.toNat:Nat):Int),())):=by
   simp only[a4B,d1,cT,h1,h2,d0,a02,d2,d3,d4,h3,h4,b6o,hv,oB,hw];cases hwv:a0b (a7U sign s.2.2.1 x y);rfl;simp only[bT,cF];rw[hset,tN]
  cases hwv:a0b (a7U sign s.2.2.1 x y)with
  |false=>
   rw[hz,if_neg (by simp[hwv])];rw[hwv]at hround;exact⟨_,a0o hround⟩
  |true=>
   rw[hwv]at hround;have ih:=c4z hsg hg a0 b0 hab hb hb' hxs hn sx suf (px++[x]) (pre++[a7U sign s.2.2.1 x y]) (by simpa using hx) (by simp[hp]) (by simpa using hl) hwx.2 hwy.2;rw[a0q hround,hz];simp only[a08,hwv,a32];rw[show((pre++[a7U sign s.2.2.1 x y]).length)=pre.length+1 from by simp]at ih;split;rename_i hA;rw[if_pos hA]at ih;rw[ih]
   simp
   rename_i hA;rw[if_neg hA]at ih;exact ih
def a4E(sign:Int)(s:a0W)(c:List (List Int)):Option (List (List Int)):=
 let r:=b1q sign s.2.2.1 (c.getD s.1.toNat []) (c.getD s.2.1.toNat [])
 if r.all a0b=true then some (c.set s.2.1.toNat r)else none
theorem a7A{n:Nat}(h:a4t c n)(hi:i<c.length):(c.getD i []).length=n∧(c.getD i []).all a0b=true:=by
 rw[lD,lG hi];exact h _ (a09 hi)
theorem c9f{n:Nat}(hc:a4t c n)(hn:n≤5000){s:a0W}(hs:a2t (c.length:Int) s=true)(hsg:sign=1∨sign=-1):
  ∃b c',a9s (c,s,sign)=some (b,c')∧match a4E sign s c with|some r=>b=true∧c'=r|none=>b=false:=by
 obtain⟨a1,a2,a3,a4,a5,a6,a7⟩:=a3R.1 hs;have hx:=a7A hc (i:=s.1.toNat) (by omega);have hy:=a7A hc (i:=s.2.1.toNat) (by omega);have hb:s.2.1.toNat<c.length:=by omega
 have hset:c.set s.2.1.toNat (c.getD s.2.1.toNat [])=c:=by
  apply b20;intro i
  by_cases hi:s.2.1.toNat=i
  subst hi;rw[a69 hb,lD,lG hb];rfl;rw[a75 hi]
 have:=c4z hsg ⟨a6,a7⟩ a1 a3 (by omega) hb a4 (rfl:c.getD s.1.toNat []=_) (by omega) (c.getD s.1.toNat []) (c.getD s.2.1.toNat []) [] [] rfl rfl (by omega) hx.2 hy.2
 rw[a06,hset]at this;simp only[a19,nZ,a06,a17]at this;have d1:decide ((0:Int)≤s.1)=true:=by simpa using a1
 have d2:decide (s.1<(c.length:Int))=true:=by simpa using a2
 unfold a9s a4E;simp only[d1,d2,a02,cT]
 by_cases hA:(b1q sign s.2.2.1 (c.getD s.1.toNat []) (c.getD s.2.1.toNat [])).all a0b=true
 rw[if_pos hA]at this⊢;refine⟨true,_,?_,rfl,rfl⟩
 erw[this]
 rfl;rw[if_neg hA]at this⊢;obtain⟨c',h⟩:=this;refine⟨false,c',?_,rfl⟩
 erw[h]
 rfl
theorem b5g{c':List (List Int)}{n:Nat}(hc:a4t c n){s:a0W}(hs:a2t (c.length:Int) s=true)(h:a4E sign s c=some c'):a4t c' n∧c'.length=c.length:=by
 obtain⟨a1,a2,a3,a4,a5,a6,a7⟩:=a3R.1 hs;have hx:=a7A hc (i:=s.1.toNat) (by omega);have hy:=a7A hc (i:=s.2.1.toNat) (by omega);unfold a4E at h;simp only at h
 split at h
 rename_i hA;cases h;refine⟨fun r hr=>?_,by simp⟩;rcases List.mem_or_eq_of_mem_set hr with hr|rfl;exact hc r hr;exact⟨by rw[d5A _ _ (by omega)];exact hy.1,hA⟩;cases h
theorem c9g(g:Int):∀xs ys:List Int,xs.length=ys.length→b1q (-1) g xs (b1q 1 g xs ys)=ys
 | [],[],_=>rfl
 |x::xs,y::ys,h=>by
  have ih:=c9g g xs ys (by simpa using h);show a7U (-1) g x (a7U 1 g x y)::b1q (-1) g xs (b1q 1 g xs ys)=_;rw[ih];unfold a7U;congr 1;omega
 | [],_::_,h=>by simp at h
 |_::_,[],h=>by simp at h
theorem d4g{c':List (List Int)}{n:Nat}(hc:a4t c n){s:a0W}(hs:a2t (c.length:Int) s=true)(h:a4E 1 s c=some c'):a4E (-1) s c'=some c:=by
 obtain⟨a1,a2,a3,a4,a5,a6,a7⟩:=a3R.1 hs;have hx:=a7A hc (i:=s.1.toNat) (by omega);have hy:=a7A hc (i:=s.2.1.toNat) (by omega);have hb:s.2.1.toNat<c.length:=by omega
 unfold a4E at h;simp only at h
 split at h
 cases h;unfold a4E;simp only;rw[a6N _ (show s.1.toNat≠s.2.1.toNat by omega),a8J _ hb,c9g _ _ _ (by omega),if_pos hy.2,List.set_set];congr 1;apply b20;intro i
 by_cases hi:s.2.1.toNat=i
 subst hi;rw[a69 hb,lD,lG hb];rfl;rw[a75 hi];cases h
def doO:List a0W→List (List Int)→Option (List (List Int))
 | [],c=>some c
 |s::l,c=>(a4E 1 s c).bind (doO l)
def b2x:List a0W→List (List Int)→Option (List (List Int))
 | [],c=>some c
 |s::l,c=>(b2x l c).bind (a4E (-1) s)
theorem b5p{n:Nat}{N:Nat}:∀(l:List a0W){c c':List (List Int)},a4t c n→c.length=N→l.all (a2t (N:Int))=true→doO l c=some c'→a4t c' n∧c'.length=N
 | [],c,c',hc,hl,_,h=>by cases h;exact⟨hc,hl⟩
 |s::l,c,c',hc,hl,hs,h=>by
  simp only[a08,bA]at hs;simp only[doO,a47]at h;obtain⟨d,h1,h2⟩:=h;obtain⟨k1,k2⟩:=b5g hc (by rw[hl];exact hs.1) h1;exact b5p l k1 (by omega) hs.2 h2
theorem d0F{n:Nat}{N:Nat}:∀(l:List a0W){c c':List (List Int)},a4t c n→c.length=N→l.all (a2t (N:Int))=true→doO l c=some c'→b2x l c'=some c
 | [],c,c',_,_,_,h=>by cases h;rfl
 |s::l,c,c',hc,hl,hs,h=>by
  simp only[a08,bA]at hs;simp only[doO,a47]at h;obtain⟨d,h1,h2⟩:=h;obtain⟨k1,k2⟩:=b5g hc (by rw[hl];exact hs.1) h1;simp only[b2x];rw[d0F l k1 (by omega) hs.2 h2];exact d4g hc (by rw[hl];exact hs.1) h1
end Go.Ab
