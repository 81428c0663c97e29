/- Part of the proof: QK, QN, QO, QP, QQ, QR, QRA, QRB, QRC, QRD, QRE, QRF, QRG, QRH, QRI, QRJ, QS, QT, QU, QUA, QUB, QUC, QUD, QUE, QUF, QUG, QUH, QUI, QUJ, QUK, QV, QW, QX, QY, QZA, QZB, QZC, QZD, QZE, QZF, QZG, QZH, QZI, QZJ, QZK, QZL, QZM, QZN. Conditions: as each statement tells. -/
import Derived.KernelRfl
import Derived.Test.YtimgpmdfgkgobaaGreatDoorME
noncomputable section
set_option linter.unusedSimpArgs false
set_option linter.unusedVariables false
open BitVec renaming ofInt→a04,ofInt_natCast→a34,toNat_ofNat→a37,toNat_ofInt→a38,toNat_or→a56,toNat_and→a76
open Bool renaming and_self→a03,not_false→a18,or_eq_true→a24,not_eq_true'→a28,true_and→a41,eq_false_iff→a74,or_eq_false_iff→a89
open Int renaming eq_ofNat_of_zero_le→a00,cast_ofNat_Int→a09,toNat_of_nonneg→a22,natCast_dvd_natCast→a27,toNat→a29,tmod→a36,fdiv_eq_ediv_of_nonneg→a39,tmod_eq_emod_of_nonneg→a54,dvd_mul_of_dvd_left→a57,mul_nonneg→a60,tdiv→a62,natCast_nonneg→a71,tdiv_eq_ediv_of_nonneg→a73,mul_fdiv_cancel_left→a75,dvd_add_left→a79,mul_comm→a83,dvd_zero→a96,emod_eq_of_lt→a98,sub_mul→b02,fdiv→b07,natCast_mul→b09,natCast_add→b17,natCast_inj→b18
open List renaming replicate→a01,drop_eq_getElem_cons→a02,nil_append→a05,getElem_mem→a06,all_cons→a07,append_eq→a08,length_nil→a16,length_take→a20,length_drop→a21,take_length→a23,drop_zero→a26,getElem?_append_right→a31,append_nil→a40,mem_of_mem_take→a42,mem_of_mem_drop→a43,take_succ_eq_append_getElem→a44,drop_length→a45,length→a46,sum_cons→a50,length_singleton→a52,map_cons→a55,length_eq_zero_iff→a59,flatMap_cons→a61,getElem?_set_self→a63,singleton_append→a64,getElem?_set_ne→a67,mem_cons_self→a70,mem_singleton→a72,cons_append→a78,not_mem_nil→a80,take_of_length_le→a85,eq_nil_or_concat→a87,mem_append_left→a90,mem_replicate→a93,map_nil→a95,take→b00,ext_getElem?→b01,mem_flatMap→b05,foldl_cons→b08,getD→b19,drop→b20
open Nat renaming pow_le_pow_right→a17,two_pow_pos→a19,le_refl→a32,mod_eq_of_lt→a33,mul_le_mul_right→a35,lt_trans→a47,lt_of_le_of_lt→a48,div_le_self→a49,mod_lt→a51,two_pow_add_eq_or_of_lt→a53,pow_succ→a58,div_lt_iff_lt_mul→a65,and_two_pow_sub_one_eq_mod→a66,pow_dvd_pow→a68,testBit_two_pow_mul_add→a69,div_eq_of_lt→a77,mul_comm→a81,add_zero→a82,add_sub_cancel_left→a84,min_eq_left→a86,mul_le_mul→a88,mul_assoc→a91,one_le_two_pow→a92,le_of_lt→a94,or_lt_two_pow→a97,add_mod_right→a99,mul_one→b03,lt_of_not_le→b04,div_add_mod→b06
open Option renaming bind_eq_some_iff→a25,map_eq_some_iff→a30
namespace Go.Ab
open IntKind(wrap)
def a1U(x w:Int):Bool:=decide (1≤w)&&(decide (w≤31)&&(decide (a0A .i64 (-1) (w-1)≤x)&&decide (x≤wrap .i64 (a0A .i64 1 (w-1)-1))))
theorem a7t{x:Int}{w:Nat}(hw:w≤32):a4K (x,(w:Int))=some (a1U x w):=by
 unfold a4K a1U b5u b4j
 by_cases h1:1≤(w:Int)
 by_cases h2:(w:Int)≤31
 have g1:decide ((w:Int)<1)=false:=by simp_all
 have g2:decide ((w:Int) > 31)=false:=by simp_all
 have e:wrap .i64 ((w:Int)-1)=(w:Int)-1:=a0g (by omega);have g3:decide ((w:Int)-1<0)=false:=by simp_all
 have h1':decide ((w:Int)≥1)=true:=by simp_all
 simp[h1,h2,g1,g2,g3,e]
 grind
 grind
 grind
theorem c9S{x:Int}{w:Nat}(hw:w≤32):b3U (x,(w:Int))=some (a1U x w):=by
 unfold b3U a1U c2D c0K
 by_cases h1:1≤(w:Int)
 by_cases h2:(w:Int)≤31
 have g1:decide ((w:Int)<1)=false:=by simp_all
 have g2:decide ((w:Int) > 31)=false:=by simp_all
 have e:wrap .i64 ((w:Int)-1)=(w:Int)-1:=a0g (by omega);have eu:wrap .u64 ((w:Int)-1)=(w:Int)-1:=a0F (by omega);have g3:decide ((w:Int)-1<0)=false:=by simp_all
 have h1':decide ((w:Int)≥1)=true:=by simp_all
 simp only[h1',h1,h2,g1,g2,g3,e,eu,decide_true,cT,cF,oB,a41]
 grind
 grind
 grind
def a2l(x:Int):Nat→Nat→Nat
 |0,w=>w
 |k+1,w=>bif (x != 0)&&!a1U x w then a2l x k (w+1)else w
theorem c2H(x:Int):∀(k w:Nat),a2l x k w≤w+k
 |0,w=>a32 _
 |k+1,w=>by
  simp[a2l];cases (x != 0)&&!a1U x w with
  |true=>have:=c2H x k (w+1);grind
  |false=>simp
def a0l(l:List Int):Nat:=l.foldl (fun w x=>a2l x (32-w) w) 0
theorem b9D:∀(l:List Int)(w:Nat),w≤32→l.foldl (fun w x=>a2l x (32-w) w) w≤32
 | [],w,h=>h
 |x::l,w,h=>b9D l _ (show a2l x (32-w) w≤32 by grind[c2H])
theorem a7z(l:List Int):a0l l≤32:=b9D l 0 (by omega)
theorem c6e{x:Int}{l:List Int}{n i:Int}:∀(k w:Nat),w+k=32→a0h a3J ((w:Int),x,l,n,i,())=some (((a2l x k w:Nat):Int),l,n,i,())
 |0,w,h=>by
  obtain rfl:w=32:=by omega
  simp_all[a0o,a3J,a2l]
 |k+1,w,h=>by
  have h1:decide ((w:Int)<32)=true:=by grind
  simp[a2l];cases hx:(x != 0)with
  |false=>simp_all[a0o,a3J]
  |true=>
   cases hf:a1U x w with
   |true=>exact a0o (by simp only[a3J,hx,h1,a7t (show w≤32 by omega),hf,oB,cT,cF,bT,Bool.and_false])
   |false=>
    rw[a0p (s':=(((w+1:Nat):Int),x,l,n,i,())) (by simp only[a3J,hx,h1,a7t (show w≤32 by omega),hf,oB,cT,a18,a0d (show w<1000000 by omega)])];exact c6e k (w+1) (by omega)
theorem a2Q{l:List Int}(hs:short l):a1C l=some ((a0l l:Nat):Int):=by
 have hs:l.length<1000000:=hs
 have:=a2t (f:=a6P) l (fun i (w:Nat)=>((w:Int),l,(l.length:Int),(i:Int),())) (fun w x=>(.inl (a2l x (32-w) w):Nat ⊕ (Int×Unit))) (fun _ w=>w≤32) (fun w=>((w:Int),()))
  (fun i h w hw=>⟨fun a' ha=>by
   simp at ha;subst ha;refine⟨?_,by grind[c2H]⟩;simp only[a6P,dlt h,cT,a0c h,oB,c6e (32-w) w (by omega),a0d (show i<1000000 by omega)],fun b hb=>(by grind)⟩)
  (fun w _=>by simp[a6P]) (a:=0) (by omega)
 simp at this;unfold a1C;rw[this];have key:∀(l:List Int)(w:Nat),a3D (fun w x=>(.inl (a2l x (32-w) w):Nat ⊕ (Int×Unit))) l w=.inl (l.foldl (fun w x=>a2l x (32-w) w) w):=by
  intro l
  induction l with
  |nil=>intro w;rfl
  |cons x l ih=>simp_all[a3D]
 rw[key];rfl
theorem b2i(x:Int):a8A x=some (a0b x):=by
 grind[a8A,a0b]
def a0y(x:Int):Nat:=if 0≤x then(2*x).toNat else(-2*x-1).toNat
theorem b1h{x:Int}(h:a0b x=true):a0y x<2147483648:=by
 grind[a2h,a0y]
theorem b2j{x:Int}(h:a0b x=true):b0s x=some ((a0y x:Nat):Int):=by
 have hx:=a2h.1 h;unfold b0s a0y;simp only[b2i,h,oB,bT,cF]
 by_cases h0:0≤x
 have h0':decide (x≥0)=true:=by simp_all
 simp only[h0',cT,if_pos h0]
 grind[a0g,a0F]
 have h0':decide (x≥0)=false:=by simp_all
 simp only[h0',cF,if_neg h0]
 grind[a0g,a0F]
theorem a7A{N o:Nat}(h:o≤64):a0D .u64 (N:Int) (o:Int)=((N / 2^o:Nat):Int):=c8u h
theorem b3X{N o:Nat}(h:o≤64)(hs:N*2^o<9223372036854775808):a0A .u64 (N:Int) (o:Int)=((N*2^o:Nat):Int):=by
 unfold a0A;show wrap .u64 ((N:Int)*2^(min (o:Int).toNat 64))=_
 grind[a0F]
theorem c8B{y k:Nat}(hy:y<18446744073709551616)(hk:k≤62):bits .u64 .and (y:Int) (wrap .u64 (a0A .u64 1 (k:Int)-1))=((y%2^k:Nat):Int):=by
 have hp:2^k≤2^62:=a17 (by simp) hk;have hp1:1≤2^k:=a92;have hp2:(2:Nat)^62=4611686018427387904:=by rfl
 have e0:a0A .u64 1 (k:Int)=((2^k:Nat):Int):=by have:=b3X (N:=1) (o:=k) (by omega) (by omega);simp_all
 have e1:wrap .u64 (((2^k:Nat):Int)-1)=((2^k-1:Nat):Int):=by grind[a0F]
 rw[e0,e1];show wrap .u64 (((a04 64 (y:Int)) &&& (a04 64 ((2^k-1:Nat):Int))).toNat:Int)=_;rw[a34,a34,a76,a37,a37,a33 hy,a33 (by omega),a66]
 have:y%2^k<2^k:=a51 _ (by omega)
 exact a0F (by omega)
theorem b5Q{q:Nat}(h:q<2147483648):wrap .i64 (q:Int)=(q:Int):=a0g (by omega)
def a7R(k:Nat)(x:Int)(L:List Int):List Int:=
 if a0y x / 2^k<32 then a0x ((a0y x%2^k:Nat):Int) k (unL (a0y x / 2^k) L)else a0x ((a0y x:Nat):Int) 32 (unL 32 L)
def a4W(k:Nat)(l:List Int)(L:List Int):List Int:=l.foldl (fun L x=>a7R k x L) L
theorem c0N{k:Nat}(hk:k≤25)(x:Int)(L:List Int):L.length≤(a7R k x L).length∧(a7R k x L).length≤L.length+100:=by
 grind[a7R,a0J,b2h]
theorem b9E{k:Nat}(hk:k≤25):∀(l L:List Int),L.length≤(a4W k l L).length∧(a4W k l L).length≤L.length+100*l.length
 | [],L=>by simp[a4W]
 |x::l,L=>by
  have h1:=c0N hk x L;have h2:=b9E hk l (a7R k x L);have e:a4W k (x::l) L=a4W k l (a7R k x L):=rfl
  grind
theorem b0h{k:Nat}(hk:k≤25):a2s (k:Int)=some true:=by
 unfold a2s
 grind
theorem c9T{k:Nat}{l L:List Int}(hk:k≤25)(hl:l.length<10000)(hw:l.all a0b=true)(hL:L.length<900000000):b4D (wL L,(k:Int),l)=some (0,wL (a4W k l L)):=by
 have h0:=a1K (f:=b0L) l (fun i=>((k:Int),l,l,(l.length:Int),(i:Int),wL L,())) (fun _=>true) (bt:=Sum.inl ((k:Int),l,wL L,())) (bf:=Sum.inl ((k:Int),l,wL L,()))
  (fun i h _=>by
   have:=lA.1 hw _ (a06 h)
   simp only[b0L,dlt h,cT,a0c h,oB,b2i,this,bT,cF,a0d (show i<1000000 by omega)])
  (fun i h hp=>by simp_all) (by simp[b0L])
 have key:∀(j i:Nat)(L':List Int),i+j=l.length→L'.length+100*j<999990000→a0h a8h ((k:Int),l,(l.length:Int),(i:Int),wL L',())=some (wL (a4W k (l.drop i) L'),()):=by
  intro j
  induction j with
  |zero=>
   intro i L' hi _;obtain rfl:i=l.length:=by omega
   simp_all[a0o,a8h,a4W]
  |succ j ih=>
   intro i L' hi hb;have hlt:i<l.length:=by omega
   have hwi:=lA.1 hw _ (a06 hlt);have hy:=b1h hwi;have hrl:=c0N hk l[i] L';have hk0:decide ((k:Int)<0)=false:=by simp
   have eq:a0D .u64 ((a0y l[i]:Nat):Int) (k:Int)=((a0y l[i] / 2^k:Nat):Int):=a7A (by omega);have hql:=a49 (a0y l[i]) (2^k);have hmod:=b06 (a0y l[i]) (2^k);have emul:a0A .u64 ((a0y l[i] / 2^k:Nat):Int) (k:Int)=((a0y l[i] / 2^k*2^k:Nat):Int):=b3X (by omega) (by grind);have em:wrap .u64 (((a0y l[i]:Nat):Int)-((a0y l[i] / 2^k*2^k:Nat):Int))=((a0y l[i]%2^k:Nat):Int):=by
    rw[a81 (a0y l[i] / 2^k)]
    grind[a0F]
   have ew:wrap .i64 ((a0y l[i] / 2^k:Nat):Int)=((a0y l[i] / 2^k:Nat):Int):=b5Q (a48 hql hy);rw[a02 hlt,a0p (s':=((k:Int),l,(l.length:Int),((i+1:Nat):Int),wL (a7R k l[i] L'),())) (by
    by_cases hq:a0y l[i] / 2^k<32
    have hd:decide (((a0y l[i] / 2^k:Nat):Int)<32)=true:=decide_eq_true (by omega);have hu:(unL (a0y l[i] / 2^k) L').length<999999000:=by
     rw[b2h];omega
    have hun:=c8A (L:=L') (n:=a0y l[i] / 2^k) (a94 (a47 hq (by simp))) (by omega);have hp:=a4b (L:=unL (a0y l[i] / 2^k) L') (v:=((a0y l[i]%2^k:Nat):Int)) (n:=k) (by omega) hu;simp only[a8h,dlt hlt,cT,a0c hlt,oB,b2j hwi,hk0,cF,eq,hd,ew,hun,emul,em,hp,a7R,if_pos hq,a0d (show i<1000000 by omega)];have hd:decide (((a0y l[i] / 2^k:Nat):Int)<32)=false:=decide_eq_false (by omega);have hu:=b2h 32 L';have hun:a2U (wL L',(32:Int))=some (0,wL (unL 32 L')):=c8A (L:=L') (n:=32) (by omega) (by omega);have hp:a0m (wL (unL 32 L'),((a0y l[i]:Nat):Int),(32:Int))=some (a9t ((a0y l[i]:Nat):Int) 32,wL (a0x ((a0y l[i]:Nat):Int) 32 (unL 32 L'))):=a4b (L:=unL 32 L') (v:=((a0y l[i]:Nat):Int)) (n:=32) (by omega) (by omega);simp only[a8h,dlt hlt,cT,a0c hlt,oB,b2j hwi,hk0,cF,eq,hd,hun,hp,a7R,if_neg hq,a0d (show i<1000000 by omega)])]
   exact ih (i+1) _ (by omega) (by omega)
 have h1:=key l.length 0 L (by omega) (by omega);simp_all[b4D,b0h]
end Go.Ab
namespace Go.Ab
open IntKind(wrap)
def a1r(zn:List Nat):List Int:=zn.map fun(a:Nat)=>(a:Int)
theorem c6T(n M:Nat):(a01 n M).sum=n*M:=by
 induction n with
 |zero=>simp
 |succ n ih=>rw[List.replicate_succ,a50,ih,Nat.succ_mul,Nat.add_comm]
theorem b7l{o n warm:Int}(h:(a2k o n warm).length≠0):∃zn:List Nat,a2k o n warm=a1r zn∧(zn.sum:Int)=n-warm∧zn.length≤256:=by
 unfold a2k at h⊢;cases hr:(a7r n warm&&(decide (0≤o)&&decide (o≤8)))with
 |false=>rw[hr]at h;simp at h
 |true=>
  rw[hr]at h;simp only[cT]at h⊢;simp only[a7r,bA,dT]at hr;unfold b7V at h⊢
  split at h
  rename_i hc;rw[if_pos hc];obtain⟨O,rfl⟩:=a00 hr.2.1;obtain⟨N,rfl⟩:=a00 (show 0≤n by omega);obtain⟨w,rfl⟩:=a00 (show 0≤warm by omega);simp only[tN]at hc⊢;have hp:=d7P (o:=O) (by omega);have hm:=b06 N (2^O);rw[hc.1,a82]at hm;have hw:w≤N / 2^O:=by have:=hc.2;omega
  generalize N / 2^O=M at hc hw hm⊢;generalize 2^O=P at hp hm⊢;refine⟨(M-w)::a01 (P-1) M,?_,?_,?_⟩;simp only[a1r,a55,List.map_replicate];congr 1;omega;rw[a50,c6T];obtain⟨q,rfl⟩:∃q,P=q+1:=⟨P-1,by omega⟩;rw[Nat.add_sub_cancel];rw[Nat.succ_mul]at hm;omega
  simp;omega
  exact absurd rfl h
def b0T(k:Int)(part L:List Int):List Int:=
 if k=31 then a1O (a0l part) part (a0x ((a0l part:Nat):Int) 5 (a0x (wrap .u64 k) 5 L))else a4W k.toNat part (a0x (wrap .u64 k) 5 L)
def a4A:List Nat→List Int→List Int→List Int→List Int
 |z::zs,k::ks,l,L=>a4A zs ks (l.drop z) (b0T k (l.take z) L)
 |_,_,_,L=>L
theorem c0O{k:Int}(hk:kB k=true)(part L:List Int):L.length≤(b0T k part L).length∧(b0T k part L).length≤L.length+10+100*part.length:=by
 unfold b0T;have h1:=a0J (wrap .u64 k) 5 L;split;have h2:=a0J ((a0l part:Nat):Int) 5 (a0x (wrap .u64 k) 5 L);have h3:=a7s (a0l part) part (a0x ((a0l part:Nat):Int) 5 (a0x (wrap .u64 k) 5 L));have hw:=a7z part
 have:a0l part*part.length≤32*part.length:=a35 _ hw
 omega;rename_i hne;simp only[kB,a24,bA,dT,beq_iff_eq]at hk;have h3:=b9E (k:=k.toNat) (by omega) part (a0x (wrap .u64 k) 5 L);omega
theorem a9u{zn:List Nat}{i:Nat}(h:i<zn.length):b19 (a1r zn) i 0=((zn[i]:Nat):Int):=by
 rw[b8G (by simpa[a1r]using h)];simp[a1r]
theorem a1G(zn:List Nat):(a1r zn).length=zn.length:=by simp[a1r]
theorem b8K{zn:List Nat}{i:Nat}(h:i<zn.length):(zn.drop i).sum=zn[i]+(zn.drop (i+1)).sum:=by
 rw[a02 h,a50]
theorem c8C{part rest:List Int}{wd:Nat}{a b:Int}{z:List Int}{p:Prt}(hw:wd≤32)(hp:part.length<10000):∀(j i:Nat)(L:List Int),i+j=part.length→L.length+64*j<999990000→
  a0h a9J (rest,(wd:Int),a,b,part,(part.length:Int),(i:Int),z,wL L,p,())=some (rest,a,b,z,wL (a1O wd (part.drop i) L),p,())
 |0,i,L,hi,_=>by
  obtain rfl:i=part.length:=by omega
  rw[a45];exact a0o (by simp[a9J,a1O])
 |j+1,i,L,hi,hb=>by
  have hlt:i<part.length:=by omega
  have h2:decide ((wd:Int)<0)=false:=by simp
  have hpl:=a0J (a0G part[i] wd) wd L;rw[a02 hlt,a0p (s':=(rest,(wd:Int),a,b,part,(part.length:Int),((i+1:Nat):Int),z,wL (a0x (a0G part[i] wd) wd L),p,())) (by
   simp only[a9J,dlt hlt,cT,a0c hlt,oB,h2,cF,show bits .u64 .and (wrap .u64 part[i]) (wrap .u64 ((a0A .u64 1 (wd:Int))-1))=a0G part[i] wd from rfl,a4b (show wd≤63 by omega) (show L.length<999999000 by omega),a0d (show i<1000000 by omega)])]
  exact c8C hw hp j (i+1) _ (by omega) (by omega)
theorem b7Z{zn:List Nat}{p:Prt}(hk:p.2.1.length=zn.length)(hall:p.2.1.all kB=true)(hz:zn.length≤256):∀(j i:Nat)(l L:List Int),i+j=zn.length→(zn.drop i).sum=l.length→l.all a0b=true→l.length≤5000→L.length+10*j+100*l.length<800000000→
  a0h a5u (l,(zn.length:Int),(i:Int),a1r zn,wL L,p,())=some (wL (a4A (zn.drop i) (p.2.1.drop i) l L),())
 |0,i,l,L,hi,_,_,_,_=>by
  obtain rfl:i=zn.length:=by omega
  rw[a45];exact a0o (by simp[a5u,a4A])
 |j+1,i,l,L,hi,hsum,hw,hl5,hb=>by
  have hlt:i<zn.length:=by omega
  have hki:i<p.2.1.length:=by omega
  have hkb:=lA.1 hall _ (a06 hki);rw[b8K hlt]at hsum;have h0:decide ((0:Int)≤(i:Int))=true:=by simp
  have h1:decide ((i:Int)<(((a1r zn).length:Nat):Int))=true:=by rw[a1G];simp;omega
  have h2:decide ((0:Int)≤((zn[i]:Nat):Int))=true:=by simp
  have h3:decide (((zn[i]:Nat):Int)≤((l.length:Nat):Int))=true:=by simp;omega
  have hpart:(l.take zn[i]).length=zn[i]:=by rw[a20];omega
  have hrest:(l.drop zn[i]).length=(zn.drop (i+1)).sum:=by rw[a21];omega
  have hwp:(l.take zn[i]).all a0b=true:=lA.2 fun x hx=>lA.1 hw x (a42 hx);have hwr:(l.drop zn[i]).all a0b=true:=lA.2 fun x hx=>lA.1 hw x (a43 hx);have hpl:=c0O hkb (l.take zn[i]) L;have hp1:=a0J (wrap .u64 p.2.1[i]) 5 L;have hput:a0m (wL L,wrap .u64 p.2.1[i],(5:Int))=some (a9t (wrap .u64 p.2.1[i]) 5,wL (a0x (wrap .u64 p.2.1[i]) 5 L)):=a4b (n:=5) (by omega) (by omega);have ed:zn.drop i=zn[i]::zn.drop (i+1):=a02 hlt;have ek:p.2.1.drop i=p.2.1[i]::p.2.1.drop (i+1):=a02 hki;rw[ed,ek,a4A];have goal:a5u (l,(zn.length:Int),(i:Int),a1r zn,wL L,p,())=some (.inl (l.drop zn[i],(zn.length:Int),((i+1:Nat):Int),a1r zn,wL (b0T p.2.1[i] (l.take zn[i]) L),p,())):=by
   by_cases h31:p.2.1[i]=31
   have hne:(p.2.1[i] != 31)=false:=by rw[h31];rfl
   have hwd:=a7z (l.take zn[i]);have hsw:=a2Q (l:=l.take zn[i]) (by unfold short;omega);have hp2:=a0J ((a0l (l.take zn[i]):Nat):Int) 5 (a0x (wrap .u64 p.2.1[i]) 5 L);have ew:wrap .u64 ((a0l (l.take zn[i]):Nat):Int)=((a0l (l.take zn[i]):Nat):Int):=a0F (by omega);have hput2:a0m (wL (a0x (wrap .u64 p.2.1[i]) 5 L),((a0l (l.take zn[i]):Nat):Int),(5:Int))=some (a9t ((a0l (l.take zn[i]):Nat):Int) 5,wL (a0x ((a0l (l.take zn[i]):Nat):Int) 5 (a0x (wrap .u64 p.2.1[i]) 5 L))):=a4b (n:=5) (by omega) (by omega);have hraw:=c8C (part:=l.take zn[i]) (rest:=l.drop zn[i]) (a:=(zn.length:Int)) (b:=(i:Int)) (z:=a1r zn) (p:=p) hwd (by omega) (l.take zn[i]).length 0 (a0x ((a0l (l.take zn[i]):Nat):Int) 5 (a0x (wrap .u64 p.2.1[i]) 5 L)) (by omega) (by omega);simp only[nZ,a26]at hraw;simp only[a5u,dlt hlt,h0,h1,a9u hlt,h2,h3,cT,a03,tN,a0c hki,oB,hput,hne,cF,hsw,ew,hput2,a23,hraw,a0d (show i<1000000 by omega),b0T,if_pos h31];have hne:(p.2.1[i] != 31)=true:=by simp[h31]
   simp only[kB,a24,bA,dT,beq_iff_eq]at hkb;obtain⟨K,hK⟩:=a00 (show 0≤p.2.1[i]by omega);have hrice:=c9T (k:=K) (l:=l.take zn[i]) (L:=a0x (wrap .u64 p.2.1[i]) 5 L) (by omega) (by omega) hwp (by omega);rw[←hK]at hrice;have eK:K=p.2.1[i].toNat:=by rw[hK,tN]
   simp only[a5u,dlt hlt,h0,h1,a9u hlt,h2,h3,cT,a03,tN,a0c hki,oB,hput,hne,hrice,a23,a0d (show i<1000000 by omega),b0T,if_neg h31,eK]
  rw[a0p goal];exact b7Z hk hall hz j (i+1) (l.drop zn[i]) _ (by omega) hrest.symm hwr (by rw[a21];omega) (by rw[a21];omega)
end Go.Ab
namespace Go.Ab
open IntKind(wrap)
theorem c5n{k:Nat}(hk:k≤25){x:Int}(hw:a0b x=true):∃c,a8B ((k:Int),x)=some c∧0≤c∧c≤65:=by
 have hy:=b1h hw;have eq:a0D .u64 ((a0y x:Nat):Int) (k:Int)=((a0y x / 2^k:Nat):Int):=a7A (by omega);have ew:wrap .i64 ((a0y x / 2^k:Nat):Int)=((a0y x / 2^k:Nat):Int):=b5Q (a48 (a49 _ _) hy);have hk0:decide ((k:Int)<0)=false:=by simp
 unfold a8B;simp only[b0h hk,b2i,hw,oB,bT,cF,b2j hw,hk0,eq,ew];generalize a0y x / 2^k=q
 by_cases hq:q<32
 have hd:decide ((q:Int)<32)=true:=decide_eq_true (by omega);refine⟨(q:Int)+1+k,?_,by omega,by omega⟩;simp only[hd,cT]
 grind[a0g]
 grind
theorem c6U{k:Nat}(hk:k≤25){l:List Int}(hw:l.all a0b=true)(hl:l.length<10000):∃c,a4m ((k:Int),l)=some c∧0≤c∧c≤65*l.length:=by
 have key:∀(j i:Nat)(c:Int),i+j=l.length→0≤c→c≤65*i→∃c',a0h a4L ((k:Int),c,l,(l.length:Int),(i:Int),())=some (c',())∧0≤c'∧c'≤65*l.length:=by
  intro j
  induction j with
  |zero=>
   intro i c hi h0 h1;obtain rfl:i=l.length:=by omega
   simp_all[a0o,a4L]
  |succ j ih=>
   intro i c hi h0 h1;have hlt:i<l.length:=by omega
   obtain⟨d,hd,hd0,hd1⟩:=c5n hk (lA.1 hw _ (a06 hlt));have e:wrap .i64 (c+d)=c+d:=a0g (by omega);rw[a0p (s':=((k:Int),c+d,l,(l.length:Int),((i+1:Nat):Int),())) (by simp only[a4L,dlt hlt,cT,a0c hlt,oB,hd,e,a0d (show i<1000000 by omega)])];exact ih (i+1) _ (by omega) (by omega) (by omega)
 obtain⟨c,h1,h2,h3⟩:=key l.length 0 0 (by omega) (by omega) (by omega);simp_all[a4m]
theorem d3B{w n:Nat}(hw:w≤32)(hn:n<10000):0≤(w:Int)*(n:Int)∧(w:Int)*(n:Int)≤32*n:=by
 have h:w*n≤32*n:=a35 _ hw;omega
theorem c5o{l:List Int}(hl:l.length<10000):∃c,a6J l=some c∧0≤c∧c≤5+32*l.length:=by
 have hm:=d3B (a7z l) hl;refine⟨5+((a0l l:Nat):Int)*((l.length:Nat):Int),?_,by omega,by omega⟩;unfold a6J;simp only[a2Q (show short l by unfold short;omega),oB]
 grind[a0g]
theorem b6B{zn:List Nat}{p:Prt}(hk:p.2.1.length=zn.length)(hall:p.2.1.all kB=true)(hz:zn.length≤256):∀(j i:Nat)(l:List Int)(c:Int),i+j=zn.length→(zn.drop i).sum=l.length→l.all a0b=true→l.length≤5000→4≤c→c+10*j+65*l.length<1000000→
  ∃c',a0h a1F (l,c,(zn.length:Int),(i:Int),a1r zn,p,())=some (c',())∧4≤c'
 |0,i,l,c,hi,_,_,_,hc,_=>by
  obtain rfl:i=zn.length:=by omega
  simp_all[a0o,a1F]
 |j+1,i,l,c,hi,hsum,hw,hl5,hc,hb=>by
  have hlt:i<zn.length:=by omega
  have hki:i<p.2.1.length:=by omega
  have hkb:=lA.1 hall _ (a06 hki);rw[b8K hlt]at hsum;have h0:decide ((0:Int)≤(i:Int))=true:=by simp
  have h1:decide ((i:Int)<(((a1r zn).length:Nat):Int))=true:=by simp_all[a1G]
  have h2:decide ((0:Int)≤((zn[i]:Nat):Int))=true:=by simp
  have h3:decide (((zn[i]:Nat):Int)≤((l.length:Nat):Int))=true:=by grind
  have hpart:(l.take zn[i]).length=zn[i]:=by simp_all
  have hrest:(l.drop zn[i]).length=(zn.drop (i+1)).sum:=by grind
  have hwp:(l.take zn[i]).all a0b=true:=lA.2 fun x hx=>lA.1 hw x (a42 hx);have hwr:(l.drop zn[i]).all a0b=true:=lA.2 fun x hx=>lA.1 hw x (a43 hx);have goal:∃d,a1F (l,c,(zn.length:Int),(i:Int),a1r zn,p,())=some (.inl (l.drop zn[i],c+d,(zn.length:Int),((i+1:Nat):Int),a1r zn,p,()))∧0≤d∧d≤10+65*zn[i]:=by
   by_cases h31:p.2.1[i]=31
   have hne:(p.2.1[i]==31)=true:=by simp_all
   obtain⟨r,hr,hr0,hr1⟩:=c5o (l:=l.take zn[i]) (by omega);have e1:wrap .i64 (5+r)=5+r:=a0g (by omega);have e2:wrap .i64 (c+(5+r))=c+(5+r):=a0g (by omega);refine⟨5+r,?_,by omega,by omega⟩;simp only[a1F,dlt hlt,h0,h1,a9u hlt,h2,h3,cT,a03,tN,a0c hki,oB,hne,hr,e1,e2,a23,a0d (show i<1000000 by omega)];have hne:(p.2.1[i]==31)=false:=by simp_all
   simp[kB]at hkb;obtain⟨K,hK⟩:=a00 (show 0≤p.2.1[i]by omega);obtain⟨r,hr,hr0,hr1⟩:=c6U (k:=K) (by omega) hwp (by omega);rw[←hK]at hr;have e1:wrap .i64 (5+r)=5+r:=a0g (by omega);have e2:wrap .i64 (c+(5+r))=c+(5+r):=a0g (by omega);refine⟨5+r,?_,by omega,by omega⟩;simp only[a1F,dlt hlt,h0,h1,a9u hlt,h2,h3,cT,cF,a03,tN,a0c hki,oB,hne,hr,e1,e2,a23,a0d (show i<1000000 by omega)]
  obtain⟨d,hd,hd0,hd1⟩:=goal;rw[a0p hd];exact b6B hk hall hz j (i+1) (l.drop zn[i]) _ (by omega) hrest.symm hwr (by omega) (by omega) (by omega)
structure PartsOk (p:Prt) (n warm:Int) (l:List Int) (zn:List Nat):Prop where
 may:a6B p n warm=true
 sizes:a2k p.1 n warm=a1r zn
 sum:zn.sum=l.length
 len:zn.length≤256
 ks:p.2.1.length=zn.length
 all:p.2.1.all kB=true
 wide:l.all a0b=true
 short:l.length≤5000
 row:a7r n warm=true
 rest:(l.length:Int)=n-warm
 order:0≤p.1∧p.1≤8
theorem PartsOk.of{p:Prt}{n warm:Int}{l:List Int}(h:a6B p n warm=true)(hl:(l.length:Int)=n-warm)(hw:l.all a0b=true)(h5:l.length≤5000):∃zn,PartsOk p n warm l zn:=by
 have h':=h;simp only[a6B,bA,a28,beq_eq_false_iff_ne,ne_eq,beq_iff_eq]at h';obtain⟨h1,h2,h3⟩:=h';obtain⟨zn,g1,g2,g3⟩:=b7l h1;have hr:a7r n warm=true∧0≤p.1∧p.1≤8:=by
  grind[a2k]
 exact⟨zn,h,g1,by omega,g3,by simp_all[a1G],h3,hw,h5,hr.1,hl,hr.2⟩
theorem b2O{n warm:Int}{l:List Int}(hr:a7r n warm=true)(hl:(l.length:Int)=n-warm)(hw:l.all a0b=true)(h5:l.length≤5000):a8g (n,warm,l)=some true:=by
 have e:wrap .i64 (n-warm)=n-warm:=by
  simp[a7r]at hr;exact a0g (by omega)
 have h1:(((l.length:Nat):Int) != n-warm)=false:=by simp_all
 have e2:b5v=a3c:=rfl;have hs:short l:=by unfold short;omega
 have ha:=a5v hs;simp_all[a2w,a8g,b5L]
theorem c3V{p:Prt}{n warm:Int}{l:List Int}{zn:List Nat}(h:PartsOk p n warm l zn):∃c,a5B (p,n,warm,l)=some c∧4≤c:=by
 have hk:Go.Ab.short p.2.1:=by have:=h.ks;have:=h.len;unfold Go.Ab.short;omega
 have h5:=h.short;have hz:=h.len;obtain⟨c,h1,h2⟩:=b6B h.ks h.all h.len zn.length 0 l 4 (by omega) (by rw[a26];exact h.sum) h.wide h.short (by omega) (by omega);simp at h1;refine⟨c,?_,h2⟩;unfold a5B;simp only[b5M hk,h.may,b2O h.row h.rest h.wide h.short,oB,bT,cF,a2B,h.sizes,a1G,h1]
def a5h(p:Prt)(zn:List Nat)(l L:List Int):List Int:=a4A zn p.2.1 l (a0x (wrap .u64 p.1) 4 L)
theorem c8D{p:Prt}{n warm:Int}{l L:List Int}{zn:List Nat}(h:PartsOk p n warm l zn)(hL:L.length<700000000):b3k (wL L,p,n,warm,l)=some (0,wL (a5h p zn l L)):=by
 have h5:=h.short;have hz:=h.len;obtain⟨c,hc,hc4⟩:=c3V h;have hne:(c==0)=false:=by grind
 have hpl:=a0J (wrap .u64 p.1) 4 L;have hput:a0m (wL L,wrap .u64 p.1,(4:Int))=some (a9t (wrap .u64 p.1) 4,wL (a0x (wrap .u64 p.1) 4 L)):=a4b (n:=4) (by omega) (by omega);have hloop:=b7Z h.ks h.all h.len zn.length 0 l (a0x (wrap .u64 p.1) 4 L) (by omega) (by rw[a26];exact h.sum) h.wide h.short (by omega);simp at hloop;unfold b3k;simp only[hc,oB,hne,cF,hput,a2B,h.sizes,a1G,hloop,a5h]
end Go.Ab
namespace Go.Ab
open IntKind(wrap)
theorem c3W{c:List Int}{wd:Nat}(hw:wd≤32)(hc:c.length<10000):∀(j i:Nat)(L:List Int),i+j=c.length→L.length+64*j<999990000→
  a0h a6R ((wd:Int),c,(c.length:Int),(i:Int),wL L,())=some (wL (a1O wd (c.drop i) L),())
 |0,i,L,hi,_=>by
  obtain rfl:i=c.length:=by omega
  simp_all[a0o,a6R,a1O]
 |j+1,i,L,hi,hb=>by
  have hlt:i<c.length:=by omega
  have hpl:=a0J (a0G c[i] wd) wd L;rw[a02 hlt,a0p (s':=((wd:Int),c,(c.length:Int),((i+1:Nat):Int),wL (a0x (a0G c[i] wd) wd L),())) (by
   simp only[a6R,dlt hlt,cT,a0c hlt,oB,b5P (show wd≤63 by omega) (show L.length<999999000 by omega),a0d (show i<1000000 by omega)])]
  exact c3W hw hc j (i+1) _ (by omega) (by omega)
theorem c6f{t:List Int}{n wd:Int}{s:Sub}(ht:t.length=3):∀(j i:Nat)(L:List Int),i+j=3→L.length+64*j<999990000→
  a0h b1T (n,wd,t,(i:Int),wL L,s,())=some (n,wd,wL (a1O 8 (t.drop i) L),s,())
 |0,i,L,hi,_=>by
  obtain rfl:i=t.length:=by omega
  grind[a0o,b1T,a1O]
 |j+1,i,L,hi,hb=>by
  have hlt:i<t.length:=by omega
  have h3:decide ((i:Int)<3)=true:=by grind
  have hpl:=a0J (a0G t[i] 8) 8 L;have hps:a3x (wL L,t[i],(8:Int))=some (wL (a0x (a0G t[i] 8) 8 L)):=b5P (n:=8) (by omega) (by omega);rw[a02 hlt,a0p (s':=(n,wd,t,((i+1:Nat):Int),wL (a0x (a0G t[i] 8) 8 L),s,())) (by
   simp only[b1T,h3,cT,a0c hlt,oB,hps,a0d (show i<1000000 by omega)])]
  exact c6f ht j (i+1) _ (by omega) (by omega)
theorem c6g{l:List Int}{n:Int}{wd:Nat}{s:Sub}(hw:wd≤32)(hl:l.length<10000):∀(j i:Nat)(L:List Int),i+j=l.length→L.length+64*j<999990000→
  a0h b1V (n,(wd:Int),l,(l.length:Int),(i:Int),wL L,s,())=some (n,wL (a1O wd (l.drop i) L),s,())
 |0,i,L,hi,_=>by
  obtain rfl:i=l.length:=by omega
  simp_all[a0o,b1V,a1O]
 |j+1,i,L,hi,hb=>by
  have hlt:i<l.length:=by omega
  have hpl:=a0J (a0G l[i] wd) wd L;rw[a02 hlt,a0p (s':=(n,(wd:Int),l,(l.length:Int),((i+1:Nat):Int),wL (a0x (a0G l[i] wd) wd L),s,())) (by
   simp only[b1V,dlt hlt,cT,a0c hlt,oB,b5P (show wd≤63 by omega) (show L.length<999999000 by omega),a0d (show i<1000000 by omega)])]
  exact c6g hw hl j (i+1) _ (by omega) (by omega)
def a7u(s:Stg)(L:List Int):List Int:=a0x (wrap .u64 s.2.1) 4 (a0x (wrap .u64 (wrap .i64 (s.1-1))) 5 L)
def a3M(st:List Stg)(L:List Int):List Int:=st.foldl (fun L s=>a7u s L) L
theorem b9F(s:Stg)(L:List Int):(a7u s L).length≤L.length+9:=by
 grind[a0J,a7u]
theorem b8a:∀(st:List Stg)(L:List Int),(a3M st L).length≤L.length+9*st.length
 | [],L=>by simp[a3M]
 |s::st,L=>by
  have h1:=b9F s L;have h2:=b8a st (a7u s L);have e:a3M (s::st) L=a3M st (a7u s L):=rfl
  grind
theorem c2a{st:List Stg}{n wd:Int}{s:Sub}(hs:st.length<10000):∀(j i:Nat)(L:List Int),i+j=st.length→L.length+64*j<999990000→
  a0h b1U (n,wd,st,(st.length:Int),(i:Int),wL L,s,())=some (n,wd,wL (a3M (st.drop i) L),s,())
 |0,i,L,hi,_=>by
  obtain rfl:i=st.length:=by omega
  simp_all[a0o,b1U,a3M]
 |j+1,i,L,hi,hb=>by
  have hlt:i<st.length:=by omega
  have hp1:=a0J (wrap .u64 (wrap .i64 (st[i].1-1))) 5 L;have hsl:=b9F st[i] L;have h1:a0m (wL L,wrap .u64 (wrap .i64 (st[i].1-1)),(5:Int))=some (a9t (wrap .u64 (wrap .i64 (st[i].1-1))) 5,wL (a0x (wrap .u64 (wrap .i64 (st[i].1-1))) 5 L)):=a4b (n:=5) (by omega) (by omega);have h2:a0m (wL (a0x (wrap .u64 (wrap .i64 (st[i].1-1))) 5 L),wrap .u64 st[i].2.1,(4:Int))=some (a9t (wrap .u64 st[i].2.1) 4,wL (a7u st[i] L)):=a4b (n:=4) (by omega) (by omega);rw[a02 hlt,a0p (s':=(n,wd,st,(st.length:Int),((i+1:Nat):Int),wL (a7u st[i] L),s,())) (by
   simp only[b1U,dlt hlt,cT,a0c hlt,oB,h1,h2,a0d (show i<1000000 by omega)])]
  exact c2a hs j (i+1) _ (by omega) (by omega)
def a7v(s:Sub)(L:List Int):List Int:=
 a1O (a0l s.2.2.2.2.2.1) s.2.2.2.2.2.1 (a0x ((a0l s.2.2.2.2.2.1:Nat):Int) 5 (a0x (wrap .u64 s.2.2.2.1) 4 (a0x (wrap .u64 (wrap .i64 (((s.2.2.2.2.2.1.length:Nat):Int)-1))) 5 L)))
theorem c6V{s:Sub}(h:s.2.2.2.2.2.1.length≤40)(L:List Int):(a7v s L).length≤L.length+2000:=by
 unfold a7v;have h1:=a0J (wrap .u64 (wrap .i64 (((s.2.2.2.2.2.1.length:Nat):Int)-1))) 5 L;have h2:=a0J (wrap .u64 s.2.2.2.1) 4 (a0x (wrap .u64 (wrap .i64 (((s.2.2.2.2.2.1.length:Nat):Int)-1))) 5 L);have h3:=a0J ((a0l s.2.2.2.2.2.1:Nat):Int) 5 (a0x (wrap .u64 s.2.2.2.1) 4 (a0x (wrap .u64 (wrap .i64 (((s.2.2.2.2.2.1.length:Nat):Int)-1))) 5 L));have h4:=a7s (a0l s.2.2.2.2.2.1) s.2.2.2.2.2.1 (a0x ((a0l s.2.2.2.2.2.1:Nat):Int) 5 (a0x (wrap .u64 s.2.2.2.1) 4 (a0x (wrap .u64 (wrap .i64 (((s.2.2.2.2.2.1.length:Nat):Int)-1))) 5 L)));have hw:=a7z s.2.2.2.2.2.1
 have:a0l s.2.2.2.2.2.1*s.2.2.2.2.2.1.length≤32*40:=a88 hw h
 omega
theorem c2b{s:Sub}(h:s.2.2.2.2.2.1.length≤40){L:List Int}(hL:L.length<900000000):a9I (wL L,s)=some (wL (a7v s L)):=by
 have h1:=a0J (wrap .u64 (wrap .i64 (((s.2.2.2.2.2.1.length:Nat):Int)-1))) 5 L;have h2:=a0J (wrap .u64 s.2.2.2.1) 4 (a0x (wrap .u64 (wrap .i64 (((s.2.2.2.2.2.1.length:Nat):Int)-1))) 5 L);have h3:=a0J ((a0l s.2.2.2.2.2.1:Nat):Int) 5 (a0x (wrap .u64 s.2.2.2.1) 4 (a0x (wrap .u64 (wrap .i64 (((s.2.2.2.2.2.1.length:Nat):Int)-1))) 5 L));have hw:=a7z s.2.2.2.2.2.1;have ew:wrap .u64 ((a0l s.2.2.2.2.2.1:Nat):Int)=((a0l s.2.2.2.2.2.1:Nat):Int):=a0F (by omega);have p1:a0m (wL L,wrap .u64 (wrap .i64 (((s.2.2.2.2.2.1.length:Nat):Int)-1)),(5:Int))=some (a9t (wrap .u64 (wrap .i64 (((s.2.2.2.2.2.1.length:Nat):Int)-1))) 5,wL (a0x (wrap .u64 (wrap .i64 (((s.2.2.2.2.2.1.length:Nat):Int)-1))) 5 L)):=a4b (n:=5) (by omega) (by omega);have p2:a0m (wL (a0x (wrap .u64 (wrap .i64 (((s.2.2.2.2.2.1.length:Nat):Int)-1))) 5 L),wrap .u64 s.2.2.2.1,(4:Int))=some (a9t (wrap .u64 s.2.2.2.1) 4,wL (a0x (wrap .u64 s.2.2.2.1) 4 (a0x (wrap .u64 (wrap .i64 (((s.2.2.2.2.2.1.length:Nat):Int)-1))) 5 L))):=a4b (n:=4) (by omega) (by omega);have p3:a0m (wL (a0x (wrap .u64 s.2.2.2.1) 4 (a0x (wrap .u64 (wrap .i64 (((s.2.2.2.2.2.1.length:Nat):Int)-1))) 5 L)),((a0l s.2.2.2.2.2.1:Nat):Int),(5:Int))=some (a9t ((a0l s.2.2.2.2.2.1:Nat):Int) 5,wL (a0x ((a0l s.2.2.2.2.2.1:Nat):Int) 5 (a0x (wrap .u64 s.2.2.2.1) 4 (a0x (wrap .u64 (wrap .i64 (((s.2.2.2.2.2.1.length:Nat):Int)-1))) 5 L)))):=a4b (n:=5) (by omega) (by omega);have hlp:=c3W (c:=s.2.2.2.2.2.1) hw (by omega) s.2.2.2.2.2.1.length 0 (a0x ((a0l s.2.2.2.2.2.1:Nat):Int) 5 (a0x (wrap .u64 s.2.2.2.1) 4 (a0x (wrap .u64 (wrap .i64 (((s.2.2.2.2.2.1.length:Nat):Int)-1))) 5 L))) (by omega) (by omega);simp at hlp;unfold a9I;simp only[p1,p2,a2Q (show short s.2.2.2.2.2.1 by unfold short;omega),ew,p3,hlp,oB,a7v]
def b3A(s:Sub)(L:List Int):List Int:=
 a0x ((a0l s.2.2.2.2.2.2.2.2.1:Nat):Int) 5 (a0x (wrap .u64 s.2.1) 5 (a0x (wrap .u64 s.1) 3 L))
def a3b(s:Sub)(L:List Int):List Int:=
 if s.1=2 then a0x (wrap .u64 s.2.2.1) 3 L
 else if s.1=3 then a7v s L
 else if s.1=4 then a7v s (a1O 8 s.2.2.2.2.2.2.1 (a0x (wrap .u64 (wrap .i64 (s.2.2.2.2.1-1))) 10 L))
 else if s.1=5 then a3M s.2.2.2.2.2.2.2.1 (a0x (wrap .u64 ((s.2.2.2.2.2.2.2.1.length:Nat):Int)) 2 L)
 else L
theorem c8E{s:Sub}(h:SmallS s)(L:List Int):(a3b s L).length≤L.length+3000:=by
 have hc:=h.coefs;have ht:=h.taps;have hst:=h.stages
 grind[a3b,a0J,c6V,a7s,b8a]
theorem b9G:∀(zs:List Nat)(ks l L:List Int),ks.all kB=true→(a4A zs ks l L).length≤L.length+10*zs.length+100*l.length
 |z::zs,k::ks,l,L,h=>by
  simp only[a07,bA]at h;have h1:=c0O h.1 (l.take z) L;have h2:=b9G zs ks (l.drop z) (b0T k (l.take z) L) h.2;rw[a20]at h1;rw[a21]at h2;simp only[a4A,lC];omega
 | [],_,_,_,_=>by simp_all[a4A]
 |_::_,[],_,_,_=>by grind[a4A]
def a6f(s:Sub)(zn:List Nat)(L:List Int):List Int:=
 if s.1=0∨s.1=1 then a1O (a0l s.2.2.2.2.2.2.2.2.1) s.2.2.2.2.2.2.2.2.1 (a3b s (b3A s L))
 else a5h s.2.2.2.2.2.2.2.2.2.1 zn s.2.2.2.2.2.2.2.2.2.2.1 (a1O (a0l s.2.2.2.2.2.2.2.2.1) s.2.2.2.2.2.2.2.2.1 (a3b s (b3A s L)))
theorem b8L{s:Sub}(h:SmallS s){n:Int}{L:List Int}(hL:L.length<100000000):
  ∃(e:Int)(L':List Int),b1q (wL L,s,n)=some (e,wL L')∧(e=0∨L'=L)∧L'.length≤L.length+700000∧
   ((a2M s n).isSome=true→e=0∧∃zn,L'=a6f s zn L∧(s.1≠0∧s.1≠1→PartsOk s.2.2.2.2.2.2.2.2.2.1 n ((s.2.2.2.2.2.2.2.2.1.length:Nat):Int) s.2.2.2.2.2.2.2.2.2.2.1 zn))∧((a2M s n).isSome=false→e=1∧L'=L):=by
 unfold b1q;simp only[c3S h,oB];cases hs:(a2M s n).isSome with
 |false=>exact⟨1,L,rfl,.inr rfl,by omega,fun h=>(by grind),fun _=>⟨rfl,rfl⟩⟩
 |true=>
  have hp:a1D s n:=by
   grind[a2M]
  obtain⟨h1,h2,hf,-,-,-,-,hlen,hww,hrw,-,hparts⟩:=hp;have hkind:=d3z hf;have hwd:=a7z s.2.2.2.2.2.2.2.2.1;have hsw:short s.2.2.2.2.2.2.2.2.1:=by have:=h.warm;unfold short;omega
  have hwarm:=h.warm;have hrest:=h.rest;have hst:=h.stages;have ht:=h.taps;have q1:=a0J (wrap .u64 s.1) 3 L;have q2:=a0J (wrap .u64 s.2.1) 5 (a0x (wrap .u64 s.1) 3 L);have q3:=a0J ((a0l s.2.2.2.2.2.2.2.2.1:Nat):Int) 5 (a0x (wrap .u64 s.2.1) 5 (a0x (wrap .u64 s.1) 3 L));have ew:wrap .u64 ((a0l s.2.2.2.2.2.2.2.2.1:Nat):Int)=((a0l s.2.2.2.2.2.2.2.2.1:Nat):Int):=a0F (by omega);have p1:a0m (wL L,wrap .u64 s.1,(3:Int))=some (a9t (wrap .u64 s.1) 3,wL (a0x (wrap .u64 s.1) 3 L)):=a4b (n:=3) (by omega) (by omega);have p2:a0m (wL (a0x (wrap .u64 s.1) 3 L),wrap .u64 s.2.1,(5:Int))=some (a9t (wrap .u64 s.2.1) 5,wL (a0x (wrap .u64 s.2.1) 5 (a0x (wrap .u64 s.1) 3 L))):=a4b (n:=5) (by omega) (by omega);have p3:a0m (wL (a0x (wrap .u64 s.2.1) 5 (a0x (wrap .u64 s.1) 3 L)),((a0l s.2.2.2.2.2.2.2.2.1:Nat):Int),(5:Int))=some (a9t ((a0l s.2.2.2.2.2.2.2.2.1:Nat):Int) 5,wL (b3A s L)):=a4b (n:=5) (by omega) (by omega);have q4:(b3A s L).length≤L.length+13:=by unfold b3A;omega
  generalize hM:b3A s L=M at p3 q4;have q5:=c8E h M;have q6:=a7s (a0l s.2.2.2.2.2.2.2.2.1) s.2.2.2.2.2.2.2.2.1 (a3b s M);have q7:a0l s.2.2.2.2.2.2.2.2.1*s.2.2.2.2.2.2.2.2.1.length≤32*5000:=a88 hwd hwarm;have hwl:=c6g (l:=s.2.2.2.2.2.2.2.2.1) (n:=n) (s:=s) hwd (by omega) s.2.2.2.2.2.2.2.2.1.length 0 (a3b s M) (by omega) (by omega);simp at hwl

  have hsl:=c2a (st:=s.2.2.2.2.2.2.2.1) (n:=n) (wd:=((a0l s.2.2.2.2.2.2.2.2.1:Nat):Int)) (s:=s) (by omega) s.2.2.2.2.2.2.2.1.length 0 (a0x (wrap .u64 ((s.2.2.2.2.2.2.2.1.length:Nat):Int)) 2 M) (by omega) (by grind[a0J]);have q8:=a0J (wrap .u64 (wrap .i64 (s.2.2.2.2.1-1))) 10 M;have q9:=a7s 8 s.2.2.2.2.2.2.1 (a0x (wrap .u64 (wrap .i64 (s.2.2.2.2.1-1))) 10 M);have htl:=c6f (t:=s.2.2.2.2.2.2.1) (n:=n) (wd:=((a0l s.2.2.2.2.2.2.2.2.1:Nat):Int)) (s:=s) ht 3 0 (a0x (wrap .u64 (wrap .i64 (s.2.2.2.2.1-1))) 10 M) (by rfl) (by omega);simp at hsl htl;have k2:a0m (wL M,wrap .u64 s.2.2.1,(3:Int))=some (a9t (wrap .u64 s.2.2.1) 3,wL (a0x (wrap .u64 s.2.2.1) 3 M)):=a4b (n:=3) (by omega) (by omega);have k4:a0m (wL M,wrap .u64 (wrap .i64 (s.2.2.2.2.1-1)),(10:Int))=some (a9t (wrap .u64 (wrap .i64 (s.2.2.2.2.1-1))) 10,wL (a0x (wrap .u64 (wrap .i64 (s.2.2.2.2.1-1))) 10 M)):=a4b (n:=10) (by omega) (by omega);have k5:a0m (wL M,wrap .u64 ((s.2.2.2.2.2.2.2.1.length:Nat):Int),(2:Int))=some (a9t (wrap .u64 ((s.2.2.2.2.2.2.2.1.length:Nat):Int)) 2,wL (a0x (wrap .u64 ((s.2.2.2.2.2.2.2.1.length:Nat):Int)) 2 M)):=a4b (n:=2) (by omega) (by omega);have c3:=c2b (s:=s) h.coefs (L:=M) (by omega);have c4:=c2b (s:=s) h.coefs (L:=a1O 8 s.2.2.2.2.2.2.1 (a0x (wrap .u64 (wrap .i64 (s.2.2.2.2.1-1))) 10 M)) (by omega);simp only[bT,cF,a2Q hsw,oB,p1,p2,ew,p3];generalize hPM:a1O (a0l s.2.2.2.2.2.2.2.2.1) s.2.2.2.2.2.2.2.2.1 (a3b s M)=PM at hwl q6

  have tail:∀(hk01:s.1≠0∧s.1≠1),∃zn,PartsOk s.2.2.2.2.2.2.2.2.2.1 n ((s.2.2.2.2.2.2.2.2.1.length:Nat):Int) s.2.2.2.2.2.2.2.2.2.2.1 zn:=fun hk01=>by
   simp_all[PartsOk.of]
  rcases hkind with k|k|k|k|k|k;have kl:a3b s M=M:=by unfold a3b;grind
  rw[kl]at hwl;refine⟨0,PM,?_,.inl rfl,by omega,fun _=>⟨rfl,[],by simp_all[a6f],fun h=>absurd k (by omega)⟩,fun h=>by grind⟩;simp only[k,show((0:Int)==2)=false from rfl,show((0:Int)==4)=false from rfl,show((0:Int)==3)=false from rfl,show((0:Int)==5)=false from rfl,cF,oB,hwl,a7y]
  simp
  have kl:a3b s M=M:=by unfold a3b;grind
  rw[kl]at hwl;refine⟨0,PM,?_,.inl rfl,by omega,fun _=>⟨rfl,[],by simp_all[a6f],fun h=>absurd k (by omega)⟩,fun h=>by grind⟩;simp only[k,show((1:Int)==2)=false from rfl,show((1:Int)==4)=false from rfl,show((1:Int)==3)=false from rfl,show((1:Int)==5)=false from rfl,cF,oB,hwl,a7y]
  simp
  all_goals
   obtain⟨zn,hz⟩:=tail (by omega);have t1:=c8D (L:=PM) hz (by omega);have t3:(a5h s.2.2.2.2.2.2.2.2.2.1 zn s.2.2.2.2.2.2.2.2.2.2.1 PM).length≤L.length+700000:=by
    have z1:=a0J (wrap .u64 s.2.2.2.2.2.2.2.2.2.1.1) 4 PM;have z2:=b9G zn s.2.2.2.2.2.2.2.2.2.1.2.1 s.2.2.2.2.2.2.2.2.2.2.1 (a0x (wrap .u64 s.2.2.2.2.2.2.2.2.2.1.1) 4 PM) hz.all;have z3:=hz.len
    grind[a5h]
   refine⟨0,a5h s.2.2.2.2.2.2.2.2.2.1 zn s.2.2.2.2.2.2.2.2.2.2.1 PM,?_,.inl rfl,t3,fun _=>⟨rfl,zn,by simp_all[a6f],fun _=>hz⟩,fun h=>by grind⟩
  have kl:a3b s M=a0x (wrap .u64 s.2.2.1) 3 M:=by unfold a3b;grind
  rw[kl]at hwl;simp only[k,show((2:Int)==2)=true from rfl,cT,k2,oB,hwl,a7y]
  grind
  have kl:a3b s M=a7v s M:=by unfold a3b;grind
  rw[kl]at hwl;simp only[k,show((3:Int)==2)=false from rfl,show((3:Int)==4)=false from rfl,show((3:Int)==3)=true from rfl,cT,cF,c3,oB,hwl,a7y]
  grind
  have kl:a3b s M=a7v s (a1O 8 s.2.2.2.2.2.2.1 (a0x (wrap .u64 (wrap .i64 (s.2.2.2.2.1-1))) 10 M)):=by unfold a3b;grind
  rw[kl]at hwl;simp only[k,show((4:Int)==2)=false from rfl,show((4:Int)==4)=true from rfl,cT,cF,k4,htl,c4,oB,hwl,a7y]
  grind
  have kl:a3b s M=a3M s.2.2.2.2.2.2.2.1 (a0x (wrap .u64 ((s.2.2.2.2.2.2.2.1.length:Nat):Int)) 2 M):=by unfold a3b;grind
  rw[kl]at hwl;simp only[k,show((5:Int)==2)=false from rfl,show((5:Int)==4)=false from rfl,show((5:Int)==3)=false from rfl,show((5:Int)==5)=true from rfl,cT,cF,k5,hsl,oB,hwl,a7y]
  grind
theorem b7m(zn:List Nat):(a1r zn).map a29=zn:=by
 unfold a1r;rw[List.map_map]
 have:a29∘(fun(a:Nat)=>(a:Int))=id:=by rfl
 simp_all
end Go.Ab
namespace Go.Ab
end Go.Ab
namespace Go.Ab
def a3U(s:Sub)(n:Int):Int:=
 if(a2M s n).isSome=true then(((a6f s ((a2k s.2.2.2.2.2.2.2.2.2.1.1 n ((s.2.2.2.2.2.2.2.2.1.length:Nat):Int)).map a29) []).length:Nat):Int)else 0
theorem c5p{s:Sub}{n:Int}{zn:List Nat}(hz:s.1≠0∧s.1≠1→PartsOk s.2.2.2.2.2.2.2.2.2.1 n ((s.2.2.2.2.2.2.2.2.1.length:Nat):Int) s.2.2.2.2.2.2.2.2.2.2.1 zn)(L:List Int):
  a6f s zn L=a6f s ((a2k s.2.2.2.2.2.2.2.2.2.1.1 n ((s.2.2.2.2.2.2.2.2.1.length:Nat):Int)).map a29) L:=by
 by_cases hk:s.1=0∨s.1=1
 unfold a6f;rw[if_pos hk,if_pos hk];rw[(hz (not_or.1 hk)).sizes,b7m]
theorem c1g{s:Sub}(h:SmallS s)(n:Int):a3z (s,n)=some (a3U s n):=by
 obtain⟨e,L',h1,-,-,h4,h5⟩:=b8L h (n:=n) (L:=[]) (by simp);have hw:wL []=(([]:List Int),(0:Int),()):=rfl;rw[hw]at h1;obtain⟨w1,-⟩:=a6K L';unfold a3z a3U;simp only[h1,oB,b0c];cases hs:(a2M s n).isSome with
 |false=>
  obtain⟨rfl,rfl⟩:=h5 hs;rfl
 |true=>
  obtain⟨rfl,zn,rfl,hz⟩:=h4 hs;rw[if_pos rfl,←c5p hz];simp only[w1,show((0:Int) != 0)=false from rfl,cF]
end Go.Ab
namespace Go.Ab
end Go.Ab
namespace Go.Ab
open IntKind(wrap)
def dif:List Int→List Int
 |a::b::r=>W (b-a)::dif (b::r)
 |_=>[]
theorem a6C:∀l:List Int,(dif l).length=l.length-1
 | []=>rfl
 | [_]=>rfl
 |a::b::r=>by simp[dif,a6C (b::r)]
theorem c5q:∀(l:List Int)(i:Nat)(x y:Int),l[i]?=some x→l[i+1]?=some y→(dif l)[i]?=some (W (y-x))
 |a::b::r,0,x,y,h1,h2=>by simp at h1 h2;subst h1;subst h2;rfl
 |a::b::r,i+1,x,y,h1,h2=>by
  simp only[dif,List.getElem?_cons_succ]at h1 h2⊢;exact c5q (b::r) i x y h1 h2
 | [_],0,x,y,h1,h2=>by simp at h2
 | [_],i+1,x,y,h1,h2=>by simp at h1
 | [],i,x,y,h1,h2=>by simp at h1
def a2n:Nat→List Int→List Int
 |0,l=>l
 |o+1,l=>dif (a2n o l)
theorem a6L(l:List Int):∀o,(a2n o l).length=l.length-o
 |0=>rfl
 |o+1=>by simp only[a2n,a6C,a6L l o];omega
theorem b8M{l:List Int}(h:short l)(o:Nat):short (a2n o l):=by
 have h:l.length<1000000:=h;show(a2n o l).length<1000000;rw[a6L];omega
def b2k(l:List Int)(i:Nat):List Int:=(dif l).take i++l.drop i
theorem b7n{l:List Int}{i:Nat}(h:i≤l.length-1):(b2k l i).length=l.length:=by
 simp only[b2k,lN,a20,a21,a6C];omega
theorem c6h{l:List Int}{i j:Nat}(h:i≤l.length-1)(hj:i≤j):(b2k l i).getD j 0=l.getD j 0:=by
 have e:((dif l).take i).length=i:=by rw[a20,a6C];omega
 rw[lD,lD,b2k,a31 (by omega),e,List.getElem?_drop];congr 2;omega
theorem d5a{l:List Int}{i:Nat}(h:i<l.length-1):(b2k l i).set i (W (l.getD (i+1) 0-l.getD i 0))=b2k l (i+1):=by
 have e:((dif l).take i).length=i:=by rw[a20,a6C];omega
 have h1:l[i]?=some l[i]:=lG (by omega);have h2:l[i+1]?=some l[i+1]:=lG (by omega);have hd:=c5q l i _ _ h1 h2;have hlt:i<(dif l).length:=by rw[a6C];omega
 simp only[b2k];rw[List.set_append,if_neg (by omega),e,Nat.sub_self,a02 (show i<l.length by omega),List.set_cons_zero,a44 hlt,aA];have e2:(dif l)[i]=W (l.getD (i+1) 0-l.getD i 0):=by
  rw[lG hlt]at hd;rw[Option.some.inj hd,lD,lD,h1,h2];rfl
 rw[e2];rfl
theorem d2e{l:List Int}{o k:Int}(hs:short l)(h:1≤l.length):a0h a6v ((0:Int),o,k,l,())=some (o,k,b2k l (l.length-1),()):=by
 have hs:l.length<1000000:=hs;have h0:b2k l 0=l:=by simp[b2k]
 have:=a3C (f:=a6v) (fun i:Nat=>((i:Int),o,k,b2k l i,())) (l.length-1) (b:=(o,k,b2k l (l.length-1),()))
  (fun i hi=>by
   have w1:wrap .i64 ((i:Int)+1)=((i+1:Nat):Int):=a0d (by omega);have hl:=b7n (l:=l) (i:=i) (by omega);have d0:decide (((i+1:Nat):Int)<((l.length:Nat):Int))=true:=by simp;omega
   have d1:decide ((0:Int)≤((i+1:Nat):Int))=true:=by simp;omega
   have d2:decide ((0:Int)≤(i:Int))=true:=by simp
   have d3:decide ((i:Int)<((l.length:Nat):Int))=true:=by simp;omega
   have n1:a29 ((i+1:Nat):Int)=i+1:=by omega
   have n2:a29 (i:Int)=i:=by omega
   have st:=d5a (l:=l) (i:=i) (by omega);have g1:=c6h (l:=l) (i:=i) (j:=i+1) (by omega) (by omega);have g2:=c6h (l:=l) (i:=i) (j:=i) (by omega) (by omega);simp only[W]at st;simp only[a6v,w1,hl,d0,d1,d2,d3,n1,n2,g1,g2,st,a03,cT])
  (by
   have hl:=b7n (l:=l) (i:=l.length-1) (by omega);have w1:wrap .i64 (((l.length-1:Nat):Int)+1)=((l.length:Nat):Int):=by rw[a0g (by omega)];omega
   have d0:decide (((l.length:Nat):Int)<((l.length:Nat):Int))=false:=by simp
   simp only[a6v,w1,hl,d0,cF])
 simp only[nZ,a09,h0]at this;exact this
theorem d3C{l:List Int}:(b2k l (l.length-1)).take (l.length-1)=dif l:=by
 have e:(dif l).take (l.length-1)=dif l:=a85 (by rw[a6C];omega);rw[b2k,e,List.take_append_of_le_length (by rw[a6C];omega),e]
theorem b9H{l:List Int}{o:Nat}(ho:o≤4)(hn:o≤l.length)(hs:short l)(hw:l.all a0b=true):
  a5E (l,(o:Int))=some (bif (a2n o l).all a0b then(a2n o l,0)else([],6)):=by
 have hs':l.length<1000000:=hs;have loop:=a3C (f:=a8S) (fun k:Nat=>((o:Int),(k:Int),a2n k l,())) o (b:=(a2n o l,()))
  (fun k hk=>by
   have hk1:1≤(a2n k l).length:=by rw[a6L];omega
   have hks:(a2n k l).length<1000000:=b8M hs k;have d0:decide ((k:Int)<(o:Int))=true:=by simp;omega
   have hm:=b7n (l:=a2n k l) (i:=(a2n k l).length-1) (by omega);have w1:wrap .i64 ((((a2n k l).length:Nat):Int)-1)=(((a2n k l).length-1:Nat):Int):=by rw[a0g (by omega)];omega
   have w2:wrap .i64 ((k:Int)+1)=((k+1:Nat):Int):=a0d (by omega);have d1:decide ((0:Int)≤(((a2n k l).length-1:Nat):Int))=true:=by simp
   have d2:decide ((((a2n k l).length-1:Nat):Int)≤(((a2n k l).length:Nat):Int))=true:=by simp
   have d3:decide ((a2n k l).length-1≤(a2n k l).length)=true:=by simp
   have n1:a29 (((a2n k l).length-1:Nat):Int)=(a2n k l).length-1:=by omega
   simp only[a8S,d0,cT,d2e (b8M hs k) hk1,oB,hm,w1,w2,d1,d2,d3,n1,a03,d3C,a2n])
  (by
   have d0:decide ((o:Int)<(o:Int))=false:=by simp
   simp only[a8S,d0,cF])
 have c1:decide ((o:Int)<0)=false:=by simp
 have c2:decide ((o:Int) > 4)=false:=by simp;omega
 have c3:decide (((l.length:Nat):Int)<(o:Int))=false:=by simp;omega
 have c4:lim l.length=true:=a1t (by omega);simp only[nZ,a09]at loop;have e0:a2n 0 l=l:=rfl;rw[e0]at loop;unfold a5E;simp only[c1,c2,c3,c4,cF,cT,oB,a8o hs,hw,bT,loop,a8o (b8M hs o)];cases (a2n o l).all a0b<;>rfl
def ex:Nat→(Nat→Int)→Nat→Int
 |0,f,i=>f i
 |o+1,f,i=>ex o f (i+1)-ex o f i
theorem c2I{l:List Int}(hw:l.all a0b=true):∀(o i:Nat),i+o<l.length→(a2n o l)[i]?=some (W (ex o (fun j=>l.getD j 0) i))
 |0,i,h=>by
  have h:i<l.length:=by omega
  have e:l.getD i 0=l[i]:=by simp[lD,h]
  simp only[a2n,ex,e];rw[lG h,c0L (lA.1 hw _ (a06 h))]
 |o+1,i,h=>by
  have h1:=c2I hw o i (by omega);have h2:=c2I hw o (i+1) (by omega);simp only[a2n,ex];rw[c5q _ i _ _ h1 h2];simp only[W,a9r,Int.sub_bmod_bmod,Int.bmod_sub_bmod]
theorem d3D{l:List Int}(hw:l.all a0b=true){o j:Nat}(ho:o≤4)(h:o+j<l.length):W (W (ex o (fun j=>l.getD j 0) j)+a5H o (l.take (o+j)))=l.getD (o+j) 0:=by
 have hwide:a0b (l.getD (o+j) 0)=true:=by
  have e:l.getD (o+j) 0=l[o+j]:=by simp[lD,h]
  rw[e];exact lA.1 hw _ (a06 h)
 have at_eq:∀i:Nat,1≤i→i≤o→atB (l.take (o+j)) i=l.getD (o+j-i) 0:=fun i h1 h2=>by
  simp only[atB,a20,a86 (a94 h),lD,List.getElem?_take];rw[if_pos (by omega)]
 have key:ex o (fun j=>l.getD j 0) j+a5H o (l.take (o+j))=l.getD (o+j) 0:=by
  have h5:o=0∨o=1∨o=2∨o=3∨o=4:=by omega
  rcases h5 with rfl|rfl|rfl|rfl|rfl;simp[ex,a5H];simp only[ex,a5H,at_eq 1 (by omega) (by omega)];have e1:1+j-1=j:=by omega
  have e2:j+1=1+j:=by omega
  rw[e1,e2];omega;simp only[ex,a5H,at_eq 1 (by omega) (by omega),at_eq 2 (by omega) (by omega)];have e1:2+j-1=j+1:=by omega
  have e2:2+j-2=j:=by omega
  have e3:j+1+1=2+j:=by omega
  rw[e1,e2,e3];omega;simp only[ex,a5H,at_eq 1 (by omega) (by omega),at_eq 2 (by omega) (by omega),at_eq 3 (by omega) (by omega)];have e1:3+j-1=j+1+1:=by omega
  have e2:3+j-2=j+1:=by omega
  have e3:3+j-3=j:=by omega
  have e4:j+1+1+1=3+j:=by omega
  rw[e1,e2,e3,e4];omega;simp only[ex,a5H,at_eq 1 (by omega) (by omega),at_eq 2 (by omega) (by omega),at_eq 3 (by omega) (by omega),at_eq 4 (by omega) (by omega)];have e1:4+j-1=j+1+1+1:=by omega
  have e2:4+j-2=j+1+1:=by omega
  have e3:4+j-3=j+1:=by omega
  have e4:4+j-4=j:=by omega
  have e5:j+1+1+1+1=4+j:=by omega
  rw[e1,e2,e3,e4,e5];omega
 have:W (W (ex o (fun j=>l.getD j 0) j)+a5H o (l.take (o+j)))=W (ex o (fun j=>l.getD j 0) j+a5H o (l.take (o+j))):=by
  simp only[W,a9r,Int.bmod_add_bmod]
 rw[this,key,c0L hwide]
theorem c8F{l:List Int}(hw:l.all a0b=true){o:Nat}(ho:o≤4):∀(k j:Nat),o+j+k=l.length→a5c (a5H o) ((a2n o l).drop j) (l.take (o+j))=some l
 |0,j,h=>by
  rw[List.drop_of_length_le (by rw[a6L];omega),a85 (by omega)];rfl
 |k+1,j,h=>by
  have hlt:j<(a2n o l).length:=by rw[a6L];omega
  have hg:=c2I hw o j (by omega);rw[lG hlt]at hg;have e:=Option.some.inj hg;have e2:l.getD (o+j) 0=l[o+j]:=by simp[lD,show o+j<l.length by omega]
  have st:=d3D hw ho (show o+j<l.length by omega);rw[e2]at st;rw[a02 hlt,e];simp only[a5c,st,lA.1 hw _ (a06 (show o+j<l.length by omega)),cT];have et:l.take (o+j)++[l[o+j]]=l.take (o+(j+1)):=by
   rw[show o+(j+1)=(o+j)+1 by omega]
   simp
  rw[et];exact c8F hw ho k (j+1) (by omega)
end Go.Ab
namespace Go.Ab
open IntKind(wrap)
theorem a8E{σ β:Type}{f:σ→Option (σ ⊕ β)}(I:Nat→σ→Prop)(Q:β→Prop)(n:Nat)(hstep:∀i s,i<n→I i s→∃s',f s=some (.inl s')∧I (i+1) s')
  (hexit:∀s,I n s→∃b,f s=some (.inr b)∧Q b):∀(k i:Nat)(s:σ),i+k=n→I i s→∃b,a0h f s=some b∧Q b
 |0,i,s,h,hi=>by
  obtain rfl:i=n:=by omega
  obtain⟨b,h1,h2⟩:=hexit s hi;exact⟨b,a0o h1,h2⟩
 |k+1,i,s,h,hi=>by
  obtain⟨s',h1,h2⟩:=hstep i s (by omega) hi;rw[a0p h1];exact a8E I Q n hstep hexit k (i+1) s' (by omega) h2
theorem c2c(y:Int):0≤wrap .u64 y∧wrap .u64 y<18446744073709551616:=by
 simp only[wrap,IntKind.bits,IntKind.signed]
 simp
 omega
def b3B(n:Int)(x:Int):Bool:=a0b x&&!(a36 x (a0A .i64 1 n) != 0)
def b8N{β:Type}(n:Int)(bad:β)(out:List Int)(x:Int):List Int ⊕ β:=bif b3B n x then .inl (out++[a0D .i64 x n])else .inr bad
def b2l(n:Int)(l:List Int):Option (List Int):=bif l.all (b3B n)then some (l.map fun x=>a0D .i64 x n)else none
theorem b9I{β:Type}(n:Int)(bad:β)(fin:List Int→β):∀(l out:List Int),b0e fin (a3D (b8N n bad) l out)=match b2l n l with|some r=>fin (out++r)|none=>bad
 | [],out=>by simp[a3D,b0e,b2l]
 |x::l,out=>by
  simp only[a3D,b8N,b2l,a07];cases hx:b3B n x with
  |true=>
   simp only[cT,a41];rw[b9I n bad fin l _];simp only[b2l];cases l.all (b3B n)with
   |true=>simp
   |false=>rfl
  |false=>rfl
theorem c8G{o:Nat}(h:o≤30):a0A .i64 1 (o:Int)=((2^o:Nat):Int):=by
 have h2:2^o≤2^30:=a17 (by omega) h
 have:=c2F (N:=1) (o:=o) (by omega) (by omega)
 simpa using this
theorem b8b{l:List Int}{o:Nat}(h1:o≤30)(hr:l.length<100000):a8j (l,(o:Int))=some (a5T (b2l (o:Int) l)):=by
 have hsr:short l:=by unfold short;omega
 have g1:¬ (o:Int)<0:=by omega
 have g2:¬ (o:Int) > 30:=by omega
 have g3:(a0A .i64 (1:Int) (o:Int)==0)=false:=by
  rw[c8G h1]
  have:0<2^o:=a19 o
  simp only[beq_eq_false_iff_ne,ne_eq];omega
 unfold a8j;simp only[g1,g2,decide_false,cF,oB]
 have:=a2t (f:=a7L) l (fun i out=>((o:Int),l,(l.length:Int),(i:Int),out,())) (b8N (o:Int) (Sum.inr ((6:Int),([]:List Int),())))
  (fun i out=>out.length=i) (fun out=>Sum.inl (out,()))
  (fun i h out hI=>by
   have hlt:i<1000000:=by omega
   simp only[a7L,dlt h,cT,a0c h,oB,b7T,b8N,b3B,g1,g3,decide_false,cF];cases hb:a0b l[i]with
   |true=>
    cases hb2:(a36 l[i] (a0A .i64 1 (o:Int)) != 0)with
    |false=>
     simp only[cT,bT,cF,oB,g1,decide_false,a0H (show out.length+1<1000000 by omega),a0d hlt,a03,a18,hb2];refine⟨fun a' ha=>?_,fun b hb=>(by cases hb)⟩;simp only[Sum.inl.injEq]at ha;subst ha;exact⟨rfl,by simp;omega⟩
    |true=>
     refine⟨fun a' ha=>(by simp at ha),fun b hb=>?_⟩;simp only[a41,bT,cF,Sum.inr.injEq]at hb;subst hb;simp[hb2]
   |false=>
    refine⟨fun a' ha=>(by simp at ha),fun b hb=>?_⟩;simp only[Bool.false_and,cF,Sum.inr.injEq]at hb;subst hb;rfl)
  (fun out _=>by simp[a7L]) (a:=[]) rfl
 simp only[nZ,b9I,a05]at this;rw[this];cases b2l (o:Int) l<;>rfl
theorem c2J{o:Nat}(h:o≤30){x:Int}(hx:b3B (o:Int) x=true):a0b (a0D .i64 x (o:Int))=true∧a0A .i64 (a0D .i64 x (o:Int)) (o:Int)=x∧a0b x=true:=by
 simp only[b3B,c8G h,bA,a28,bne_eq_false_iff_eq]at hx;obtain⟨hw,hm⟩:=hx;obtain⟨c,rfl⟩:=Int.dvd_of_tmod_eq_zero hm;have hw':=a2h.1 hw;have e:min (a29 (o:Int)) (IntKind.bits .i64)=o:=by simp only[tN,IntKind.bits];omega
 have hp:(0:Int)<2^o:=Int.pow_pos (by omega);have ep:((2^o:Nat):Int)=2^o:=by simp
 rw[ep]at hw' hw⊢;have e1:a0D .i64 (2^o*c) (o:Int)=c:=by
  unfold a0D;rw[e];exact a75 _ (by omega)
 rw[e1];refine⟨a2h.2 ?_,?_,hw⟩;generalize (2:Int)^o=p at hp hw';have hs:p*c=(p-1)*c+c:=by rw[b02];omega
 by_cases hc:0≤c
 have:=a60 (show 0≤p-1 by omega) hc
 omega
 have:=a60 (show 0≤p-1 by omega) (show 0≤-c by omega)
 rw[Int.mul_neg]at this;omega;unfold a0A;rw[e,a83];exact a0g (by omega)
theorem d6Q{o:Nat}(h:o≤30){l d:List Int}(hd:b2l (o:Int) l=some d):d.all a0b=true∧d.length=l.length∧upO (o:Int) d=some l:=by
 unfold b2l at hd;cases ha:l.all (b3B (o:Int))with
 |false=>rw[ha]at hd;cases hd
 |true=>
  rw[ha]at hd;simp only[cT,sj]at hd;subst hd;have hall:=lA.1 ha;refine⟨?_,by simp,?_⟩;simp only[List.all_map];exact lA.2 fun x hx=>(c2J h (hall x hx)).1;have e1:(l.map fun x=>a0D .i64 x (o:Int)).all (fun x=>a0b x&&a0b (a0A .i64 x (o:Int)))=true:=by
   simp only[List.all_map];refine lA.2 fun x hx=>?_
   obtain⟨h1,h2,h3⟩:=c2J h (hall x hx);simp only[Function.comp,h1,h2,h3,a03]
  unfold upO;rw[e1];simp only[cT,sj,List.map_map];have em:l.map ((fun x=>a0A .i64 x (o:Int))∘fun x=>a0D .i64 x (o:Int))=l.map id:=List.map_congr_left (fun x hx=>(c2J h (hall x hx)).2.1);rw[em,List.map_id]
end Go.Ab
namespace Go.Ab
theorem d2f{n warm:Int}(h:a7r n warm=true):(a2k 0 n warm).length≠0:=by
 have h':=h;simp only[a7r,bA,dT]at h';unfold a2k b7V;have e:((n.toNat / 2^(0:Int).toNat:Nat):Int)=n:=by simp;omega
 have e2:n.toNat%2^(0:Int).toNat=0:=by simp;omega
 simp only[h,e,e2];simp[h'.2.2.2]
end Go.Ab
namespace Go.Ab
open IntKind(wrap)
theorem a7S{N n:Nat}(hn:n≤63)(h:N<2^n)(L:List Int):(a0x (N:Int) n L).length=L.length+n:=by
 unfold a0x;rw[a7A (N:=N) (o:=n) (by omega),a77 h];simp[b6A]
def a5Q(k:Nat)(x:Int):Nat:=if a0y x / 2^k<32 then a0y x / 2^k+1+k else 65
theorem c8H{k:Nat}(hk:k≤25)(x:Int):a5Q k x≤65:=by
 unfold a5Q;split;rename_i h;generalize a0y x / 2^k=q at h;omega;omega
theorem d3E{k:Nat}(hk:k≤25){x:Int}(hw:a0b x=true)(L:List Int):(a7R k x L).length=L.length+a5Q k x:=by
 unfold a7R a5Q;have hp:0<2^k:=a19 k;have hm:a0y x%2^k<2^k:=a51 _ hp;have hf:=b1h hw;split;rw[a7S (by omega) hm,b2h];omega;rw[a7S (n:=32) (by omega) (by omega),b2h]
theorem c3X{k:Nat}(hk:k≤25):∀(l L:List Int),l.all a0b=true→(a4W k l L).length=L.length+(l.map (a5Q k)).sum
 | [],L,_=>by simp[a4W]
 |x::l,L,h=>by
  simp only[a07,bA]at h;have e:a4W k (x::l) L=a4W k l (a7R k x L):=rfl;rw[e,c3X hk l _ h.2,d3E hk h.1,a55,a50];omega
theorem c8I{k:Nat}(hk:k≤25){x:Int}(hw:a0b x=true):a8B ((k:Int),x)=some ((a5Q k x:Nat):Int):=by
 have hy:=b1h hw;have eq:a0D .u64 ((a0y x:Nat):Int) (k:Int)=((a0y x / 2^k:Nat):Int):=a7A (by omega);have ew:wrap .i64 ((a0y x / 2^k:Nat):Int)=((a0y x / 2^k:Nat):Int):=b5Q (a48 (a49 _ _) hy);have hk0:decide ((k:Int)<0)=false:=by simp
 unfold a8B a5Q;simp only[b0h hk,b2i,hw,oB,bT,cF,b2j hw,hk0,eq,ew];generalize a0y x / 2^k=q
 by_cases hq:q<32
 have hd:decide ((q:Int)<32)=true:=decide_eq_true (by omega);simp only[hd,cT,if_pos hq];rw[a0g (n:=(q:Int)+1) (by omega),a0g (by omega)];rfl;have hd:decide ((q:Int)<32)=false:=decide_eq_false (by omega);simp only[hd,cF,if_neg hq];rfl
theorem c8J{f:Int→Nat}{M:Nat}(h:∀x,f x≤M):∀l:List Int,(l.map f).sum≤M*l.length
 | []=>by simp
 |x::l=>by
  have:=h x
  have:=c8J h l
  rw[a55,a50,lC,Nat.mul_add,b03];omega
theorem c8K{f:Int→Nat}{l:List Int}{i:Nat}(h:i<l.length):((l.take (i+1)).map f).sum=((l.take i).map f).sum+f l[i]:=by
 rw[a44 h,pA,List.sum_append];simp only[a55,a95,a50,List.sum_nil,a82]
theorem c2d{k:Nat}(hk:k≤25){l:List Int}(hw:l.all a0b=true)(hl:l.length<10000):a4m ((k:Int),l)=some (((l.map (a5Q k)).sum:Nat):Int):=by
 have:=a3C (f:=a4L) (fun i:Nat=>((k:Int),((((l.take i).map (a5Q k)).sum:Nat):Int),l,(l.length:Int),(i:Int),())) l.length (b:=((((l.map (a5Q k)).sum:Nat):Int),()))
  (fun i hi=>by
   have hc:=c8I hk (lA.1 hw _ (a06 hi));have h1:=c8J (c8H hk) (l.take (i+1));rw[c8K hi]at h1;rw[a20]at h1;have e:wrap .i64 (((((l.take i).map (a5Q k)).sum:Nat):Int)+((a5Q k l[i]:Nat):Int))=((((l.take (i+1)).map (a5Q k)).sum:Nat):Int):=by
    rw[c8K hi,a0g (by omega)];omega
   simp only[a4L,dlt hi,cT,a0c hi,oB,hc,e,a0d (show i<1000000 by omega)])
  (by simp only[a4L,dge,cF,a23])
 unfold a4m;have e0:(((l.take 0).map (a5Q k)).sum:Nat)=0:=rfl;simp only[e0,nZ]at this;simp only[this,oB]
theorem d5b(x:Int){n:Nat}(hn:n≤62):∃N:Nat,a0G x n=(N:Int)∧N<2^n:=by
 obtain⟨h1,h2⟩:=c2c x;obtain⟨y,hy⟩:=a00 h1;have hp:0<2^n:=a19 n;refine⟨y%2^n,?_,a51 _ hp⟩;unfold a0G;rw[hy];exact c8B (by omega) hn
theorem b6C{n:Nat}(hn:n≤62):∀(l L:List Int),(a1O n l L).length=L.length+n*l.length
 | [],L=>by simp[a1O]
 |x::l,L=>by
  have e:a1O n (x::l) L=a1O n l (a0x (a0G x n) n L):=rfl;obtain⟨N,h1,h2⟩:=d5b x hn;rw[e,b6C hn l,h1,a7S (by omega) h2,lC,Nat.mul_add,b03];omega
theorem d7Q{x:Int}(h:a0b x=true):a1U x ((31:Nat):Int)=true:=by
 have:=a2h.1 h
 have e1:a0A .i64 (-1) (((31:Nat):Int)-1)=-1073741824:=by decide
 have e2:wrap .i64 (a0A .i64 1 (((31:Nat):Int)-1)-1)=1073741823:=by decide
 unfold a1U;rw[e1,e2];simp only[bA,dT];omega
theorem c3Y{x:Int}(h:a0b x=true):∀(k w:Nat),w+k=32→1≤k→a2l x k w≤31
 |k+1,w,hk,_=>by
  simp only[a2l]
  by_cases h31:w=31
  subst h31;rw[d7Q h]
  simp
  ·cases (x != 0)&&!a1U x w with
   |true=>exact c3Y h k (w+1) (by omega) (by omega)
   |false=>simp only[cF];omega
theorem b6D:∀(l:List Int)(w:Nat),l.all a0b=true→w≤31→l.foldl (fun w x=>a2l x (32-w) w) w≤31
 | [],w,_,h=>h
 |x::l,w,hl,h=>by
  simp only[a07,bA]at hl;exact b6D l _ hl.2 (c3Y hl.1 (32-w) w (by omega) (by omega))
theorem a2x{l:List Int}(h:l.all a0b=true):a0l l≤31:=b6D l 0 h (by omega)
theorem b5R{l:List Int}(hl:l.length<10000):a6J l=some (((5+a0l l*l.length:Nat)):Int):=by
 have hw:=a7z l;have hm:a0l l*l.length≤32*l.length:=a35 _ hw;unfold a6J;simp only[a2Q (show short l by unfold short;omega),oB];have e:((a0l l:Nat):Int)*((l.length:Nat):Int)=((a0l l*l.length:Nat):Int):=by simp
 rw[e,a0g (n:=((a0l l*l.length:Nat):Int)) (by omega),a0g (by omega)];congr 1
def b3C(k:Int)(part:List Int):Nat:=5+(if k=31 then 5+a0l part*part.length else(part.map (a5Q k.toNat)).sum)
def a4X:List Nat→List Int→List Int→Nat
 |z::zs,k::ks,l=>b3C k (l.take z)+a4X zs ks (l.drop z)
 |_,_,_=>0
theorem a2R{q:Nat}(h:q<2147483648):wrap .u64 (q:Int)=(q:Int):=a0F (by omega)
theorem d3F{k:Int}(hk:kB k=true){part:List Int}(hw:part.all a0b=true)(L:List Int):(b0T k part L).length=L.length+b3C k part:=by
 simp only[kB,a24,bA,dT,beq_iff_eq]at hk;obtain⟨K,rfl⟩:=a00 (show 0≤k by omega);have hK:K≤31:=by omega
 have h1:=a7S (N:=K) (n:=5) (by omega) (by omega) L;have hwd:=a2x hw;unfold b0T b3C;rw[a2R (by omega)];split;rw[b6C (by omega),a7S (n:=5) (by omega) (by omega),h1];omega;rw[c3X (by omega) _ _ hw,h1];omega
theorem c3Z:∀(zs:List Nat)(ks l L:List Int),ks.all kB=true→l.all a0b=true→(a4A zs ks l L).length=L.length+a4X zs ks l
 |z::zs,k::ks,l,L,h,hw=>by
  simp only[a07,bA]at h;have hwp:(l.take z).all a0b=true:=lA.2 fun x hx=>lA.1 hw x (a42 hx);have hwr:(l.drop z).all a0b=true:=lA.2 fun x hx=>lA.1 hw x (a43 hx);simp only[a4A,a4X];rw[c3Z zs ks _ _ h.2 hwr,d3F h.1 hwp];omega
 | [],_,_,_,_,_=>by simp[a4A,a4X]
 |_::_,[],_,_,_,_=>by simp[a4A,a4X]
theorem d5c{k:Int}(hk:kB k=true)(part:List Int):b3C k part≤10+65*part.length:=by
 simp only[kB,a24,bA,dT,beq_iff_eq]at hk;unfold b3C;split;have hm:a0l part*part.length≤32*part.length:=a35 _ (a7z part);omega
 have:=c8J (c8H (k:=k.toNat) (by omega)) part
 omega
theorem b5S{zn:List Nat}{p:Prt}(hk:p.2.1.length=zn.length)(hall:p.2.1.all kB=true)(hz:zn.length≤256):∀(j i:Nat)(l:List Int)(c:Nat),i+j=zn.length→(zn.drop i).sum=l.length→l.all a0b=true→l.length≤5000→c+10*j+65*l.length<1000000→
  a0h a1F (l,(c:Int),(zn.length:Int),(i:Int),a1r zn,p,())=some (((c+a4X (zn.drop i) (p.2.1.drop i) l:Nat):Int),())
 |0,i,l,c,hi,_,_,_,_=>by
  obtain rfl:i=zn.length:=by omega
  rw[a45];exact a0o (by simp[a1F,a4X])
 |j+1,i,l,c,hi,hsum,hw,hl5,hb=>by
  have hlt:i<zn.length:=by omega
  have hki:i<p.2.1.length:=by omega
  have hkb:=lA.1 hall _ (a06 hki);rw[b8K hlt]at hsum;have h0:decide ((0:Int)≤(i:Int))=true:=by simp
  have h1:decide ((i:Int)<(((a1r zn).length:Nat):Int))=true:=by rw[a1G];simp;omega
  have h2:decide ((0:Int)≤((zn[i]:Nat):Int))=true:=by simp
  have h3:decide (((zn[i]:Nat):Int)≤((l.length:Nat):Int))=true:=by simp;omega
  have hpart:(l.take zn[i]).length=zn[i]:=by rw[a20];omega
  have hrest:(l.drop zn[i]).length=(zn.drop (i+1)).sum:=by rw[a21];omega
  have hwp:(l.take zn[i]).all a0b=true:=lA.2 fun x hx=>lA.1 hw x (a42 hx);have hwr:(l.drop zn[i]).all a0b=true:=lA.2 fun x hx=>lA.1 hw x (a43 hx);have hle:=d5c hkb (l.take zn[i]);rw[hpart]at hle;have goal:a1F (l,(c:Int),(zn.length:Int),(i:Int),a1r zn,p,())=some (.inl (l.drop zn[i],((c+b3C p.2.1[i] (l.take zn[i]):Nat):Int),(zn.length:Int),((i+1:Nat):Int),a1r zn,p,())):=by
   by_cases h31:p.2.1[i]=31
   have hne:(p.2.1[i]==31)=true:=by rw[h31];rfl
   have hr:=b5R (l:=l.take zn[i]) (by omega);have ec:b3C p.2.1[i] (l.take zn[i])=5+(5+a0l (l.take zn[i])*(l.take zn[i]).length):=by unfold b3C;rw[if_pos h31]
   rw[ec]at hle⊢;generalize 5+a0l (l.take zn[i])*(l.take zn[i]).length=r at hr hle⊢;have e1:wrap .i64 (5+(r:Int))=5+(r:Int):=a0g (by omega);have e2:wrap .i64 ((c:Int)+(5+(r:Int)))=((c+(5+r):Nat):Int):=by rw[a0g (by omega)];omega
   simp only[a1F,dlt hlt,h0,h1,a9u hlt,h2,h3,cT,a03,tN,a0c hki,oB,hne,hr,e1,e2,a23,a0d (show i<1000000 by omega)];have hne:(p.2.1[i]==31)=false:=by simp[h31]
   have hkb':=hkb;simp only[kB,a24,bA,dT,beq_iff_eq]at hkb';obtain⟨K,hK⟩:=a00 (show 0≤p.2.1[i]by omega);have hr:=c2d (k:=K) (by omega) hwp (by omega);have ec:b3C p.2.1[i] (l.take zn[i])=5+((l.take zn[i]).map (a5Q K)).sum:=by unfold b3C;rw[if_neg h31,hK];rfl
   rw[←hK]at hr;rw[ec]at hle⊢;generalize ((l.take zn[i]).map (a5Q K)).sum=r at hr hle⊢;have e1:wrap .i64 (5+(r:Int))=5+(r:Int):=a0g (by omega);have e2:wrap .i64 ((c:Int)+(5+(r:Int)))=((c+(5+r):Nat):Int):=by rw[a0g (by omega)];omega
   simp only[a1F,dlt hlt,h0,h1,a9u hlt,h2,h3,cT,cF,a03,tN,a0c hki,oB,hne,hr,e1,e2,a23,a0d (show i<1000000 by omega)]
  rw[a0p goal,b5S hk hall hz j (i+1) (l.drop zn[i]) _ (by omega) hrest.symm hwr (by rw[a21];omega) (by rw[a21];omega)];rw[a02 hlt,a02 hki];simp only[a4X];congr 3;omega
theorem c6W{p:Prt}{n warm:Int}{l:List Int}{zn:List Nat}(h:PartsOk p n warm l zn):a5B (p,n,warm,l)=some ((4+a4X zn p.2.1 l:Nat):Int):=by
 have hk:Go.Ab.short p.2.1:=by have:=h.ks;have:=h.len;unfold Go.Ab.short;omega
 have h5:=h.short;have hz:=h.len;have h1:=b5S h.ks h.all h.len zn.length 0 l 4 (by omega) (by rw[a26];exact h.sum) h.wide h.short (by omega);simp only[nZ,a09,a26]at h1;unfold a5B;simp only[b5M hk,h.may,b2O h.row h.rest h.wide h.short,oB,bT,cF,a2B,h.sizes,a1G,h1]
theorem c6X{p:Prt}{n warm:Int}{l:List Int}{zn:List Nat}(h:PartsOk p n warm l zn)(L:List Int):(a5h p zn l L).length=L.length+(4+a4X zn p.2.1 l):=by
 obtain⟨o,ho⟩:=a00 h.order.1;have h2:=h.order.2;unfold a5h;rw[c3Z _ _ _ _ h.all h.wide,ho,a2R (by omega),a7S (by omega) (by omega)];omega
end Go.Ab
namespace Go.Ab
def a2p(o:Int):Sub:=((0:Int),(0:Int),o,(0:Int),(0:Int),([]:List Int),a01 3 (0:Int),([]:List Stg),([]:List Int),((0:Int),([]:List Int),()),([]:List Int),())
theorem c9U(o:Int):SmallS (a2p o):=⟨by simp[a2p],by simp[a2p],by simp[a2p],by simp[a2p],by simp[a2p],by simp[a2p]⟩
end Go.Ab
namespace Go.Ab
end Go.Ab
namespace Go.Ab
open IntKind(wrap)
theorem d2g{x:Int}(h:-1048576≤x∧x≤1048575):a4d (a2y x (-1048576)) 1048575=x:=by
 unfold a4d a2y;have h1:decide ((-1048576:Int) > x)=false:=decide_eq_false (by omega);have h2:decide ((1048575:Int)<x)=false:=decide_eq_false (by omega);simp only[h1,cF,h2]
theorem d9w{x:Int}(h:a0b x=true):-1048576≤a0D .i64 x ((10:Nat):Int)∧a0D .i64 x ((10:Nat):Int)≤1048575:=by
 have hx:=a2h.1 h;have e:a0D .i64 x ((10:Nat):Int)=x / 1024:=by
  show b07 x 1024=_;exact a39 _ (by decide)
 rw[e];omega
theorem c6i{x:Int}(hx:a0b x=true){a l:List Int}{n i:Int}:∀(k s:Nat),s+k=10→∃s':Nat,s'≤10∧a0h a4x (a,(s:Int),x,l,n,i,())=some (a,(s':Int),l,n,i,())
 |0,s,h=>by
  obtain rfl:s=10:=by omega
  have d0:decide (((10:Nat):Int)<0)=false:=by decide
  have hs:=d2g (d9w hx);refine⟨10,a32 _,a0o ?_⟩;simp only[a4x,d0,cF,a3h,oB,hs,bne_self_eq_false]
 |k+1,s,h=>by
  have d0:decide ((s:Int)<0)=false:=decide_eq_false (by omega);cases hc:(a4d (a2y (a0D .i64 x (s:Int)) (-1048576)) 1048575 != a0D .i64 x (s:Int))with
  |false=>exact⟨s,by omega,a0o (by simp only[a4x,d0,cF,a3h,oB,hc])⟩
  |true=>
   obtain⟨s',h1,h2⟩:=c6i hx (a:=a) (l:=l) (n:=n) (i:=i) k (s+1) (by omega);refine⟨s',h1,?_⟩;rw[a0p (s':=(a,((s+1:Nat):Int),x,l,n,i,())) (by simp only[a4x,d0,cF,a3h,oB,hc,cT,a0d (show s<1000000 by omega)])];exact h2
theorem c9V{l:List Int}(hw:l.all a0b=true)(hl:l.length<100000):∃r,a8U l=some r∧r.length=l.length:=by
 obtain⟨b,h1,s,h2,h3⟩:=a8E (f:=a6y) (fun i st=>∃s:Nat,s≤10∧st=(l,(s:Int),l,(l.length:Int),(i:Int),())) (fun b=>∃s:Nat,s≤10∧b=(l,(s:Int),())) l.length
  (fun i st hi h=>by
   obtain⟨s,hs,rfl⟩:=h;obtain⟨s',hs',e⟩:=c6i (lA.1 hw _ (a06 hi)) (a:=l) (l:=l) (n:=(l.length:Int)) (i:=(i:Int)) (10-s) s (by omega);exact⟨_,by simp only[a6y,dlt hi,cT,a0c hi,oB,e,a0d (show i<1000000 by omega)]<;>rfl,s',hs',rfl⟩)
  (fun st h=>by
   obtain⟨s,hs,rfl⟩:=h;exact⟨_,by simp only[a6y,dge,cF]<;>rfl,s,hs,rfl⟩) l.length 0 _ (by omega) ⟨0,by omega,rfl⟩
 subst h3;obtain⟨c,g1,o,g2,g3⟩:=a8E (f:=a6z) (fun i st=>∃o:List Int,st=((s:Int),l,(l.length:Int),(i:Int),o,())∧o.length=l.length) (fun b=>∃o:List Int,b=(o,())∧o.length=l.length) l.length
  (fun i st hi h=>by
   obtain⟨o,rfl,ho⟩:=h;have d0:decide ((s:Int)<0)=false:=decide_eq_false (by omega);have d1:decide ((0:Int)≤(i:Int))=true:=by simp
   have d2:decide ((i:Int)<((o.length:Nat):Int))=true:=decide_eq_true (by omega);exact⟨_,by simp only[a6z,dlt hi,cT,a0c hi,oB,d0,cF,d1,d2,a03,a0d (show i<1000000 by omega)]<;>rfl,_,rfl,by simp[ho]⟩)
  (fun st h=>by
   obtain⟨o,rfl,ho⟩:=h;exact⟨_,by simp only[a6z,dge,cF]<;>rfl,o,rfl,ho⟩) l.length 0 _ (by omega) ⟨a01 l.length 0,rfl,by simp⟩
 subst g2;refine⟨o,?_,g3⟩;have d0:decide ((0:Int)≤((l.length:Nat):Int))=true:=by simp
 have d1:decide (((l.length:Nat):Int)≤((l.length:Nat):Int))=true:=by simp
 have d2:lim l.length=true:=a0H (by omega);simp only[nZ]at h1 g1;unfold a8U;simp only[h1,oB,d0,d1,d2,tN,a03,cT,g1]
theorem c4a:∀(N:Nat)(num den:Int),den.toNat≤N→∃a b,a0h a4s (num,den,())=some (a,b,())
 |N,num,den,h=>by
  by_cases hd:den≥1099511627776
  ·have d0:decide (den≥(1099511627776:Int))=true:=decide_eq_true hd;have e:a0D .i64 den 1=den / 2:=by
    show b07 den 2=_;exact a39 _ (by decide)
   rw[a0p (s':=(a0D .i64 num 1,den / 2,())) (by simp only[a4s,d0,cT,e])]
   match N with
   |0=>omega
   |N+1=>exact c4a N _ _ (by omega)
  have d0:decide (den≥(1099511627776:Int))=false:=decide_eq_false hd;exact⟨num,den,a0o (by simp only[a4s,d0,cF])⟩
theorem c4b{f g:List Int}{m:Nat}(hm:1≤m)(hg:g.length=f.length)(hl:f.length<100000)(hm2:m<1000):∃k,a5P (f,g,(m:Int))=some k:=by
 obtain⟨b,h1,num,den,h2⟩:=a8E (f:=a4r) (fun i st=>∃num den:Int,st=(f,g,num,den,((m+i:Nat):Int),())) (fun b=>∃num den:Int,b=(num,den,())) (f.length-m)
  (fun i st hi h=>by
   obtain⟨num,den,rfl⟩:=h;have hlt:m+i<f.length:=by omega
   have e:wrap .i64 (((m+i:Nat):Int)-1)=((m+i-1:Nat):Int):=by rw[a0g (by omega)];omega
   exact⟨_,by simp only[a4r,dlt hlt,cT,a0c hlt,e,a0c (show m+i-1<g.length by omega),oB,a0d (show m+i<1000000 by omega)]<;>rfl,_,_,rfl⟩)
  (fun st h=>by
   obtain⟨num,den,rfl⟩:=h;have d0:decide (((m+(f.length-m):Nat):Int)<((f.length:Nat):Int))=false:=decide_eq_false (by omega);exact⟨_,by simp only[a4r,d0,cF]<;>rfl,_,_,rfl⟩) (f.length-m) 0 (f,g,0,0,(m:Int),()) (by omega) ⟨0,0,rfl⟩
 subst h2;obtain⟨a,c,h3⟩:=c4a den.toNat num den (a32 _);unfold a5P;simp only[h1,oB,h3];cases hc:(c==0)with
 |true=>exact⟨0,rfl⟩
 |false=>
  simp only[cF];cases decide ((a0A .i64 a 15).tmod c<0)<;>exact⟨_,rfl⟩
theorem c6Y{f g ks:List Int}{m:Nat}{order k:Int}(hm:1≤m)(hg:g.length=f.length)(hl:f.length<100000)(hm2:m<1000):
  ∃f' g':List Int,a0h a3Z (order,(m:Int),k,((f.length:Nat):Int)-1,f,g,ks,())=some (order,(m:Int),f',g',ks,())∧f'.length=f.length∧g'.length=f.length:=by
 obtain⟨b,h1,f',g',h2,h3⟩:=a8E (f:=a3Z) (fun i st=>∃f' g':List Int,st=(order,(m:Int),k,((f.length:Nat):Int)-1-(i:Int),f',g',ks,())∧f'.length=f.length∧g'.length=f.length)
  (fun b=>∃f' g':List Int,b=(order,(m:Int),f',g',ks,())∧f'.length=f.length∧g'.length=f.length) (f.length-m)
  (fun i st hi h=>by
   obtain⟨f',g',rfl,hf',hg'⟩:=h;have d0:decide (((f.length:Nat):Int)-1-(i:Int)≥(m:Int))=true:=decide_eq_true (by omega);have d1:decide ((0:Int)≤((f.length:Nat):Int)-1-(i:Int))=true:=decide_eq_true (by omega);have d2:decide (((f.length:Nat):Int)-1-(i:Int)<((f'.length:Nat):Int))=true:=decide_eq_true (by omega);have d3:decide (((f.length:Nat):Int)-1-(i:Int)<((g'.length:Nat):Int))=true:=decide_eq_true (by omega);have e:wrap .i64 (((f.length:Nat):Int)-1-(i:Int)-1)=((f.length:Nat):Int)-1-((i+1:Nat):Int):=by rw[a0g (by omega)];omega
   have d4:decide ((0:Int)≤((f.length:Nat):Int)-1-((i+1:Nat):Int))=true:=decide_eq_true (by omega);have d5:decide (((f.length:Nat):Int)-1-((i+1:Nat):Int)<((g'.length:Nat):Int))=true:=decide_eq_true (by omega);exact⟨_,by simp only[a3Z,d0,d1,d2,d3,e,d4,d5,cT,a03,a3h,oB]<;>rfl,_,_,rfl,by simp[hf'],by simp[hg']⟩)
  (fun st h=>by
   obtain⟨f',g',rfl,hf',hg'⟩:=h;have d0:decide (((f.length:Nat):Int)-1-((f.length-m:Nat):Int)≥(m:Int))=false:=decide_eq_false (by omega);exact⟨_,by simp only[a3Z,d0,cF]<;>rfl,f',g',rfl,hf',hg'⟩) (f.length-m) 0 _ (by omega) ⟨f,g,rfl,rfl,hg⟩
 subst h2;simp only[nZ,Int.sub_zero]at h1;exact⟨f',g',h1,h3⟩
theorem c8L{f g:List Int}{o:Nat}(ho:o≤32)(hg:g.length=f.length)(hl:f.length<100000):∃ks:List Int,a0h a4a ((o:Int),(1:Int),f,g,([]:List Int),())=some (ks,())∧ks.length=o:=by
 obtain⟨b,h1,ks,h2,h3⟩:=a8E (f:=a4a) (fun i st=>∃f' g' ks:List Int,st=((o:Int),((i+1:Nat):Int),f',g',ks,())∧f'.length=f.length∧g'.length=f.length∧ks.length=i)
  (fun b=>∃ks:List Int,b=(ks,())∧ks.length=o) o
  (fun i st hi h=>by
   obtain⟨f',g',ks,rfl,hf',hg',hk⟩:=h;have d0:decide (((i+1:Nat):Int)≤(o:Int))=true:=decide_eq_true (by omega);obtain⟨k,hk2⟩:=c4b (f:=f') (g:=g') (m:=i+1) (by omega) (by omega) (by omega) (by omega);have e:wrap .i64 (((f'.length:Nat):Int)-1)=((f'.length:Nat):Int)-1:=a0g (by omega);obtain⟨f2,g2,h1,h2,h3⟩:=c6Y (f:=f') (g:=g') (ks:=ks++[k]) (m:=i+1) (order:=(o:Int)) (k:=k) (by omega) (by omega) (by omega) (by omega);have hlim:lim (ks.length+1)=true:=a0H (by omega);exact⟨_,by simp only[a4a,d0,cT,hk2,oB,hlim,e,a08,h1,a0d (show i+1<1000000 by omega)]<;>rfl,f2,g2,ks++[k],rfl,by omega,by omega,by simp[hk]⟩)
  (fun st h=>by
   obtain⟨f',g',ks,rfl,hf',hg',hk⟩:=h;have d0:decide (((o+1:Nat):Int)≤(o:Int))=false:=decide_eq_false (by omega);exact⟨_,by simp only[a4a,d0,cF]<;>rfl,ks,rfl,hk⟩) o 0 _ (by omega) ⟨f,g,[],rfl,rfl,hg,rfl⟩
 subst h2;exact⟨ks,h1,h3⟩
theorem c8M{l:List Int}(hw:l.all a0b=true)(hl:l.length≤4096){o:Nat}(h1:1≤o)(h2:o≤32):∃ks:List Int,a7M (l,(o:Int))=some (ks,0)∧ks.length=o:=by
 have hs:short l:=by unfold short;omega
 obtain⟨r,e1,e2⟩:=c9V hw (by omega);have hr:short r:=by unfold short;omega
 obtain⟨ks,e3,e4⟩:=c8L (f:=r) (g:=r) h2 rfl (by omega);have c1:decide ((o:Int)<1)=false:=decide_eq_false (by omega);have c2:decide ((o:Int) > 32)=false:=decide_eq_false (by omega);have c3:decide (((l.length:Nat):Int) > 4096)=false:=decide_eq_false (by omega);have c4:decide ((0:Int)≤(o:Int))=true:=by simp
 have c5:lim o=true:=a0H (by omega);refine⟨ks,?_,e4⟩;unfold a7M;simp only[c1,c2,c3,c4,c5,cF,cT,oB,a6X hs,hw,bT,e1,a9s hr,tN,a03,e3]
end Go.Ab
namespace Go.Ab
open IntKind(wrap)
theorem b5T{σ β:Type}{f:σ→Option (σ ⊕ β)}(I:Nat→σ→Prop)(Q:β→Prop)(n:Nat)(hstep:∀i s,i<n→I i s→(∃s',f s=some (.inl s')∧I (i+1) s')∨(∃b,f s=some (.inr b)∧Q b))
  (hexit:∀s,I n s→∃b,f s=some (.inr b)∧Q b):∀(k i:Nat)(s:σ),i+k=n→I i s→∃b,a0h f s=some b∧Q b
 |0,i,s,h,hi=>by
  obtain rfl:i=n:=by omega
  obtain⟨b,h1,h2⟩:=hexit s hi;exact⟨b,a0o h1,h2⟩
 |k+1,i,s,h,hi=>by
  rcases hstep i s (by omega) hi with⟨s',h1,h2⟩|⟨b,h1,h2⟩;rw[a0p h1];exact b5T I Q n hstep hexit k (i+1) s' (by omega) h2;exact⟨b,a0o h1,h2⟩
theorem c9W{ks:List Int}(hl:ks.length≤32):∃b,a0h a2I (ks,ks,(ks.length:Int),(0:Int),())=some b∧(b=.inl (ks,())∨b=.inr (([]:List Int),(1:Int),())):=
 b5T (f:=a2I) (fun i s=>s=(ks,ks,(ks.length:Int),(i:Int),())) (fun b=>b=.inl (ks,())∨b=.inr (([]:List Int),(1:Int),())) ks.length
  (fun i s hi h=>by
   subst h;cases h1:decide (ks[i]<(-16383:Int))with
   |true=>exact Or.inr ⟨_,by simp only[a2I,dlt hi,cT,a0c hi,oB,h1]<;>rfl,Or.inr rfl⟩
   |false=>
    cases h2:decide (ks[i] > (16383:Int))with
    |true=>exact Or.inr ⟨_,by simp only[a2I,dlt hi,cT,cF,a0c hi,oB,h1,h2]<;>rfl,Or.inr rfl⟩
    |false=>exact Or.inl ⟨_,by simp only[a2I,dlt hi,cT,cF,a0c hi,oB,h1,h2,a0d (show i<1000000 by omega)]<;>rfl,rfl⟩)
  (fun s h=>by
   subst h;exact⟨_,by simp only[a2I,dge,cF]<;>rfl,Or.inl rfl⟩) ks.length 0 _ (by omega) rfl
theorem c9X{c a:List Int}{i:Nat}{k n:Int}(hc:c.length=i)(hi:i≤32):
  ∃nx:List Int,a0h a4U (c,(i:Int),k,a,n,(i:Int),c,(c.length:Int),(0:Int),([]:List Int),())=some (k,a,n,(i:Int),nx,())∧nx.length=i:=by
 obtain⟨b,h1,nx,h2,h3⟩:=a8E (f:=a4U) (fun j s=>∃nx:List Int,s=(c,(i:Int),k,a,n,(i:Int),c,(c.length:Int),(j:Int),nx,())∧nx.length=j)
  (fun b=>∃nx:List Int,b=(k,a,n,(i:Int),nx,())∧nx.length=c.length) c.length
  (fun j s hj h=>by
   obtain⟨nx,rfl,hn⟩:=h;have e1:wrap .i64 ((i:Int)-1)=(i:Int)-1:=a0g (by omega);have e2:wrap .i64 ((i:Int)-1-(j:Int))=((i-1-j:Nat):Int):=by rw[a0g (by omega)];omega
   have hlim:lim (nx.length+1)=true:=a0H (by omega);exact⟨_,by simp only[a4U,dlt hj,cT,a0c hj,oB,e1,e2,a0c (show i-1-j<c.length by omega),hlim,a0d (show j<1000000 by omega),a08]<;>rfl,_,rfl,by simp[hn]⟩)
  (fun s h=>by
   obtain⟨nx,rfl,hn⟩:=h;exact⟨_,by simp only[a4U,dge,cF]<;>rfl,nx,rfl,hn⟩) c.length 0 _ (by omega) ⟨[],rfl,rfl⟩
 subst h2;exact⟨nx,h1,by omega⟩
theorem d2h{ks:List Int}(h1:1≤ks.length)(hl:ks.length≤32):∃c e,a9U ks=some (c,e)∧(e=0→c.length=ks.length):=by
 obtain⟨b,g1,g2⟩:=c9W hl;have c1:decide (((ks.length:Nat):Int)<1)=false:=decide_eq_false (by omega);have c2:decide (((ks.length:Nat):Int) > 32)=false:=decide_eq_false (by omega);unfold a9U;simp only[c1,c2,cF,oB,g1];rcases g2 with rfl|rfl;obtain⟨r,h2,c,h3,h4⟩:=a8E (f:=a6W) (fun i s=>∃c:List Int,s=(c,ks,(ks.length:Int),(i:Int),())∧c.length=i) (fun r=>∃c:List Int,r=(c,())∧c.length=ks.length) ks.length
  (fun i s hi h=>by
   obtain⟨c,rfl,hc⟩:=h;have e1:wrap .i64 ((i:Int)+1)=((i+1:Nat):Int):=a0d (by omega);have d1:decide ((0:Int)≤((i+1:Nat):Int))=true:=by simp;omega
   have l1:lim (i+1)=true:=a0H (by omega);obtain⟨nx,n1,n2⟩:=c9X (c:=c) (a:=ks) (i:=i) (k:=ks[i]) (n:=(ks.length:Int)) hc (by omega);have l2:lim (nx.length+1)=true:=a0H (by omega);exact⟨_,by simp only[a6W,dlt hi,cT,a0c hi,oB,e1,d1,tN,l1,a03,n1,l2,a08]<;>rfl,_,rfl,by simp[n2]⟩)
  (fun s h=>by
   obtain⟨c,rfl,hc⟩:=h;exact⟨_,by simp only[a6W,dge,cF]<;>rfl,c,rfl,hc⟩) ks.length 0 _ (by omega) ⟨[],rfl,rfl⟩
 subst h3;simp only[nZ]at h2;exact⟨c,0,by simp only[h2,oB],fun _=>h4⟩;exact⟨[],1,rfl,fun h=>absurd h (by decide)⟩
theorem c9Y{c:List Int}{s:Nat}{w:Nat}{half:Int}(hc:c.length≤32)(hw:w≤32):
  ∃out:List Int,a0h a2K (c,(w:Int),(s:Int),half,c,(c.length:Int),(0:Int),([]:List Int),())=some (c,(w:Int),(s:Int),out,()):=by
 obtain⟨b,h1,out,h2⟩:=b5T (f:=a2K) (fun j st=>∃out:List Int,st=(c,(w:Int),(s:Int),half,c,(c.length:Int),(j:Int),out,())∧out.length=j)
  (fun b=>∃out:List Int,b=(c,(w:Int),(s:Int),out,())) c.length
  (fun j st hj h=>by
   obtain⟨out,rfl,ho⟩:=h;have d0:decide ((s:Int)<0)=false:=decide_eq_false (by omega);have hlim:lim (out.length+1)=true:=a0H (by omega);cases hf:a1U (a0D .i64 (wrap .i64 (c[j]+half)) (s:Int)) (w:Int)with
   |true=>exact Or.inl ⟨_,by simp only[a2K,dlt hj,cT,a0c hj,oB,d0,cF,a7t hw,hf,bT,hlim,a0d (show j<1000000 by omega),a08]<;>rfl,_,rfl,by simp[ho]⟩
   |false=>exact Or.inr ⟨_,by simp only[a2K,dlt hj,cT,a0c hj,oB,d0,cF,a7t hw,hf,a18]<;>rfl,out,rfl⟩)
  (fun st h=>by
   obtain⟨out,rfl,ho⟩:=h;exact⟨_,by simp only[a2K,dge,cF]<;>rfl,out,rfl⟩) c.length 0 _ (by omega) ⟨[],rfl,rfl⟩
 subst h2;exact⟨out,h1⟩
end Go.Ab
namespace Go.Ab
open IntKind(wrap)
theorem c9Z{c:List Int}{w:Int}(hl:c.length≤32):∃b,a0h a2J (c,w,c,(c.length:Int),(0:Int),())=some b∧(b=.inl (c,w,())∨b=.inr ((0:Int),(1:Int),([]:List Int),())):=
 b5T (f:=a2J) (fun i s=>s=(c,w,c,(c.length:Int),(i:Int),())) (fun b=>b=.inl (c,w,())∨b=.inr ((0:Int),(1:Int),([]:List Int),())) c.length
  (fun i s hi h=>by
   subst h;cases h1:decide (c[i]<(-35184372088832:Int))with
   |true=>exact Or.inr ⟨_,by simp only[a2J,dlt hi,cT,a0c hi,oB,h1]<;>rfl,Or.inr rfl⟩
   |false=>
    cases h2:decide (c[i] > (35184372088832:Int))with
    |true=>exact Or.inr ⟨_,by simp only[a2J,dlt hi,cT,cF,a0c hi,oB,h1,h2]<;>rfl,Or.inr rfl⟩
    |false=>exact Or.inl ⟨_,by simp only[a2J,dlt hi,cT,cF,a0c hi,oB,h1,h2,a0d (show i<1000000 by omega)]<;>rfl,rfl⟩)
  (fun s h=>by
   subst h;exact⟨_,by simp only[a2J,dge,cF]<;>rfl,Or.inl rfl⟩) c.length 0 _ (by omega) rfl
theorem d2i{c:List Int}{w:Nat}(h1:1≤c.length)(hl:c.length≤32)(hw:2≤w∧w≤16):∃o sh e,a9V (c,(w:Int))=some (o,sh,e)∧(e=0→o.length=c.length):=by
 obtain⟨b,g1,g2⟩:=c9Z (w:=(w:Int)) hl;have c1:decide (((c.length:Nat):Int)<1)=false:=decide_eq_false (by omega);have c2:decide (((c.length:Nat):Int) > 32)=false:=decide_eq_false (by omega);have c3:decide ((w:Int)<2)=false:=decide_eq_false (by omega);have c4:decide ((w:Int) > 16)=false:=decide_eq_false (by omega);unfold a9V;simp only[c1,c2,c3,c4,cF,oB,g1];rcases g2 with rfl|rfl
 ·obtain⟨r,h2,h3⟩:=b5T (f:=a2L) (fun i s=>s=(c,(w:Int),(i:Int),())) (fun r=>r=.inl ()∨∃(sh:Int)(o:List Int),r=.inr (sh,(0:Int),o,())∧o.length=c.length) 15
   (fun i s hi h=>by
    subst h;have d0:decide ((i:Int)≤14)=true:=decide_eq_true (by omega);have d1:decide ((0:Int)≤((c.length:Nat):Int))=true:=by simp
    have l1:lim c.length=true:=a0H (by omega);have step:∀half:Int,∃o:List Int,a0h a2K (c,(w:Int),(i:Int),half,c,(c.length:Int),(0:Int),([]:List Int),())=some (c,(w:Int),(i:Int),o,()):=fun half=>c9Y hl (by omega)
    by_cases hp:(i:Int) > 0
    ·have e1:wrap .i64 ((i:Int)-1)=(i:Int)-1:=a0g (by omega);have d2:decide ((i:Int)-1<0)=false:=decide_eq_false (by omega);obtain⟨o,ho⟩:=step (a0A .i64 1 ((i:Int)-1));cases hc:((((o.length:Nat):Int))==((c.length:Nat):Int))with
     |true=>exact Or.inr ⟨_,by simp only[a2L,d0,cT,hp,decide_true,e1,d2,cF,oB,d1,tN,l1,a03,ho,hc]<;>rfl,Or.inr ⟨_,o,rfl,by have:=beq_iff_eq.1 hc;omega⟩⟩
     |false=>exact Or.inl ⟨_,by simp only[a2L,d0,cT,hp,decide_true,e1,d2,cF,oB,d1,tN,l1,a03,ho,hc,a0d (show i<1000000 by omega)]<;>rfl,rfl⟩
    ·obtain⟨o,ho⟩:=step 0;cases hc:((((o.length:Nat):Int))==((c.length:Nat):Int))with
     |true=>exact Or.inr ⟨_,by simp only[a2L,d0,cT,hp,decide_false,cF,oB,d1,tN,l1,a03,ho,hc]<;>rfl,Or.inr ⟨_,o,rfl,by have:=beq_iff_eq.1 hc;omega⟩⟩
     |false=>exact Or.inl ⟨_,by simp only[a2L,d0,cT,hp,decide_false,cF,oB,d1,tN,l1,a03,ho,hc,a0d (show i<1000000 by omega)]<;>rfl,rfl⟩)
   (fun s h=>by
    subst h;have d0:decide (((15:Nat):Int)≤14)=false:=by decide
    exact⟨_,by simp only[a2L,d0,cF]<;>rfl,Or.inl rfl⟩) 15 0 (c,(w:Int),(0:Int),()) (by omega) rfl
  rcases h3 with rfl|⟨sh,o,rfl,ho⟩;exact⟨[],0,6,by simp only[h2,oB],fun h=>absurd h (by decide)⟩;exact⟨o,sh,0,by simp only[h2,oB],fun _=>ho⟩
 exact⟨[],0,1,rfl,fun h=>absurd h (by decide)⟩
theorem d3G{l:List Int}(hw:l.all a0b=true)(hl:l.length≤4096){o w:Nat}(h1:1≤o)(h2:o≤32)(h3:2≤w∧w≤16):∃c sh e,a4M (l,(o:Int),(w:Int))=some (c,sh,e)∧(e=0→c.length=o):=by
 obtain⟨ks,e1,e2⟩:=c8M hw hl h1 h2;obtain⟨c,e,g1,g2⟩:=d2h (ks:=ks) (by omega) (by omega);unfold a4M;simp only[e1,oB,show((0:Int) != 0)=false from rfl,cF,g1]
 by_cases he:e=0
 subst he;obtain⟨o',sh,e',g3,g4⟩:=d2i (c:=c) (w:=w) (by have:=g2 rfl;omega) (by have:=g2 rfl;omega) h3
 have:=g2 rfl
 exact⟨o',sh,e',by simp only[show((0:Int) != 0)=false from rfl,cF,g3,oB],fun h=>by have:=g4 h;omega⟩;have hne:(e != 0)=true:=by simpa using he
 exact⟨[],0,e,by simp only[hne,cT],fun h=>absurd h he⟩
theorem d2j{l:List Int}{o:Nat}(hl:l.length<100000)(ho:o≤4):∃v,b0Q (l,(o:Int))=some v:=by
 obtain⟨b,h1,v,h2⟩:=a8E (f:=a5G) (fun i s=>∃v:Int,s=((o:Int),v,l,(l.length:Int),(i:Int),())) (fun b=>∃v:Int,b=(v,())) l.length
  (fun i s hi h=>by
   obtain⟨v,rfl⟩:=h;cases hc:decide (wrap .i64 ((i:Int)+(o:Int))≥4)with
   |true=>exact⟨_,by simp only[a5G,dlt hi,cT,a0c hi,oB,hc,a0d (show i<1000000 by omega)]<;>rfl,_,rfl⟩
   |false=>exact⟨_,by simp only[a5G,dlt hi,cT,cF,a0c hi,oB,hc,a0d (show i<1000000 by omega)]<;>rfl,_,rfl⟩)
  (fun s h=>by
   obtain⟨v,rfl⟩:=h;exact⟨_,by simp only[a5G,dge,cF]<;>rfl,v,rfl⟩) l.length 0 ((o:Int),(0:Int),l,(l.length:Int),(0:Int),()) (by omega) ⟨0,rfl⟩
 subst h2;refine⟨v,?_⟩;unfold b0Q;simp only[h1,oB]
theorem c4c{l:List Int}{o:Nat}(ho:o≤4)(hs:l.length<100000)(hw:l.all a0b=true):∃r e,a5E (l,(o:Int))=some (r,e)∧r.length≤l.length:=by
 by_cases hn:o≤l.length
 ·rw[b9H ho hn (by unfold short;omega) hw];cases (a2n o l).all a0b with
  |true=>exact⟨_,_,rfl,by rw[a6L];omega⟩
  |false=>exact⟨_,_,rfl,by simp⟩
 have c1:decide ((o:Int)<0)=false:=decide_eq_false (by omega);have c2:decide ((o:Int) > 4)=false:=decide_eq_false (by omega);have c3:decide (((l.length:Nat):Int)<(o:Int))=true:=decide_eq_true (by omega);exact⟨[],1,by unfold a5E;simp only[c1,c2,c3,cF,cT,oB],by simp⟩
theorem c4d{l:List Int}(hs:l.length<100000)(hw:l.all a0b=true):∃o:Nat,a7k l=some (o:Int)∧o≤4:=by
 obtain⟨b,h1,o,h2,h3⟩:=a8E (f:=a3A) (fun i s=>∃(o:Nat)(v:Int),s=(l,(o:Int),v,(i:Int),())∧o≤4) (fun b=>∃o:Nat,b=((o:Int),())∧o≤4) 5
  (fun i s hi h=>by
   obtain⟨o,v,rfl,ho⟩:=h;have d0:decide ((i:Int)≤4)=true:=decide_eq_true (by omega);obtain⟨r,e,g1,g2⟩:=c4c (o:=i) (by omega) hs hw;obtain⟨y,g3⟩:=d2j (l:=r) (o:=i) (by omega) (by omega);cases hc:(e != 0)with
   |true=>exact⟨_,by simp only[a3A,d0,cT,g1,oB,hc,a0d (show i<1000000 by omega)]<;>rfl,o,v,rfl,ho⟩
   |false=>
    cases h4:decide (v<0)with
    |true=>exact⟨_,by simp only[a3A,d0,cT,cF,g1,oB,hc,g3,h4,a0d (show i<1000000 by omega)]<;>rfl,i,y,rfl,by omega⟩
    |false=>
     cases h5:decide (y<v)with
     |true=>exact⟨_,by simp only[a3A,d0,cT,cF,g1,oB,hc,g3,h4,h5,a0d (show i<1000000 by omega)]<;>rfl,i,y,rfl,by omega⟩
     |false=>exact⟨_,by simp only[a3A,d0,cT,cF,g1,oB,hc,g3,h4,h5,a0d (show i<1000000 by omega)]<;>rfl,o,v,rfl,ho⟩)
  (fun s h=>by
   obtain⟨o,v,rfl,ho⟩:=h;have d0:decide (((5:Nat):Int)≤4)=false:=by decide
   exact⟨_,by simp only[a3A,d0,cF]<;>rfl,o,rfl,ho⟩) 5 0 (l,(0:Int),(-1:Int),(0:Int),()) (by omega) ⟨0,-1,rfl,by omega⟩
 subst h2;refine⟨o,?_,h3⟩;unfold a7k;simp only[h1,oB]
end Go.Ab
namespace Go.Ab
open IntKind(wrap)
def b0U(g:List Int→Int):List Int→List Int→List Int
 | [],_=>[]
 |x::r,done=>W (x-g done)::b0U g r (done++[x])
theorem b5U(g:List Int→Int):∀r done,(b0U g r done).length=r.length
 | [],_=>rfl
 |x::r,done=>by simp[b0U,b5U g r]
theorem d3H{x g:Int}(h:a0b x=true):W (W (x-g)+g)=x:=by
 have:=c0L h
 simp_all[a9r]
theorem b8O(g:List Int→Int):∀(r done:List Int),r.all a0b=true→a5c g (b0U g r done) done=some (done++r)
 | [],done,_=>by simp[b0U,a5c]
 |x::r,done,h=>by
  rw[a07,bA]at h;simp only[b0U,a5c,d3H h.1,h.1,cT,b8O g r (done++[x]) h.2,aA,a64]
def b3D(g:List Int→Int)(r done:List Int):Option (List Int):=bif (b0U g r done).all a0b then some (b0U g r done)else none
def b6E{β:Type}(g:List Int→Int)(bad:β)(a:List Int×List Int)(x:Int):(List Int×List Int) ⊕ β:=
 bif a0b (W (x-g a.1))then .inl (a.1++[x],a.2++[W (x-g a.1)])else .inr bad
theorem b8P{β:Type}(g:List Int→Int)(bad:β)(fin:List Int×List Int→β):∀(r done acc:List Int),
  b0e fin (a3D (b6E g bad) r (done,acc))=match b3D g r done with|some e=>fin (done++r,acc++e)|none=>bad
 | [],done,acc=>by grind[a3D,b0e,b3D,b0U]
 |x::r,done,acc=>by
  simp[a3D,b6E];cases h:a0b (W (x-g done))with
  |true=>
   simp
   rw[b8P g bad fin r];simp only[b3D,b0U,a07,h,a41]
   grind
  |false=>simp_all[b0e,b3D,b0U]
theorem c4e{g:List Int→Int}{r done e:List Int}(h:b3D g r done=some e):e=b0U g r done∧e.all a0b=true:=by
 unfold b3D at h
 grind
theorem c6j{l:List Int}{i:Nat}(h:i<l.length):l.take i++[l[i]]=l.take (i+1):=by simp
theorem b8Q{l:List Int}{p:Int→Bool}(h:l.all p=true)(i:Nat):(l.take i).all p=true:=by
 grind
theorem d5d{l:List Int}{p:Int→Bool}(h:l.all p=true)(i:Nat):(l.drop i).all p=true:=by
 grind
theorem c6k{σ β:Type}{f:σ→Option (σ ⊕ β)}(l:List Int)(k:Nat)(hk:k≤l.length)(S:Nat→List Int→σ)(g:List Int×List Int→Int→(List Int×List Int) ⊕ β)(fin:List Int→β)
  (hstep:∀i (h:i<l.length) acc,k≤i→acc.length=i-k→(∀a',g (l.take i,acc) l[i]=.inl a'→f (S i acc)=some (.inl (S (i+1) a'.2))∧a'.1=l.take (i+1)∧a'.2.length=i+1-k)∧(∀b,g (l.take i,acc) l[i]=.inr b→f (S i acc)=some (.inr b)))
  (hexit:∀acc,acc.length=l.length-k→f (S l.length acc)=some (.inr (fin acc))):a0h f (S k [])=some (b0e (fun a=>fin a.2) (a3D g (l.drop k) (l.take k,[]))):=by
 have h:=a2t (f:=f) (l.drop k) (fun i a=>S (k+i) a.2) g (fun i a=>a.1=l.take (k+i)∧a.2.length=i) (fun a=>fin a.2)
  (fun i hi a ha=>by
   obtain⟨a1,acc⟩:=a;obtain⟨h1,h2⟩:=ha;simp only at h1 h2;subst h1;rw[a21]at hi;have hlt:k+i<l.length:=by omega
   grind)
  (fun a ha=>by
   simp_all) (a:=(l.take k,[])) ⟨by simp,rfl⟩
 omega
def b8R(l c:List Int)(s:Int):Option (List Int):=bif l.all a0b then b3D (b2M c s) (l.drop c.length) (l.take c.length)else none
theorem b8c{l c:List Int}{s:Int}(hl:b0f c s=true)(hc:c.length≤l.length)(hr:l.length<100000):
  a8k (l,c,s)=some (a5T (b8R l c s)):=by
 have hs:short l:=by unfold short;omega
 have hcs:short c:=by unfold short;omega
 have h0:0≤s:=by simp_all[b0f]
 have e1:decide (((l.length:Nat):Int)<((c.length:Nat):Int))=false:=by simp_all
 unfold a8k b8R;simp only[b0R hcs,hl,oB,bT,cF,e1,a6X hs];cases hw:l.all a0b with
 |false=>rfl
 |true=>
  have e2:wrap .i64 (((l.length:Nat):Int)-((c.length:Nat):Int))=((l.length-c.length:Nat):Int):=by grind[a0g]
  have e3:decide ((0:Int)≤((l.length-c.length:Nat):Int))=true:=by simp
  have e4:lim (l.length-c.length)=true:=a0H (by omega);simp[e2,e4]
  have:=c6k (f:=a5F) l c.length hc (fun i acc=>(l,c,s,(i:Int),acc,())) (b6E (b2M c s) (.inr ((6:Int),([]:List Int),()))) (fun acc=>.inl (acc,()))
   (fun i hi acc hki hacc=>by
    have ht:short (l.take i):=by unfold short;grind
    have h1:decide ((0:Int)≤(i:Int))=true:=by simp
    have h2:decide ((i:Int)≤((l.length:Nat):Int))=true:=by grind
    have h3:lim (acc.length+1)=true:=a0H (by omega);constructor
    ·intro a' ha';unfold b6E at ha';cases hq:a0b (W (l[i]-b2M c s (l.take i)))with
     |false=>simp_all
     |true=>
      simp only[hq,cT,Sum.inl.injEq]at ha';subst ha';refine⟨?_,c6j hi,by grind⟩;simp only[a5F,dlt hi,cT,a0c hi,oB,h1,h2,a03,tN,b8F ht hcs h0,a7p,hq,bT,cF,h3,a0d (a47 hi hs),a08]
    ·intro b hb;unfold b6E at hb;cases hq:a0b (W (l[i]-b2M c s (l.take i)))with
     |true=>simp_all
     |false=>
      simp[hq]at hb;subst hb;simp only[a5F,dlt hi,cT,a0c hi,oB,h1,h2,a03,tN,b8F ht hcs h0,a7p,hq,a18])
   (fun acc hacc=>by simp[a5F])
  rw[this,b8P];cases b3D (b2M c s) (l.drop c.length) (l.take c.length)<;>rfl
theorem b8S{l c r:List Int}{s:Int}(h:b8R l c s=some r):b5I (l.take c.length) r c s=some l∧r.all a0b=true∧r.length=l.length-c.length:=by
 unfold b8R at h;cases hw:l.all a0b with
 |false=>simp_all
 |true=>
  simp[hw]at h;obtain⟨e,hr⟩:=c4e h;refine⟨?_,hr,by simp_all[b5U]⟩;simp[b5I,b8Q hw,hr]
  grind[b8O,List.take_append_drop]
def b8d(l:List Int)(lag:Int)(t:List Int):Option (List Int):=bif l.all a0b then b3D (b0S lag t) l []else none
theorem c8N{l t:List Int}{lag:Int}(hl:b3y lag t=true)(ht:t.length=3)(hr:l.length<100000):
  a8C (l,lag,t)=some (a5T (b8d l lag t)):=by
 have hs:short l:=by unfold short;omega
 obtain⟨h1,h2⟩:2≤lag∧lag≤1024:=by simp_all[b3y]
 unfold a8C b8d;simp only[b7i ht,hl,oB,bT,cF,b6u hs];cases hw:l.all a0b with
 |false=>rfl
 |true=>
  have e3:decide ((0:Int)≤((l.length:Nat):Int))=true:=by simp
  have e4:lim l.length=true:=a0H (by omega);simp[e4]
  have:=c6k (f:=a7j) l 0 (Nat.zero_le _) (fun i acc=>(l,lag,l,(l.length:Int),(i:Int),acc,t,())) (b6E (b0S lag t) (.inr ((6:Int),([]:List Int),()))) (fun acc=>.inl (acc,()))
   (fun i hi acc hki hacc=>by
    have h3:lim (acc.length+1)=true:=a0H (by omega);have hp:=b6w (lag:=lag) (t:=t) (a94 hi) hs ht h1 h2;constructor
    ·intro a' ha';unfold b6E at ha';cases hq:a0b (W (l[i]-b0S lag t (l.take i)))with
     |false=>simp_all
     |true=>
      simp only[hq,cT,Sum.inl.injEq]at ha';subst ha';refine⟨?_,c6j hi,by simp_all⟩;simp only[a7j,dlt hi,cT,a0c hi,oB,hp,a9q,hq,bT,cF,h3,a0d (a47 hi hs),a08]
    ·intro b hb;unfold b6E at hb;cases hq:a0b (W (l[i]-b0S lag t (l.take i)))with
     |true=>simp_all
     |false=>
      simp_all[a7j,a0c,a9q])
   (fun acc hacc=>by simp[a7j])
  simp only[nZ]at this;rw[this,b8P,a26,List.take_zero];cases b3D (b0S lag t) l []<;>rfl
theorem c0P{l t r:List Int}{lag:Int}(h:b8d l lag t=some r):b6x r lag t=some l∧r.all a0b=true∧r.length=l.length:=by
 unfold b8d at h;cases hw:l.all a0b with
 |false=>simp_all
 |true=>
  simp[hw]at h;obtain⟨e,hr⟩:=c4e h;refine⟨?_,hr,by rw[e,b5U]⟩;simp[b6x,hr];simp_all[b8O]
end Go.Ab
namespace Go.Ab
def rsG:List Int→Fil→List Int
 | [],_=>[]
 |x::r,f=>W (x-a1l f)::rsG r (b4M f x)
theorem b8T:∀r f,(rsG r f).length=r.length
 | [],_=>rfl
 |x::r,f=>by simp[rsG,b8T r]
def rsO:List Int→List Int→Fil→Option (List Int)
 | [],done,_=>some done
 |x::r,done,f=>bif a0b (W (x-a1l f))then rsO r (done++[W (x-a1l f)]) (b4M f x)else none
theorem d3I:∀(r done:List Int)(f:Fil),rsO r done f=bif (rsG r f).all a0b then some (done++rsG r f)else none
 | [],done,f=>by simp[rsO,rsG]
 |x::r,done,f=>by
  simp only[rsO,rsG,a07];cases a0b (W (x-a1l f))with
  |false=>rfl
  |true=>simp only[cT,a41,d3I r,aA,a64]
theorem d0B:∀(r z:List Int)(f:Fil),r.all a0b=true→stO (rsG r f) z f=some (z++r)
 | [],z,f,_=>by simp[rsG,stO]
 |x::r,z,f,h=>by
  rw[a07,bA]at h;have e:W (a1l f+W (x-a1l f))=x:=by rw[Int.add_comm];exact d3H h.1
  simp only[rsG,stO,e,h.1,cT,d0B r _ _ h.2,aA,a64]
theorem b6F{row:List Int}{a:List Stg}{b c:Int}(hs:short row):∀(k i:Nat)(done:List Int)(f:Fil),i+k=row.length→done.length=i→FilOk f→
  a0h a6w (a,b,c,(row.length:Int),(i:Int),done++row.drop i,f,())=some (match rsO (row.drop i) done f with
   |some r=>.inl (a,b,c,r,())
   |none=>.inr ((6:Int),([]:List Int),()))
 |0,i,done,f,h,hd,hf=>by
  obtain rfl:i=row.length:=by omega
  rw[a45,a40];exact a0o (b:=Sum.inl (a,b,c,done,())) (by simp[a6w])
 |k+1,i,done,f,h,hd,hf=>by
  have hi:i<row.length:=by omega
  have hs':row.length<1000000:=hs;have h0:decide ((0:Int)≤(i:Int))=true:=by simp
  have hl:(done++row.drop i).length=row.length:=by simp;omega
  have h1:decide ((i:Int)<(((done++row.drop i).length:Nat):Int))=true:=by rw[hl];simp;omega
  have hst:rsO (row.drop i) done f=bif a0b (W (row[i]-a1l f))then rsO (row.drop (i+1)) (done++[W (row[i]-a1l f)]) (b4M f row[i])else none:=by
   rw[a02 hi];rfl
  rw[hst];cases hw:a0b (W (row[i]-a1l f))with
  |true=>
   rw[a0p (s':=(a,b,c,(row.length:Int),((i+1:Nat):Int),(done++[W (row[i]-a1l f)])++row.drop (i+1),b4M f row[i],())) (by
    simp only[a6w,dlt hi,h0,h1,cT,a03,a7q hf,oB,tN,b6y hd hi,a6e,hw,bT,cF,b9C hf,c8t hd hi,a0d (show i<1000000 by omega)])]
   exact b6F hs k (i+1) _ _ (by omega) (by simp;omega) (c8s hf _)
  |false=>
   exact a0o (by
    simp only[a6w,dlt hi,h0,h1,cT,a03,a7q hf,oB,tN,b6y hd hi,a6e,hw,a18];rfl)
def lRO:List Stg→List Int→Option (List Int)
 | [],row=>some row
 |s::r,row=>match rsO row [] (b2g s)with
  |some row'=>lRO r row'
  |none=>none
theorem c8O{row d:List Int}{f:Fil}(h:rsO row [] f=some d):d=rsG row f∧d.all a0b=true:=by
 rw[d3I]at h;cases hc:(rsG row f).all a0b with
 |true=>simp only[hc,cT,a05,sj]at h;subst h;exact⟨rfl,hc⟩
 |false=>simp[hc]at h
theorem c6l:∀(a b:List Stg)(row:List Int),lO (a++b) row=match lO a row with|some r=>lO b r|none=>none
 | [],b,row=>rfl
 |s::a,b,row=>by
  simp only[a78,lO];split;exact c6l a b _;rfl
theorem c8P:∀(st:List Stg)(row d:List Int),row.all a0b=true→lRO st row=some d→lO st.reverse d=some row∧d.all a0b=true∧d.length=row.length
 | [],row,d,hw,h=>by
  simp only[lRO,sj]at h;subst h;exact⟨rfl,hw,rfl⟩
 |s::st,row,d,hw,h=>by
  simp only[lRO]at h
  split at h
  rename_i row' hr;obtain⟨e,hw'⟩:=c8O hr;obtain⟨h1,h2,h3⟩:=c8P st row' d hw' h;refine⟨?_,h2,by rw[h3,e,b8T]⟩;rw[List.reverse_cons,c6l,h1];simp only[lO];rw[e,d0B row [] _ hw,a05];cases h
theorem b4r{st:List Stg}(hst:∀s∈st,stageB s=true)(hl:st.length≤3):∀(j k:Nat)(row:List Int),k+j=st.length→short row→
  a0h a6x (st,(st.length:Int),(k:Int),row,())=some (match lRO (st.drop k) row with
   |some r=>.inl (r,())
   |none=>.inr ((6:Int),([]:List Int),()))
 |0,k,row,h,hs=>by
  obtain rfl:k=st.length:=by omega
  rw[a45];exact a0o (by simp[a6x,lRO])
 |j+1,k,row,h,hs=>by
  have hk:k<st.length:=by omega
  have hstage:=hst _ (a06 hk);have h1:=b6F (a:=st) (b:=(st.length:Int)) (c:=(k:Int)) hs row.length 0 [] (b2g st[k]) (by omega) rfl (d0A hstage);simp only[nZ,a26,a05]at h1;have hne:((0:Int) != 0)=false:=rfl;rw[a02 hk];simp only[lRO];cases hr:rsO row [] (b2g st[k])with
  |some r=>
   rw[hr]at h1;rw[a0p (s':=(st,(st.length:Int),((k+1:Nat):Int),r,())) (by simp only[a6x,dlt hk,cT,a0c hk,oB,b5K hstage,hne,cF,h1,a0d (show k<1000000 by omega)])];exact b4r hst hl j (k+1) r (by omega) (by have:=(c8O hr).1;unfold short at hs⊢;rw[this,b8T];exact hs)
  |none=>
   rw[hr]at h1;exact a0o (by simp only[a6x,dlt hk,cT,a0c hk,oB,b5K hstage,hne,cF,h1])
def b4T(l:List Int)(st:List Stg):Option (List Int):=bif l.all a0b then lRO st l else none
theorem c6Z{l:List Int}{st:List Stg}(hl:b0t st=true)(hr:l.length<100000):b2c (l,st)=some (a5T (b4T l st)):=by
 have hl':=hl;simp only[b0t,bA,dT]at hl';have hss:short st:=by unfold short;omega
 have hsr:short l:=by unfold short;omega
 unfold b2c b4T;simp only[b5H hss,hl,oB,bT,cF,b5G hsr];cases hw:l.all a0b with
 |false=>rfl
 |true=>
  have:=b4r (lA.1 hl'.2) hl'.1 st.length 0 l (by omega) hsr
  simp only[nZ,a26]at this;simp only[bT,cF,cT,a9s hsr,oB,this];cases lRO st l<;>rfl
theorem c4f{l r:List Int}{st:List Stg}(h:b4T l st=some r):b3V r st=some l∧r.all a0b=true∧r.length=l.length:=by
 unfold b4T at h;cases hw:l.all a0b with
 |false=>simp[hw]at h
 |true=>
  simp only[hw,cT]at h;obtain⟨h1,h2,h3⟩:=c8P st l r hw h;exact⟨by simp only[b3V,h2,cT,h1],h2,h3⟩
end Go.Ab
namespace Go.Ab
open IntKind(wrap)
theorem p64{w:Nat}(h:w≤64):((2^w:Nat):Int) ∣ 18446744073709551616:=a27.2 (a68 2 h)
theorem d7R(n:Int):∃q,wrap .i64 n=n+18446744073709551616*q:=by
 rw[a9r,Int.bmod];split;exact⟨-(n / 18446744073709551616),by omega⟩;exact⟨-(n / 18446744073709551616)-1,by omega⟩
theorem d5e{w:Nat}(h:w≤64)(n:Int):((2^w:Nat):Int) ∣ wrap .i64 n↔((2^w:Nat):Int) ∣ n:=by
 obtain⟨q,hq⟩:=d7R n;rw[hq]
 grind[a79,a57,p64]
theorem c6m{w:Nat}(h:w≤64)(a:Int):2^w ∣ (a04 64 a).toNat↔((2^w:Nat):Int) ∣ a:=by
 have e:(((a04 64 a).toNat:Nat):Int)=a+18446744073709551616*-(a / 18446744073709551616):=by
  rw[a38];omega
 rw[←a27,e]
 grind[a79,a57,p64]
theorem d2k(w x y:Nat):2^w ∣ (x ||| y)↔2^w ∣ x∧2^w ∣ y:=by
 simp_all[Nat.dvd_iff_mod_eq_zero,Nat.or_mod_two_pow]
theorem d7S{w:Nat}(h:w≤64)(a b:Int):((2^w:Nat):Int) ∣ bits .i64 .or a b↔((2^w:Nat):Int) ∣ a∧((2^w:Nat):Int) ∣ b:=by
 show((2^w:Nat):Int) ∣ wrap .i64 ((((a04 64 a) ||| (a04 64 b)).toNat:Nat):Int)↔_;rw[d5e h,a27,a56,d2k,c6m h,c6m h]
def orI(l:List Int)(a:Int):Int:=l.foldl (fun a x=>bits .i64 .or a x) a
theorem b8e{w:Nat}(h:w≤64):∀(l:List Int)(a:Int),((2^w:Nat):Int) ∣ orI l a↔((2^w:Nat):Int) ∣ a∧∀x∈l,((2^w:Nat):Int) ∣ x
 | [],a=>by simp[orI]
 |x::l,a=>by
  show((2^w:Nat):Int) ∣ orI l (bits .i64 .or a x)↔_;rw[b8e h l,d7S h];simp_all[and_assoc]
theorem c8Q:∀(l:List Int),(∀x∈l,x=0)→orI l 0=0
 | [],_=>rfl
 |x::l,h=>by
  have hx:=h x (a70);subst hx;show orI l (bits .i64 .or 0 0)=0;rw[show bits .i64 .or 0 0=0 from by rfl];simp_all[c8Q]
theorem d7T{l:List Int}(hw:l.all a0b=true)(h:∃x∈l,x≠0):orI l 0≠0:=by
 intro e;obtain⟨x,hx,hne⟩:=h;have hd:=((b8e (w:=62) (by omega) l 0).1 (by omega)).2 x hx;have hwx:=a2h.1 (lA.1 hw x hx);omega
def a9X(l:List Int)(w:Nat):Prop:=
 ((∀x∈l,x=0)∧w=0)∨((∃x∈l,x≠0)∧w≤30∧(∀x∈l,((2^w:Nat):Int) ∣ x)∧(w=30∨∃x∈l,¬ ((2^(w+1):Nat):Int) ∣ x))
theorem d2l{v w:Nat}(h:v≤w){x:Int}(hx:((2^w:Nat):Int) ∣ x):((2^v:Nat):Int) ∣ x:=
 Int.dvd_trans (a27.2 (a68 2 h)) hx
theorem a9X.unique{l:List Int}{v w:Nat}(hv:a9X l v)(hw:a9X l w):v=w:=by
 have key:∀{v w:Nat},v≤30→w≤30→(∀x∈l,((2^w:Nat):Int) ∣ x)→(v=30∨∃x∈l,¬ ((2^(v+1):Nat):Int) ∣ x)→w≤v:=by
  grind[d2l]
 rcases hv with⟨h0,hv⟩|⟨⟨x,hx,hne⟩,hv1,hv2,hv3⟩
 ·rcases hw with⟨-,hw⟩|⟨⟨x,hx,hne⟩,-⟩
  all_goals grind
 ·rcases hw with⟨h0,-⟩|⟨-,hw1,hw2,hw3⟩
  all_goals grind
theorem c8R:∀(n N:Nat),N≤n→0<N→∃k m,N=2^k*(2*m+1)
 |0,N,h,h0=>absurd h0 (by omega)
 |n+1,N,h,h0=>by
  by_cases he:N%2=0
  obtain⟨k,m,e⟩:=c8R n (N / 2) (by omega) (by omega);refine⟨k+1,m,?_⟩;rw[a58,a81 (2^k) 2,a91,←e];omega;exact⟨0,N / 2,by omega⟩
theorem d6R{k m:Nat}(h:2^k*(2*m+1)<2^64):(2^k*(2*m+1)) &&& (2^64-2^k*(2*m+1))=2^k:=by
 have hp:1≤2^k:=a92;have hk:k<64:=by
  refine b04 fun hge=>?_
  have h1:2^64≤2^k:=a17 (by simp) hge
  grind
 have e:2^k*(2*m+1)=(2^k*(2*m)+(2^k-1))+1:=by grind
 have hx:2^k*(2*m)+(2^k-1)<2^64:=by omega
 refine Nat.eq_of_testBit_eq fun i=>?_
 have e2:(2^64-2^k*(2*m+1)).testBit i=(decide (i<64)&&!(2^k*(2*m)+(2^k-1)).testBit i):=by
  rw[e];exact Nat.testBit_two_pow_sub_succ hx i
 have e1:=a69 (2*m+1) (b:=0) (i:=k) (by omega) i;rw[a82]at e1;have e3:=a69 (2*m) (b:=2^k-1) (i:=k) (by omega) i;rw[Nat.testBit_and,e2,e1,e3,Nat.testBit_two_pow]
 by_cases h1:i<k
 grind
 by_cases h2:k=i
 simp_all;obtain⟨j,rfl⟩:∃j,i=k+(j+1):=⟨i-k-1,by omega⟩;have s1:k+(j+1)-k=j+1:=by omega
 have s2:(2*m+1) / 2=m:=by omega
 simp_all[Nat.testBit_succ]
theorem d5f:∀k:Nat,k<64→b3a[(2^k*285870213051353865)%18446744073709551616 / 288230376151711744]?=some (k:Int):=by
 have h:∀k:Fin 64,b3a[(2^k.val*285870213051353865)%18446744073709551616 / 288230376151711744]?=some (k.val:Int):=by decide
 exact fun k hk=>h ⟨k,hk⟩
theorem d0a{k m:Nat}:¬ 2^(k+1) ∣ 2^k*(2*m+1):=by
 rintro⟨c,hc⟩
 rw[a58,a91]at hc
 grind[Nat.eq_of_mul_eq_mul_left]
theorem d5g{N:Nat}(h0:0<N)(h:N<18446744073709551616):∃k:Nat,a1Y (N:Int)=some (k:Int)∧2^k ∣ N∧¬ 2^(k+1) ∣ N:=by
 obtain⟨k,m,e⟩:=c8R N N (a32 _) h0;have h2:2^k≤N:=by grind
 have hk:k<64:=by
  refine b04 fun hge=>?_
  have h1:2^64≤2^k:=a17 (by simp) hge;omega
 refine⟨k,?_,⟨_,e⟩,e▸d0a⟩;have hb:bits .u64 .and (N:Int) (wrap .u64 (0-(N:Int)))=((2^k:Nat):Int):=by
  have e1:wrap .u64 (0-(N:Int))=((18446744073709551616-N:Nat):Int):=by
   grind[wrap,IntKind.bits,IntKind.signed]
  rw[e1];show wrap .u64 (((a04 64 (N:Int)) &&& (a04 64 ((18446744073709551616-N:Nat):Int))).toNat:Int)=_;rw[a34,a34,a76,a37,a37,a33 h,a33 (by omega)]
  have:=d6R (k:=k) (m:=m) (by omega)
  rw[←e]at this;rw[show(18446744073709551616:Nat)=2^64 from rfl,this];exact a0F (by omega)
 have hx:((N:Int)==0)=false:=by grind
 unfold a1Y;rw[hb,hx,cF];have e2:wrap .u64 (((2^k:Nat):Int)*285870213051353865)=(((2^k*285870213051353865)%18446744073709551616:Nat):Int):=by
  rfl
 have hg:=d5f k hk;generalize (2^k*285870213051353865)%18446744073709551616=M at e2 hg;have e3:=a7A (N:=M) (o:=58) (by omega);rw[e2,show(58:Int)=((58:Nat):Int)from rfl,e3,show 2^58=288230376151711744 from rfl];generalize M / 288230376151711744=J at hg
 grind[a0c,a0g]
theorem d5h{n:Nat}(hn:n≤62)(c:Int):a0D .i64 (((2^n:Nat):Int)*c) (n:Int)=c:=by
 have hp:0<2^n:=a19 n;have e:min (a29 (n:Int)) (IntKind.bits .i64)=n:=by grind[IntKind.bits]
 have ep:((2^n:Nat):Int)=2^n:=by simp
 unfold a0D
 grind[a75]
theorem d0C{l:List Int}(hs:short l):∀(k i:Nat)(a:Int),i+k=l.length→a0h a6u (a,l,(l.length:Int),(i:Int),())=some (orI (l.drop i) a,())
 |0,i,a,h=>by
  obtain rfl:i=l.length:=by omega
  simp_all[a0o,a6u,orI]
 |k+1,i,a,h=>by
  have hi:i<l.length:=by omega
  have hs':l.length<1000000:=hs;rw[a02 hi,a0p (s':=(bits .i64 .or a l[i],l,(l.length:Int),((i+1:Nat):Int),())) (by
   simp only[a6u,dlt hi,cT,a0c hi,oB,a0d (show i<1000000 by omega)])]
  exact d0C hs k (i+1) _ (by omega)
theorem d0b{l:List Int}{r:Nat}(hr:r≤30)(h:r=30∨¬ ((2^(r+1):Nat):Int) ∣ orI l 0):r=30∨∃x∈l,¬ ((2^(r+1):Nat):Int) ∣ x:=by
 grind[b8e,a96]
theorem c2K{l:List Int}(hs:short l)(hw:l.all a0b=true):∃w:Nat,a4E l=some (w:Int)∧w≤30∧a9X l w:=by
 have h1:=d0C hs l.length 0 0 (by omega);simp at h1;unfold a4E;simp[h1]
 by_cases hz:∀x∈l,x=0
 have e:=c8Q l hz;exact⟨0,by simp_all,by omega,.inl ⟨hz,rfl⟩⟩
 ·have hx:∃x∈l,x≠0:=Classical.byContradiction fun hc=>hz fun x hx=>Classical.byContradiction fun hn=>hc ⟨x,hx,hn⟩;have hne:=d7T hw hx;have he:(orI l 0==0)=false:=by simp_all
  obtain⟨q,hq⟩:∃q,wrap .u64 (orI l 0)=orI l 0+18446744073709551616*q:=⟨-(orI l 0 / 18446744073709551616),by
   grind[wrap,IntKind.bits,IntKind.signed]⟩
  obtain⟨r1,r2⟩:=c2c (orI l 0);obtain⟨N,hN⟩:=a00 r1;have hdN:∀v,v≤64→(2^v ∣ N↔((2^v:Nat):Int) ∣ orI l 0):=fun v hv=>by
   rw[←a27,←hN,hq]
   grind[a79,a57,p64]
  have hN0:0<N:=by
   refine Nat.pos_of_ne_zero fun e0=>?_
   obtain⟨x,hxl,hx0⟩:=hx;have hd:=((b8e (w:=62) (by omega) l 0).1 ((hdN 62 (by omega)).1 (by omega))).2 x hxl;have hwx:=a2h.1 (lA.1 hw x hxl);omega
  obtain⟨k,hk,hk1,hk2⟩:=d5g hN0 (by omega);have hk64:k≤63:=by
   refine Nat.le_of_not_lt fun hgt=>?_
   have h1:2^64≤2^k:=a17 (by simp) (by omega)
   have:=Nat.le_of_dvd hN0 hk1
   omega
  simp only[he,cF,hN,hk,oB];have em:a4d (k:Int) 30=((min k 30:Nat):Int):=by rw[d0z];omega
  refine⟨min k 30,by grind,by omega,.inr ⟨hx,by omega,?_,?_⟩⟩
  all_goals grind[b8e,Nat.dvd_trans,a68,d0b]
theorem d6S{l:List Int}{w:Nat}(hw30:w≤30)(hw:l.all a0b=true)(h:a9X l w):b2l (w:Int) l=some (l.map fun x=>a0D .i64 x (w:Int)):=by
 have hd:∀x∈l,((2^w:Nat):Int) ∣ x:=by
  rcases h with⟨h,-⟩|⟨-,-,h,-⟩
  all_goals grind[a96]
 have:l.all (b3B (w:Int))=true:=by
  rw[lA];intro x hx;obtain⟨c,hc⟩:=hd x hx;have hm:a36 x (a0A .i64 1 (w:Int))=0:=by simp_all[c8G]
  simp_all[b3B]
 simp only[b2l,this,cT]
end Go.Ab
namespace Go.Ab
open IntKind(wrap)
def c0Q(k:Nat)(l:List Int):Nat:=(l.map (a5Q k)).sum
def rbN(l:List Int):Nat→Nat
 |0=>0
 |i+1=>if c0Q (i+1) l<c0Q (rbN l i) l then i+1 else rbN l i
theorem c8S(l:List Int):∀i,rbN l i≤i
 |0=>a32 _
 |i+1=>by
  have:=c8S l i
  simp only[rbN]
  split<;>omega
theorem b8U{k:Nat}(hk:k≤25){l:List Int}(hw:l.all a0b=true)(hl:l.length<10000):a4m ((k:Int),l)=some ((c0Q k l:Nat):Int):=c2d hk hw hl
theorem d7U{a b:Nat}(h:a<b):decide ((a:Int)<(b:Int))=true:=decide_eq_true (by omega)
theorem d2m{a b:Nat}(h:¬ a<b):decide ((a:Int)<(b:Int))=false:=decide_eq_false (by omega)
theorem c0R{l:List Int}(hw:l.all a0b=true)(hl:l.length<10000):b3u l=some ((rbN l 25:Nat):Int):=by
 have:=a3C (f:=a9S) (fun i:Nat=>(l,((rbN l i:Nat):Int),((c0Q (rbN l i) l:Nat):Int),((i+1:Nat):Int),())) 25 (b:=(((rbN l 25:Nat):Int),()))
  (fun i hi=>by
   have d0:decide (((i+1:Nat):Int)≤25)=true:=decide_eq_true (by omega);have w1:wrap .i64 (((i+1:Nat):Int)+1)=((i+1+1:Nat):Int):=a0d (by omega);have hs:=b8U (k:=i+1) (by omega) hw hl
   by_cases hlt:c0Q (i+1) l<c0Q (rbN l i) l
   simp_all[a9S,rbN];simp only[a9S,d0,cT,cF,hs,oB,w1,d2m hlt,rbN,hlt,if_false])
  (by
   rfl)
 have h0:=b8U (k:=0) (by omega) hw hl;have e1:((0+1:Nat):Int)=1:=rfl;have e0:rbN l 0=0:=rfl;simp_all[b3u]
def b4U(l:List Int):Int:=if 5+a0l l*l.length<c0Q (rbN l 25) l then 31 else((rbN l 25:Nat):Int)
theorem d2n(l:List Int):kB (b4U l)=true:=by
 have:=c8S l 25
 unfold b4U;split;rfl;simp only[kB,a24,bA,dT];omega
theorem c4g{l:List Int}(hw:l.all a0b=true)(hl:l.length<10000):a9T l=some (b4U l):=by
 have h1:=c8S l 25;have hs:=b8U (k:=rbN l 25) h1 hw hl;unfold a9T b4U
 by_cases hlt:5+a0l l*l.length<c0Q (rbN l 25) l
 simp only[c0R hw hl,b5R hl,hs,oB,d7U hlt,cT,hlt,if_true];simp only[c0R hw hl,b5R hl,hs,oB,d2m hlt,cF,hlt,if_false]
def a3i:List Nat→List Int→List Int
 | [],_=>[]
 |z::zs,l=>b4U (l.take z)::a3i zs (l.drop z)
theorem b8f:∀zs l,(a3i zs l).length=zs.length
 | [],_=>rfl
 |z::zs,l=>by simp[a3i,b8f zs]
theorem c4h:∀zs l,(a3i zs l).all kB=true
 | [],_=>rfl
 |z::zs,l=>by simp[a3i,c4h zs,d2n]
theorem b9J{zn:List Nat}{n warm most least order:Int}{L:List Int}{a b:Prt}(hz:zn.length≤256):∀(j i:Nat)(rest ks:List Int),i+j=zn.length→(zn.drop i).sum=rest.length→rest.all a0b=true→rest.length≤5000→ks.length=i→
  a0h a8T (n,warm,most,L,least,order,rest,((zn.length:Nat):Int),(i:Int),a1r zn,a,b,(order,ks,()),())=some (n,warm,most,L,least,order,a,b,(order,ks++a3i (zn.drop i) rest,()),())
 |0,i,rest,ks,h,_,_,_,_=>by
  obtain rfl:i=zn.length:=by omega
  simp_all[a0o,a8T,a3i]
 |j+1,i,rest,ks,h,hr,hwr,hr5,hki=>by
  have hlt:i<zn.length:=by omega
  rw[b8K hlt]at hr;have h0:decide ((0:Int)≤(i:Int))=true:=by simp
  have h1:decide ((i:Int)<(((a1r zn).length:Nat):Int))=true:=by simp_all[a1G]
  have h2:decide ((0:Int)≤((zn[i]:Nat):Int))=true:=by simp
  have h3:decide (((zn[i]:Nat):Int)≤((rest.length:Nat):Int))=true:=by grind
  have hk:=c4g (b8Q hwr zn[i]) (by grind);have hlim:lim (ks.length+1)=true:=a0H (by omega);rw[a02 hlt,a0p (s':=(n,warm,most,L,least,order,rest.drop zn[i],((zn.length:Nat):Int),((i+1:Nat):Int),a1r zn,a,b,(order,ks++[b4U (rest.take zn[i])],()),())) (by
   simp only[a8T,dlt hlt,h0,h1,a9u hlt,h2,h3,cT,a03,tN,hk,oB,hlim,a23,a0d (show i<1000000 by omega),a08])]
  rw[b9J hz j (i+1) _ _ (by omega) (by grind) (d5d hwr _) (by grind) (by simp_all)];simp_all[a3i]
def zsN(o n warm:Int):List Nat:=(a2k o n warm).map a29
def b4N(o n warm:Int)(l:List Int):Prt:=(o,a3i (zsN o n warm) l,())
def c4i(o n warm:Int)(l:List Int):Nat:=4+a4X (zsN o n warm) (a3i (zsN o n warm) l) l
def a1Z(n warm:Int)(l:List Int):Nat→Prt×Nat
 |0=>((0,[],()),0)
 |i+1=>if(a2k (i:Int) n warm).length=0 then a1Z n warm l i else
   if(a1Z n warm l i).2=0∨c4i (i:Int) n warm l<(a1Z n warm l i).2 then(b4N (i:Int) n warm l,c4i (i:Int) n warm l)else a1Z n warm l i
def c1h(n warm:Int)(l:List Int):Prt:=(a1Z n warm l 7).1
theorem d0D{o:Nat}{n warm:Int}{l:List Int}(hs:(a2k (o:Int) n warm).length≠0)(hl:(l.length:Int)=n-warm)(hw:l.all a0b=true)(h5:l.length≤5000):
  ∃zn,a2k (o:Int) n warm=a1r zn∧zsN (o:Int) n warm=zn∧zn.length≤256∧zn.sum=l.length∧a6B (b4N (o:Int) n warm l) n warm=true∧PartsOk (b4N (o:Int) n warm l) n warm l zn:=by
 obtain⟨zn,g1,g2,g3⟩:=b7l hs;have ez:zsN (o:Int) n warm=zn:=by simp_all[zsN,b7m]
 have hp:a6B (b4N (o:Int) n warm l) n warm=true:=by
  simp only[a6B,b4N,bA,a28,beq_eq_false_iff_ne,ne_eq,beq_iff_eq];simp_all[a1G,b8f,c4h]
 obtain⟨zn',hok⟩:=PartsOk.of hp hl hw h5
 have:zn'=zn:=by
  have h1:=hok.sizes
  grind[b4N,b7m]
 grind
theorem b8V{n warm:Int}{l:List Int}(hr:a7r n warm=true)(hl:(l.length:Int)=n-warm)(hw:l.all a0b=true)(h5:l.length≤5000):∀i,1≤i→(a1Z n warm l i).2≠0∧a6B (a1Z n warm l i).1 n warm=true
 |0,h=>absurd h (by omega)
 |i+1,_=>by
  by_cases hs:(a2k (i:Int) n warm).length=0
  ·simp only[a1Z,hs,if_true];cases i with
   |zero=>grind[d2f]
   |succ i=>exact b8V hr hl hw h5 (i+1) (by omega)
  ·obtain⟨zn,-,-,-,-,hp,-⟩:=d0D hs hl hw h5;simp only[a1Z,hs,if_false];split;simp_all[c4i]
   ·rename_i hne;cases i with
    |zero=>exact absurd (Or.inl rfl) hne
    |succ i=>exact b8V hr hl hw h5 (i+1) (by omega)
theorem d5i{n warm:Int}{l:List Int}(hr:a7r n warm=true)(hl:(l.length:Int)=n-warm)(hw:l.all a0b=true)(h5:l.length≤5000):a6B (c1h n warm l) n warm=true:=
 (b8V hr hl hw h5 7 (by omega)).2
theorem c7a{n warm:Int}{l:List Int}(hr:a7r n warm=true)(hl:(l.length:Int)=n-warm)(hw:l.all a0b=true)(h5:l.length≤5000):
  b2d (n,warm,(6:Int),l)=some (c1h n warm l,0):=by
 have:=a3C (f:=a4F) (fun i:Nat=>(n,warm,(6:Int),l,(((a1Z n warm l i).2:Nat):Int),(i:Int),((0:Int),([]:List Int),()),(a1Z n warm l i).1,())) 7 (b:=(((0:Int),([]:List Int),()),c1h n warm l,()))
  (fun i hi=>by
   have d0:decide ((i:Int)≤a4d (a2y 6 0) 8)=true:=decide_eq_true (by have:a4d (a2y 6 0) 8=6:=rfl;omega);have w1:wrap .i64 ((i:Int)+1)=((i+1:Nat):Int):=a0d (by omega)
   by_cases hs:(a2k (i:Int) n warm).length=0
   simp_all[a1Z,a4F,a2B];have hb:((((a2k (i:Int) n warm).length:Nat):Int)==0)=false:=by simp_all
   obtain⟨zn,g1,ez,g3,g4,-,hok⟩:=d0D hs hl hw h5;have g5:=b9J (n:=n) (warm:=warm) (most:=6) (least:=(((a1Z n warm l i).2:Nat):Int)) (order:=(i:Int)) (L:=l) (a:=((0:Int),([]:List Int),())) (b:=(a1Z n warm l i).1) g3 zn.length 0 l [] (by omega) (by simp_all) hw h5 rfl;simp at g5;have hc:=c6W hok;simp only[b4N,ez]at hc;have hb':(((zn.length:Nat):Int)==0)=false:=by simp_all[a1G]
   have el:(((a1r zn).length:Nat):Int)=((zn.length:Nat):Int):=by rw[a1G]
   have eP:b4N (i:Int) n warm l=((i:Int),a3i zn l,()):=by simp only[b4N,ez]
   have eC:c4i (i:Int) n warm l=4+a4X zn (a3i zn l) l:=by simp only[c4i,ez]
   by_cases hz:(a1Z n warm l i).2=0
   have hz':((((a1Z n warm l i).2:Nat):Int)==0)=true:=by simp_all
   have eb:a1Z n warm l (i+1)=(((i:Int),a3i zn l,()),4+a4X zn (a3i zn l) l):=by simp_all[a1Z]
   simp only[a4F,d0,cT,a2B,oB,g1,el,hb',cF,g5,hc,w1,eb,hz'];have hz':((((a1Z n warm l i).2:Nat):Int)==0)=false:=by simp_all
   by_cases hlt:4+a4X zn (a3i zn l) l<(a1Z n warm l i).2
   have eb:a1Z n warm l (i+1)=(((i:Int),a3i zn l,()),4+a4X zn (a3i zn l) l):=by simp_all[a1Z]
   simp only[a4F,d0,cT,a2B,oB,g1,el,hb',cF,g5,hc,w1,eb,hz',d7U hlt];have eb:a1Z n warm l (i+1)=a1Z n warm l i:=by simp only[a1Z,hs,if_false,hz,false_or,eP,eC,hlt]
   simp only[a4F,d0,cT,a2B,oB,g1,el,hb',cF,g5,hc,w1,eb,hz',d2m hlt])
  (by
   rfl)
 simp_all[a1Z,b2d,b2O]
end Go.Ab
namespace Go.Ab
def a0O(k:Int)(s:Sub):Sub:=
 (k,(0:Int),(if k=2 then s.2.2.1 else 0),(if k=3∨k=4 then s.2.2.2.1 else 0),(if k=4 then s.2.2.2.2.1 else 0),(if k=3∨k=4 then s.2.2.2.2.2.1 else[]),
  ((if k=4 then s.2.2.2.2.2.2.1 else a01 3 (0:Int)),(if k=5 then s.2.2.2.2.2.2.2.1 else[]),([]:List Int),((0:Int),([]:List Int),()),([]:List Int),()))
def z0:Prt:=((0:Int),([]:List Int),())
def a2m(s:Sub)(w:Nat)(wm:List Int)(p:Prt)(r:List Int):Sub:=
 (s.1,(w:Int),s.2.2.1,s.2.2.2.1,s.2.2.2.2.1,s.2.2.2.2.2.1,s.2.2.2.2.2.2.1,s.2.2.2.2.2.2.2.1,wm,p,r,())
theorem d3J{s:Sub}(h:SmallS s)(k:Int):a7f (k,s)=some (a0O k s):=by
 have hc:short s.2.2.2.2.2.1:=by have:=h.coefs;unfold short;omega
 have hst:short s.2.2.2.2.2.2.2.1:=by have:=h.stages;unfold short;omega
 grind[a7f,a0O,b8J,c1Z]
theorem c8T{s:Sub}(h:SmallS s)(k:Int):SmallS (a0O k s):=by
 have h1:=h.coefs;have h2:=h.taps;have h3:=h.stages;refine⟨?_,?_,?_,by simp[a0O],by simp[a0O],by simp[a0O]⟩<;>simp only[a0O]<;>split<;>first|omega|simp
theorem d2o{s:Sub}{k n:Int}:a4N (a0O k s).1 (a0O k s) n↔a4N k s n:=by
 unfold a4N a0O
 grind
open Classical in
def a3S (l:List Int):Nat:=if h:∃w,a9X l w then h.choose else 0
theorem d6T{l:List Int}{w:Nat}(h:a9X l w):a3S l=w:=by
 unfold a3S;rw[dif_pos ⟨w,h⟩];exact(Classical.choose_spec (⟨w,h⟩:∃w,a9X l w)).unique h
def a1d(l:List Int):List Int:=l.map fun x=>a0D .i64 x (a3S l:Int)
theorem b0u{l:List Int}(hs:short l)(hw:l.all a0b=true):a4E l=some ((a3S l:Nat):Int)∧a3S l≤30∧a9X l (a3S l):=by
 grind[c2K,d6T]
theorem a6D{l:List Int}(hs:l.length≤4096)(hw:l.all a0b=true):b2l ((a3S l:Nat):Int) l=some (a1d l)∧(a1d l).all a0b=true∧(a1d l).length=l.length∧upO ((a3S l:Nat):Int) (a1d l)=some l:=by
 obtain⟨-,h3,h4⟩:=b0u (show short l by unfold short;omega) hw;have h:=d6S h3 hw h4;exact⟨h,d6Q h3 h⟩
def a5R(k:Int)(s:Sub)(d:List Int):Option (List Int×List Int):=
 if k=2 then(bif (a2n s.2.2.1.toNat d).all a0b then some (d.take s.2.2.1.toNat,a2n s.2.2.1.toNat d)else none)
 else if k=3 then(b8R d s.2.2.2.2.2.1 s.2.2.2.1).map fun r=>(d.take s.2.2.2.2.2.1.length,r)
 else if k=4 then(b8d d s.2.2.2.2.1 s.2.2.2.2.2.2.1).bind fun x=>(b8R x s.2.2.2.2.2.1 s.2.2.2.1).map fun r=>(x.take s.2.2.2.2.2.1.length,r)
 else(b4T d s.2.2.2.2.2.2.2.1).map fun r=>([],r)
theorem c8U{k:Int}{s:Sub}{d wm r:List Int}(hk:k=2∨k=3∨k=4∨k=5)(hf:a4N k s (d.length:Int))(hw:d.all a0b=true)(h:a5R k s d=some (wm,r)):
  wm.length≤d.length∧r.length=d.length-wm.length∧r.all a0b=true∧wm.all a0b=true:=by
 have hf':=hf;simp only[a4N]at hf';rcases hk with rfl|rfl|rfl|rfl
 ·have:0≤s.2.2.1∧s.2.2.1≤(d.length:Int):=by omega
  simp[a5R]at h;cases hq:(a2n s.2.2.1.toNat d).all a0b with
  |false=>simp_all
  |true=>
   simp[hq]at h;obtain⟨rfl,rfl⟩:=h;simp_all[a6L,b8Q]
 have:(s.2.2.2.2.2.1.length:Int)≤(d.length:Int):=by omega
 simp only[a5R,show ¬ (3:Int)=2 by simp,if_false,if_true,a30,pJ]at h;obtain⟨r',h1,rfl,rfl⟩:=h;obtain⟨-,h2,h3⟩:=b8S h1
 grind
 have:(s.2.2.2.2.2.1.length:Int)≤(d.length:Int):=by omega
 simp only[a5R,show ¬ (4:Int)=2 by simp,show ¬ (4:Int)=3 by simp,if_false,if_true,a25,a30,pJ]at h;obtain⟨x,h0,r',h1,rfl,rfl⟩:=h;obtain⟨-,g2,g3⟩:=c0P h0;obtain⟨-,h2,h3⟩:=b8S h1
 grind
 simp only[a5R,show ¬ (5:Int)=2 by simp,show ¬ (5:Int)=3 by simp,show ¬ (5:Int)=4 by simp,if_false,a30,pJ]at h;obtain⟨r',h1,rfl,rfl⟩:=h;obtain⟨-,h2,h3⟩:=c4f h1;simp_all
theorem d5j{k:Int}{s:Sub}{d:List Int}(hk:k=2∨k=3∨k=4∨k=5)(h:SmallS s)(hf:a4N k s (d.length:Int))(hd:d.length≤4096)(hw:d.all a0b=true)(w:Nat):
  b3t (a2m (a0O k s) w [] z0 [],d)=some (match a5R k s d with|none=>(6,a2m (a0O k s) w [] z0 [])|some (wm,r)=>(0,a2m (a0O k s) w wm z0 r)):=by
 have ht:=h.taps;have hst:=h.stages;have hsd:short d:=by unfold short;omega
 obtain⟨k',w',o,sh,lag,c,t,st,wm',p,r',u⟩:=s;simp only[a4N]at hf ht hst;unfold b3t;rcases hk with rfl|rfl|rfl|rfl;obtain⟨h0,h4,hn⟩:0≤o∧o≤4∧o≤(d.length:Int):=by omega
 obtain⟨O,rfl⟩:=a00 h0;have hst:short (d.take O):=by unfold short;grind
 have e2:decide ((O:Int)≤((d.length:Nat):Int))=true:=by simp_all
 simp only[a2m,a0O,a5R,if_true,show((2:Int)==2)=true from rfl,cT,b9H (show O≤4 by omega) (show O≤d.length by omega) hsd hw,oB,tN]
 grind[b3W,a2P,a9s]
 ·obtain⟨hl,hn⟩:b0f c sh=true∧(c.length:Int)≤(d.length:Int):=by simp_all
  have hst:short (d.take c.length):=by unfold short;grind
  have e1:decide ((0:Int)≤((c.length:Nat):Int))=true:=by simp
  have e2:decide (((c.length:Nat):Int)≤((d.length:Nat):Int))=true:=by simp_all
  simp only[a2m,a0O,a5R,show((3:Int)==2)=false from rfl,show((3:Int)==3)=true from rfl,show ¬ (3:Int)=2 by simp,show ¬ (3:Int)=4 by simp,show ¬ (3:Int)=5 by simp,true_or,if_true,if_false,cT,cF,b8c hl (show c.length≤d.length by omega) (show d.length<100000 by omega),oB];cases b8R d c sh with
  |none=>rfl
  |some r=>simp_all[a5T,b3W,a2P,a9s]
 ·obtain⟨hl,hn,hlg⟩:b0f c sh=true∧(c.length:Int)≤(d.length:Int)∧b3y lag t=true:=by simp_all
  simp[a2m,a0O,a5R,c8N hlg ht (show d.length<100000 by omega)];cases hx:b8d d lag t with
  |none=>rfl
  |some x=>
   obtain⟨-,g2,g3⟩:=c0P hx;have hst:short (x.take c.length):=by unfold short;grind
   have e1:decide ((0:Int)≤((c.length:Nat):Int))=true:=by simp
   have e2:decide (((c.length:Nat):Int)≤((x.length:Nat):Int))=true:=by simp_all
   simp[a5T,b8c hl (show c.length≤x.length by omega) (show x.length<100000 by omega)]
   grind[b3W,a2P,a9s]
 ·obtain⟨hn,hlr⟩:0<st.length∧b0t st=true:=by simp_all
  have hst:short (d.take 0):=by simp[short]
  simp only[a2m,a0O,a5R,show((5:Int)==2)=false from rfl,show((5:Int)==3)=false from rfl,show((5:Int)==4)=false from rfl,show((5:Int)==5)=true from rfl,show ¬ (5:Int)=2 by simp,show ¬ (5:Int)=3 by simp,show ¬ (5:Int)=4 by simp,or_self,if_true,if_false,cT,cF,c6Z hlr (show d.length<100000 by omega),oB];cases b4T d st with
  |none=>rfl
  |some r=>
   rfl
end Go.Ab
namespace Go.Ab
open Classical in

def a1z (k:Int) (l:List Int) (s:Sub):Sub×Int:=
 if ¬ (1≤l.length∧l.length≤4096∧a4N k s (l.length:Int))then(a2p 0,1)
 else if l.all a0b=false then(a2p 0,6)
 else if k=0 then(bif l.all (fun x=>x==l.headD 0)then(a2m (a0O 0 s) 0 [l.headD 0] z0 [],0)else(a2p 0,7))
 else if k=1 then(a2m (a0O 1 s) (a3S l) (a1d l) z0 [],0)
 else match a5R k s (a1d l)with
  |none=>(a2p 0,6)
  |some (wm,r)=>(a2m (a0O k s) (a3S l) wm (c1h (l.length:Int) (wm.length:Int) r) r,0)
theorem d2p{l:List Int}(h:1≤l.length):a0q l 0=some (l.headD 0):=by
 cases l with
 |nil=>simp at h
 |cons a l=>rfl
theorem c8V{l:List Int}(h1:1≤l.length)(hs:short l)(a b:Sub):
  a0h a6d (l,l,(l.length:Int),(0:Int),a,b,())=some (bif l.all (fun x=>x==l.headD 0)then .inl (l,a,b,())else .inr ((7:Int),a2p 0,())):=by
 have:=a1K (f:=a6d) l (fun i=>(l,l,(l.length:Int),(i:Int),a,b,())) (fun x=>x==l.headD 0) (bt:=Sum.inl (l,a,b,())) (bf:=Sum.inr ((7:Int),a2p 0,()))
  (fun i h hp=>by
   have hne:(l[i] != l.headD 0)=false:=by simpa using hp
   simp only[a6d,dlt h,cT,a0c h,oB,d2p h1,hne,cF,a0d (a47 h hs)])
  (fun i h hp=>by
   have hne:(l[i] != l.headD 0)=true:=by simpa using hp
   simp only[a6d,dlt h,cT,a0c h,oB,d2p h1,hne];rfl)
  (by simp[a6d])
 simpa using this
theorem c2e{k n:Int}{s:Sub}(h:a4N k s n)(h0:k≠0)(h1:k≠1):k=2∨k=3∨k=4∨k=5:=by
 rcases h with h|h|⟨h,-⟩|⟨h,-⟩|⟨h,-⟩|⟨h,-⟩;exact absurd h h0;exact absurd h h1;exact .inl h;exact .inr (.inl h);exact .inr (.inr (.inl h));exact .inr (.inr (.inr h))
theorem d6U{s:Sub}(h:SmallS s)(k:Int){l:List Int}(hl:l.length≤100000):b4H (k,l,s)=some (a1z k l s):=by
 have hs:short l:=by unfold short;omega
 unfold b4H a1z
 by_cases h1:1≤l.length
 rotate_left;have e:decide (((l.length:Nat):Int)<1)=true:=decide_eq_true (by omega);rw[if_pos (fun hc=>h1 hc.1)];simp only[e,cT,oB];rfl;have e1:decide (((l.length:Nat):Int)<1)=false:=decide_eq_false (by omega)
 by_cases h2:l.length≤4096
 rotate_left;have e:decide (((l.length:Nat):Int) > 4096)=true:=decide_eq_true (by omega);rw[if_pos (fun hc=>h2 hc.2.1)];simp only[e1,e,cT,cF,oB];rfl;have e2:decide (((l.length:Nat):Int) > 4096)=false:=decide_eq_false (by omega)
 by_cases h3:a4N k s (l.length:Int)
 rotate_left;have e3:b5O k s (l.length:Int)=false:=by simp[b5O,h3]
 rw[if_pos (fun hc=>h3 hc.2.2)];simp only[e1,e2,b7W h,e3,cF,a18,cT,oB];rfl;have e3:b5O k s (l.length:Int)=true:=by simp[b5O,h3]
 rw[if_neg (fun hc=>hc ⟨h1,h2,h3⟩)];simp only[e1,e2,b7W h,e3,cF,bT,oB,a5v hs];cases hw:l.all a0b with
 |false=>rfl
 |true=>
  simp only[bT,cF,d3J h,oB];rw[if_neg (by decide)]
  by_cases h0:k=0
  ·subst h0;have hf:=c8V h1 hs (a2p 0) (a0O 0 s);have ez:a2p 0=((0:Int),(0:Int),(0:Int),(0:Int),(0:Int),([]:(List Int)),a01 3 (0:Int),([]:(List (Int×Int×Unit))),([]:(List Int)),((0:Int),([]:(List Int)),()),([]:(List Int)),()):=rfl;rw[←ez,if_pos rfl];simp only[show((0:Int)==0)=true from rfl,cT,hf,oB];cases l.all (fun x=>x==l.headD 0)with
   |false=>rfl
   |true=>simp only[cT,d2p h1,oB];rfl
  ·obtain⟨w1,w3,-⟩:=b0u hs hw;obtain⟨d1,d2,d3,-⟩:=a6D h2 hw;have he0:(k==0)=false:=by simp[h0]
   rw[if_neg h0];simp only[he0,cF,w1,oB,b8b w3 (show l.length<100000 by omega),d1,a5T,show((0:Int) != 0)=false from rfl]
   by_cases hk1:k=1
   subst hk1;rfl
   ·have he1:(k==1)=false:=by simp[hk1]
    have hk:=c2e h3 h0 hk1;rw[if_neg hk1];have hsp:=d5j hk h (d:=a1d l) (by rw[d3];exact h3) (by omega) d2 (a3S l);have e4:((a0O k s).1,((a3S l:Nat):Int),(a0O k s).2.2)=a2m (a0O k s) (a3S l) [] z0 []:=rfl;simp only[he1,cF,e4,hsp,oB];cases hr:a5R k s (a1d l)with
    |none=>rfl
    |some q=>
     obtain⟨wm,r⟩:=q;obtain⟨r1,r2,r3,-⟩:=c8U hk (by rw[d3];exact h3) d2 hr;have hrow:a7r (l.length:Int) (wm.length:Int)=true:=by simp only[a7r,bA,dT];omega
     have hb:=c7a hrow (l:=r) (by omega) r3 (by omega);simp only[show((0:Int) != 0)=false from rfl,cF,a2m,hb,oB]
end Go.Ab
namespace Go.Ab
theorem d3K{p:Prt}{n warm:Int}(h:a6B p n warm=true):p.2.1.length≤256:=by
 simp only[a6B,bA,a28,beq_eq_false_iff_ne,ne_eq,beq_iff_eq]at h;obtain⟨zn,h1,-,h3⟩:=b7l h.1;rw[←h.2.1,h1,a1G];exact h3
theorem b8W{s:Sub}(h:SmallS s){w:Nat}{wm r:List Int}{p:Prt}(h1:wm.length≤5000)(h2:r.length≤5000)(h3:p.2.1.length≤300):SmallS (a2m s w wm p r):=
 ⟨h.coefs,h.taps,h.stages,h1,h2,h3⟩
theorem d2q{k:Int}{l:List Int}{s:Sub}(h0:(a1z k l s).2=0):
  1≤l.length∧l.length≤4096∧a4N k s (l.length:Int)∧l.all a0b=true∧
   ((k=0∧l.all (fun x=>x==l.headD 0)=true∧(a1z k l s).1=a2m (a0O 0 s) 0 [l.headD 0] z0 [])∨
    (k=1∧(a1z k l s).1=a2m (a0O 1 s) (a3S l) (a1d l) z0 [])∨
     ((k=2∨k=3∨k=4∨k=5)∧∃wm r,a5R k s (a1d l)=some (wm,r)∧(a1z k l s).1=a2m (a0O k s) (a3S l) wm (c1h (l.length:Int) (wm.length:Int) r) r)):=by
 unfold a1z at h0⊢
 split at h0
 cases h0;rename_i hc;have hc:1≤l.length∧l.length≤4096∧a4N k s (l.length:Int):=Classical.byContradiction hc;refine⟨hc.1,hc.2.1,hc.2.2,?_⟩;rw[if_neg (fun h=>h hc)]
 split at h0
 cases h0;rename_i hw;have hw':l.all a0b=true:=by simpa using hw
 refine⟨hw',?_⟩;rw[if_neg hw]
 split at h0
 ·rename_i k0;rw[if_pos k0];cases hq:l.all (fun x=>x==l.headD 0)with
  |false=>rw[hq]at h0;cases h0
  |true=>exact .inl ⟨k0,rfl,rfl⟩
 rename_i k0;rw[if_neg k0]
 split at h0
 rename_i k1;rw[if_pos k1];exact .inr (.inl ⟨k1,rfl⟩);rename_i k1;rw[if_neg k1];refine .inr (.inr ⟨c2e hc.2.2 k0 k1,?_⟩);cases hr:a5R k s (a1d l)with
 |none=>rw[hr]at h0;cases h0
 |some q=>
  obtain⟨wm,r⟩:=q;exact⟨wm,r,rfl,rfl⟩
theorem b5V{s:Sub}{k:Int}{w:Nat}{wm r:List Int}{p:Prt}:b7X (a2m (a0O k s) w wm p r):=by
 unfold b7X a2m a0O;refine⟨fun h=>if_neg h,fun h=>if_neg (not_or.2 h),fun h=>if_neg h,fun h=>if_neg h,fun h=>if_neg (not_or.2 h),fun h=>if_neg h⟩
theorem c2L{s:Sub}{k n:Int}{w:Nat}{wm r:List Int}{p:Prt}(h:a4N k s n):a4N (a2m (a0O k s) w wm p r).1 (a2m (a0O k s) w wm p r) n:=d2o.2 h
theorem d5k{l:List Int}(h:l.all (fun x=>x==l.headD 0)=true):a01 l.length (l.headD 0)=l:=by
 refine(List.eq_replicate_iff.2 ⟨rfl,fun x hx=>?_⟩).symm
 have:=lA.1 h x hx
 simpa using this
theorem c5r{k:Int}{l:List Int}{s:Sub}(hS:SmallS s)(h0:(a1z k l s).2=0):
  SmallS (a1z k l s).1∧(a1z k l s).1.1=k∧a1D (a1z k l s).1 (l.length:Int)∧a2M (a1z k l s).1 (l.length:Int)=some l:=by
 obtain⟨h1,h2,hf,hw,hc⟩:=d2q h0;have hs:short l:=by unfold short;omega
 obtain⟨-,w3,-⟩:=b0u hs hw;obtain⟨d1,d2,d3,d4⟩:=a6D h2 hw;have key:∀m:Sub,a1D m (l.length:Int)→c8w m (l.length:Int)=some l→a2M m (l.length:Int)=some l:=fun m g1 g2=>by unfold a2M;rw[if_pos g1,g2]
 have hcs:=c8T hS k;rcases hc with⟨rfl,hall,e⟩|⟨rfl,e⟩|⟨hk,wm,r,hr,e⟩
 ·rw[e];have hst:a1D (a2m (a0O 0 s) 0 [l.headD 0] z0 []) (l.length:Int):=by
   have hh:a0b (l.headD 0)=true:=by
    cases l with
    |nil=>rfl
    |cons a l=>exact lA.1 hw _ a70
   exact⟨by omega,by omega,c2L hf,b5V,Int.le_refl _,(by decide:(0:Int)≤30),fun _=>rfl,rfl,by simp only[a2m,a07,hh,List.all_nil];rfl,rfl,fun _=>⟨rfl,rfl,rfl⟩,fun h=>absurd rfl h.1⟩
  refine⟨b8W hcs (by simp) (by simp) (by simp[z0]),rfl,hst,key _ hst ?_⟩;show some (a01 (l.length:Int).toNat (l.headD 0))=some l;rw[tN,d5k hall]
 rw[e];have hst:a1D (a2m (a0O 1 s) (a3S l) (a1d l) z0 []) (l.length:Int):=
  ⟨by omega,by omega,c2L hf,b5V,a71 _,(by show((a3S l:Nat):Int)≤30;omega),fun h=>absurd h (by decide:¬ (1:Int)=0),by show(((a1d l).length:Nat):Int)=(l.length:Int);rw[d3],d2,rfl,fun _=>⟨rfl,rfl,rfl⟩,fun h=>absurd rfl h.2⟩
 refine⟨b8W hcs (by omega) (by simp) (by simp[z0]),rfl,hst,key _ hst ?_⟩;show upO ((a3S l:Nat):Int) (a1d l)=some l;exact d4
 ·rw[e];obtain⟨r1,r2,r3,r4⟩:=c8U hk (by rw[d3];exact hf) d2 hr;have hrow:a7r (l.length:Int) (wm.length:Int)=true:=by simp only[a7r,bA,dT];omega
  have hp:=d5i hrow (l:=r) (by omega) r3 (by omega);generalize c1h (l.length:Int) (wm.length:Int) r=p at hp;have hks:=d3K hp

  have hwb:a2P (a2m (a0O k s) (a3S l) wm p r) (l.length:Int)=(wm.length:Int)∧backP (a2m (a0O k s) (a3S l) wm p r)=some (a1d l):=by
   simp only[a4N]at hf;rcases hk with rfl|rfl|rfl|rfl
   ·obtain⟨q0,q4,qn⟩:0≤s.2.2.1∧s.2.2.1≤4∧s.2.2.1≤(l.length:Int):=by simp at hf;omega
    simp only[a5R,if_true]at hr;cases hq:(a2n s.2.2.1.toNat (a1d l)).all a0b with
    |false=>simp[hq]at hr
    |true=>
     simp only[hq,cT,sj,pJ]at hr;obtain⟨rfl,rfl⟩:=hr;refine⟨?_,?_⟩;show s.2.2.1=_;rw[a20];omega;show c2G ((a1d l).take s.2.2.1.toNat) (a2n s.2.2.1.toNat (a1d l)) s.2.2.1=some (a1d l);have hb:=c8F d2 (o:=s.2.2.1.toNat) (by omega) ((a1d l).length-s.2.2.1.toNat) 0 (by omega);rw[a26,a82]at hb;unfold c2G;rw[b8Q d2,hq];exact hb
   have qn:(s.2.2.2.2.2.1.length:Int)≤(l.length:Int):=by simp at hf;omega
   simp only[a5R,show ¬ (3:Int)=2 by decide,if_false,if_true,a30,pJ]at hr;obtain⟨r',g1,rfl,rfl⟩:=hr;obtain⟨g2,-,-⟩:=b8S g1;refine⟨?_,?_⟩;show((s.2.2.2.2.2.1.length:Nat):Int)=_;rw[a20];omega;exact g2;have qn:(s.2.2.2.2.2.1.length:Int)≤(l.length:Int):=by simp at hf;omega
   simp only[a5R,show ¬ (4:Int)=2 by decide,show ¬ (4:Int)=3 by decide,if_false,if_true,a25,a30,pJ]at hr;obtain⟨x,g0,r',g1,rfl,rfl⟩:=hr;obtain⟨f1,-,f3⟩:=c0P g0;obtain⟨g2,-,-⟩:=b8S g1;refine⟨?_,?_⟩;show((s.2.2.2.2.2.1.length:Nat):Int)=_;rw[a20];omega;show(b5I (x.take s.2.2.2.2.2.1.length) r' s.2.2.2.2.2.1 s.2.2.2.1).bind (fun l=>b6x l s.2.2.2.2.1 s.2.2.2.2.2.2.1)=_;rw[g2];exact f1;simp only[a5R,show ¬ (5:Int)=2 by decide,show ¬ (5:Int)=3 by decide,show ¬ (5:Int)=4 by decide,if_false,a30,pJ]at hr;obtain⟨r',g1,rfl,rfl⟩:=hr;obtain⟨g2,-,-⟩:=c4f g1;exact⟨rfl,g2⟩
  have hne:¬ (k=0∨k=1):=by rcases hk with rfl|rfl|rfl|rfl<;>decide
  have hst:a1D (a2m (a0O k s) (a3S l) wm p r) (l.length:Int):=by
   unfold a1D;rw[hwb.1];exact⟨by omega,by omega,c2L hf,b5V,a71 _,(by show((a3S l:Nat):Int)≤30;omega),fun h=>absurd (.inl h) hne,rfl,r4,r3,fun h=>absurd h hne,fun _=>⟨(by show((r.length:Nat):Int)=_;omega),hp⟩⟩
  refine⟨b8W hcs (by omega) (by omega) (by omega),rfl,hst,key _ hst ?_⟩;have e0:¬ (a2m (a0O k s) (a3S l) wm p r).1=0:=fun h=>hne (.inl h);unfold c8w;rw[if_neg e0,hwb.2];exact d4
theorem d2r:SmallS (a2p 0):=c9U 0
end Go.Ab
namespace Go.Ab
def cS(k o sh:Int)(c:List Int)(st:List Stg):Sub:=
 (k,(0:Int),o,sh,(0:Int),c,a01 3 (0:Int),st,([]:List Int),((0:Int),([]:List Int),()),([]:List Int),())
theorem b2P{k o sh:Int}{c:List Int}{st:List Stg}(h:c.length≤40)(h2:st.length≤6):SmallS (cS k o sh c st):=
 ⟨h,rfl,h2,by simp[cS],by simp[cS],by simp[cS]⟩
def b4O(d:List Int)(o w:Int):List Int×(Int×Int):=(a4M (d,o,w)).getD ([],0,1)
def b2Q(d:List Int)(o w:Int):List Sub:=bif (b4O d o w).2.2==0 then[cS 3 0 (b4O d o w).2.1 (b4O d o w).1 []]else[]
def d2s(d:List Int):Int:=(a7k d).getD 0
def b8X(d:List Int):Sub×Bool:=(a4y d).getD (a2p 0,false)
def c2M(d:List Int):List Sub:=bif (b8X d).2 then[(b8X d).1]else[]
def b2R(i:Nat):List Sub:=(List.range i).map fun(j:Nat)=>cS 2 (j:Int) 0 [] []
def a2S(d:List Int):List Sub:=[cS 0 0 0 [] [],cS 1 0 0 [] [],cS 2 (d2s d) 0 [] []]
def a4t(d:List Int)(k:Int):List Sub:=if 1≤k then b2Q d 4 12++b2Q d 8 12 else[]
def b2m(d:List Int)(k:Int):List Sub:=if 2≤k then[cS 5 0 0 [] [((16:Int),(4:Int),())],cS 5 0 0 [] [((32:Int),(3:Int),()),((16:Int),(5:Int),())]]++c2M d else[]
def c4j(d:List Int)(k:Int):List Sub:=if 3≤k then b2R 5++(b2Q d 1 12++(b2Q d 2 12++(b2Q d 12 14++b2Q d 16 14)))else[]
def a3E(d:List Int)(k:Int):List Sub:=a2S d++(a4t d k++(b2m d k++c4j d k))
def c1i(d:List Int):Prop:=a4y d=some (b8X d)∧((b8X d).2=true→SmallS (b8X d).1)
theorem c8W{d:List Int}(hw:d.all a0b=true)(hl:d.length≤4096){o w:Nat}(h1:1≤o)(h2:o≤32)(h3:2≤w∧w≤16):
  a4M (d,(o:Int),(w:Int))=some (b4O d o w)∧((b4O d o w).2.2=0→(b4O d o w).1.length=o):=by
 obtain⟨c,sh,e,g1,g2⟩:=d3G hw hl h1 h2 h3;unfold b4O;simp_all
theorem b2S(d:List Int)(o w:Int):(b2Q d o w).length≤1:=by
 grind[b2Q]
theorem b2T{d:List Int}(hw:d.all a0b=true)(hl:d.length≤4096){o w:Nat}(h1:1≤o)(h2:o≤32)(h3:2≤w∧w≤16){L:List Sub}(hL:L.length<1000):
  a0z ((o:Int),(w:Int),d,L)=some (d,L++b2Q d o w):=by
 obtain⟨g1,-⟩:=c8W hw hl h1 h2 h3;have hlim:lim (L.length+1)=true:=a0H (by omega);unfold a0z b2Q;simp only[g1,oB];cases (b4O d o w).2.2==0 with
 |true=>simp only[cT,hlim];rfl
 |false=>simp
theorem d2t{d:List Int}{L:List Sub}(hL:L.length<1000):a0h a2V ((0:Int),L,d,())=some (L++b2R 5,d,()):=by
 have:=a3C (f:=a2V) (fun i:Nat=>((i:Int),L++b2R i,d,())) 5 (b:=(L++b2R 5,d,()))
  (fun i hi=>by
   have d0:decide ((i:Int)<5)=true:=decide_eq_true (by omega);have hlim:lim ((L++b2R i).length+1)=true:=a0H (by simp[b2R];omega);have e:(L++b2R i)++[cS 2 (i:Int) 0 [] []]=L++b2R (i+1):=by simp[b2R,List.range_succ]
   rw[←e];simp only[a2V,d0,cT,hlim,a0d (show i<1000000 by omega)];rfl)
  (by
   rfl)
 simp at this;rw[show b2R 0=[]from rfl,a40]at this;omega
theorem d6V{d:List Int}(hw:d.all a0b=true)(hl:d.length≤4096)(hlag:c1i d)(k:Int):a7N (d,k)=some (a3E d k):=by
 obtain⟨o,ho,ho4⟩:=c4d (show d.length<100000 by omega) hw;have hb:d2s d=(o:Int):=by simp_all[d2s]
 have hlc:(c2M d).length≤1:=by grind[c2M]
 have l4:=b2S d 4 12;have l8:=b2S d 8 12;have l1:=b2S d 1 12;have l2:=b2S d 2 12;have l12:=b2S d 12 14;have c4:=fun L (hL:L.length<1000)=>b2T (L:=L) hw hl (o:=4) (w:=12) (by omega) (by omega) (by omega) hL;have c8:=fun L (hL:L.length<1000)=>b2T (L:=L) hw hl (o:=8) (w:=12) (by omega) (by omega) (by omega) hL;have c1:=fun L (hL:L.length<1000)=>b2T (L:=L) hw hl (o:=1) (w:=12) (by omega) (by omega) (by omega) hL;have c2:=fun L (hL:L.length<1000)=>b2T (L:=L) hw hl (o:=2) (w:=12) (by omega) (by omega) (by omega) hL;have c12:=fun L (hL:L.length<1000)=>b2T (L:=L) hw hl (o:=12) (w:=14) (by omega) (by omega) (by omega) hL;have c16:=fun L (hL:L.length<1000)=>b2T (L:=L) hw hl (o:=16) (w:=14) (by omega) (by omega) (by omega) hL;simp at c4 c8 c1 c2 c12 c16;have n0:(a2S d).length=3:=rfl;have n1:(a4t d k).length≤2:=by unfold a4t;split<;>simp<;>omega
 have n2:(b2m d k).length≤3:=by unfold b2m;split<;>simp<;>omega
 have n5:(b2R 5).length=5:=rfl;have s1:(bif decide (k≥1)then((a0z ((4:Int),(12:Int),d,a2S d)).bind fun y2=>(a0z ((8:Int),(12:Int),y2.1,y2.2)).bind fun y3=>some (k,y3.1,y3.2,()))else some (k,d,a2S d,()))=some (k,d,a2S d++a4t d k,()):=by
  unfold a4t
  by_cases h:1≤k
  have e:decide (k≥1)=true:=decide_eq_true h;simp only[e,cT,c4 (a2S d) (by omega),oB,c8 (a2S d++b2Q d 4 12) (by grind),if_pos h,aA]
  grind
 have hF:a7N (d,k)=(a7k d).bind fun y1=>
   (show Option (Int×((List Int)×((List Sub)×Unit)))from bif decide (k≥1)then((a0z ((4:Int),(12:Int),d,[cS 0 0 0 [] [],cS 1 0 0 [] [],cS 2 y1 0 [] []])).bind fun y2=>(a0z ((8:Int),(12:Int),y2.1,y2.2)).bind fun y3=>some (k,y3.1,y3.2,()))else some (k,d,[cS 0 0 0 [] [],cS 1 0 0 [] [],cS 2 y1 0 [] []],())).bind fun z4=>
   (show Option (Int×((List Sub)×((List Int)×Unit)))from bif decide (z4.1≥2)then(bif lim (z4.2.2.1.length+1)then(bif lim ((z4.2.2.1++[cS 5 0 0 [] [((16:Int),(4:Int),())]]).length+1)then((a4y z4.2.1).bind fun y5=>
    bif y5.2 then(bif lim ((z4.2.2.1++[cS 5 0 0 [] [((16:Int),(4:Int),())]]++[cS 5 0 0 [] [((32:Int),(3:Int),()),((16:Int),(5:Int),())]]).length+1)then some (z4.1,z4.2.2.1++[cS 5 0 0 [] [((16:Int),(4:Int),())]]++[cS 5 0 0 [] [((32:Int),(3:Int),()),((16:Int),(5:Int),())]]++[y5.1],z4.2.1,())else none)
    else some (z4.1,z4.2.2.1++[cS 5 0 0 [] [((16:Int),(4:Int),())]]++[cS 5 0 0 [] [((32:Int),(3:Int),()),((16:Int),(5:Int),())]],z4.2.1,()))else none)else none)else some (z4.1,z4.2.2.1,z4.2.1,())).bind fun z6=>
   (show Option ((List Sub)×Unit)from bif decide (z6.1≥3)then((a0h a2V ((0:Int),z6.2.1,z6.2.2.1,())).bind fun w7=>(a0z ((1:Int),(12:Int),w7.2.1,w7.1)).bind fun y8=>(a0z ((2:Int),(12:Int),y8.1,y8.2)).bind fun y9=>
    (a0z ((12:Int),(14:Int),y9.1,y9.2)).bind fun y10=>(a0z ((16:Int),(14:Int),y10.1,y10.2)).bind fun y11=>some (y11.2,()))else some (z6.2.1,())).bind fun z12=>some z12.1:=rfl
 have e0:[cS 0 0 0 [] [],cS 1 0 0 [] [],cS 2 (o:Int) 0 [] []]=a2S d:=by unfold a2S;grind
 have s2:(bif decide (k≥2)then(bif lim ((a2S d++a4t d k).length+1)then(bif lim ((a2S d++a4t d k++[cS 5 0 0 [] [((16:Int),(4:Int),())]]).length+1)then((a4y d).bind fun y5=>
    bif y5.2 then(bif lim ((a2S d++a4t d k++[cS 5 0 0 [] [((16:Int),(4:Int),())]]++[cS 5 0 0 [] [((32:Int),(3:Int),()),((16:Int),(5:Int),())]]).length+1)then some (k,a2S d++a4t d k++[cS 5 0 0 [] [((16:Int),(4:Int),())]]++[cS 5 0 0 [] [((32:Int),(3:Int),()),((16:Int),(5:Int),())]]++[y5.1],d,())else none)
    else some (k,a2S d++a4t d k++[cS 5 0 0 [] [((16:Int),(4:Int),())]]++[cS 5 0 0 [] [((32:Int),(3:Int),()),((16:Int),(5:Int),())]],d,()))else none)else none)else some (k,a2S d++a4t d k,d,()):Option (Int×((List Sub)×((List Int)×Unit))))=some (k,a2S d++(a4t d k++b2m d k),d,()):=by
  unfold b2m
  by_cases h:2≤k
  have e:decide (k≥2)=true:=decide_eq_true h;have q1:lim ((a2S d++a4t d k).length+1)=true:=a0H (by grind);have q2:lim ((a2S d++a4t d k++[cS 5 0 0 [] [((16:Int),(4:Int),())]]).length+1)=true:=a0H (by simp;omega);have q3:lim ((a2S d++a4t d k++[cS 5 0 0 [] [((16:Int),(4:Int),())]]++[cS 5 0 0 [] [((32:Int),(3:Int),()),((16:Int),(5:Int),())]]).length+1)=true:=a0H (by simp;omega);simp only[e,q1,q2,q3,cT,hlag.1,oB,if_pos h,c2M];cases (b8X d).2<;>simp
  grind
 have s3:(bif decide (k≥3)then((a0h a2V ((0:Int),a2S d++(a4t d k++b2m d k),d,())).bind fun w7=>(a0z ((1:Int),(12:Int),w7.2.1,w7.1)).bind fun y8=>(a0z ((2:Int),(12:Int),y8.1,y8.2)).bind fun y9=>
    (a0z ((12:Int),(14:Int),y9.1,y9.2)).bind fun y10=>(a0z ((16:Int),(14:Int),y10.1,y10.2)).bind fun y11=>some (y11.2,()))else some (a2S d++(a4t d k++b2m d k),()):Option ((List Sub)×Unit))=some (a3E d k,()):=by
  unfold a3E c4j
  by_cases h:3≤k
  have e:decide (k≥3)=true:=decide_eq_true h;simp only[e,cT,d2t (L:=a2S d++(a4t d k++b2m d k)) (by simp;omega),oB,if_pos h];rw[c1 _ (by simp;omega)];simp only[oB];rw[c2 _ (by simp;omega)];simp only[oB];rw[c12 _ (by simp;omega)];simp only[oB];rw[c16 _ (by simp;omega)]
  simp
  grind
 rw[hF,ho,oB,e0];simp only[];rw[s1];simp only[oB];simp_all
theorem c4k{d:List Int}(hw:d.all a0b=true)(hl:d.length≤4096)(hlag:c1i d)(k:Int):∀c∈a3E d k,SmallS c:=by
 have hlin:∀(o w:Nat),1≤o→o≤32→2≤w∧w≤16→∀c∈b2Q d o w,SmallS c:=fun o w h1 h2 h3 c hc=>by
  obtain⟨-,g2⟩:=c8W hw hl h1 h2 h3;unfold b2Q at hc;cases he:(b4O d o w).2.2==0 with
  |false=>simp_all
  |true=>
   rw[he]at hc;simp at hc
   grind[b2P]
 intro c hc;simp[a3E]at hc;rcases hc with hc|hc|hc|hc;simp[a2S]at hc;rcases hc with rfl|rfl|rfl<;>exact b2P (by simp) (by simp);unfold a4t at hc
 split at hc
 simp at hc;rcases hc with hc|hc;exact hlin 4 12 (by omega) (by omega) (by omega) c hc;exact hlin 8 12 (by omega) (by omega) (by omega) c hc;simp_all
 ·unfold b2m at hc
  split at hc
  ·simp only[mA,mC,a80,or_false]at hc;rcases hc with(rfl|rfl)|hc;simp_all[b2P];simp_all[b2P]
   ·unfold c2M at hc;cases hg:(b8X d).2 with
    |false=>simp_all
    |true=>
     rw[hg]at hc;simp at hc;subst hc;exact hlag.2 hg
  simp_all
 unfold c4j at hc
 split at hc
 simp only[mA,b2R,List.mem_map]at hc;rcases hc with⟨j,-,rfl⟩|hc|hc|hc|hc;simp_all[b2P];exact hlin 1 12 (by omega) (by omega) (by omega) c hc;exact hlin 2 12 (by omega) (by omega) (by omega) c hc;exact hlin 12 14 (by omega) (by omega) (by omega) c hc;exact hlin 16 14 (by omega) (by omega) (by omega) c hc;simp_all
theorem d5l{d:List Int}(hl:d.length≤256):a4y d=some (a2p 0,false):=by
 have hF:b3v (d,(16:Int),(256:Int))=some (0,7):=by
  unfold b3v
  grind
 unfold a4y;simp only[hF,oB,show((7:Int) != 0)=true from rfl,cT];rfl
theorem d3L{d:List Int}(hl:d.length≤256):c1i d:=by
 have h:=d5l hl
 have:b8X d=(a2p 0,false):=by unfold b8X;simp_all
 exact⟨by simp_all,fun hc=>by simp_all⟩
def b8g(l:List Int)(a:Int×(Bool×Sub))(c:Sub):Int×(Bool×Sub):=
 bif (a1z c.1 l c).2 != 0 then a else bif !a.2.1 || decide (a3U (a1z c.1 l c).1 (l.length:Int)<a.1)then(a3U (a1z c.1 l c).1 (l.length:Int),true,(a1z c.1 l c).1)else a
def b8Y(l:List Int)(cs:List Sub):Int×(Bool×Sub):=cs.foldl (b8g l) (0,false,a2p 0)
theorem b8Z{α A β:Type}(g:A→α→A)(fin:A→β):∀(l:List α)(a:A),b0e fin (a3D (fun a x=>.inl (g a x)) l a)=fin (l.foldl g a)
 | [],_=>rfl
 |x::l,a=>b8Z g fin l (g a x)
theorem d0c{k:Int}{l:List Int}{s:Sub}(h:SmallS s):SmallS (a1z k l s).1:=by
 by_cases h0:(a1z k l s).2=0
 exact(c5r h h0).1
 have:(a1z k l s).1=a2p 0:=by
  unfold a1z at h0⊢
  grind
 simp_all[d2r]
theorem d3M{l:List Int}{cs:List Sub}(hs:∀c∈cs,SmallS c)(hl:l.length≤4096)(hc:cs.length<1000):
  a0h a8l (l,(0:Int),false,cs,((cs.length:Nat):Int),(0:Int),a2p 0,a2p 0,())=some (a2p 0,(b8Y l cs).2.2,()):=by
 have:=a2t (f:=a8l) cs (fun i a=>(l,a.1,a.2.1,cs,((cs.length:Nat):Int),(i:Int),a2p 0,a.2.2,())) (fun a x=>.inl (b8g l a x)) (fun _ _=>True) (fun a=>(a2p 0,a.2.2,()))
  (fun i hi a _=>by
   refine⟨fun a' ha'=>?_,fun b hb=>by grind⟩;simp at ha';subst ha';refine⟨?_,trivial⟩;have hS:=hs _ (a06 hi);have c1:=c1g (d0c (k:=cs[i].1) (l:=l) hS) (l.length:Int);unfold b8g;simp only[a8l,dlt hi,cT,a0c hi,oB,d6U hS cs[i].1 (show l.length≤100000 by omega),c1,a0d (show i<1000000 by omega)];cases (a1z cs[i].1 l cs[i]).2 != 0 with
   |true=>rfl
   |false=>
    have hwr:=a0d (show i<1000000 by omega)
    grind)
  (fun a _=>by simp_all[a8l]) (a:=((0:Int),false,a2p 0)) trivial
 simp at this;rw[this,b8Z];rfl
theorem d6W{l:List Int}(h1:1≤l.length)(h2:l.length≤4096)(hw:l.all a0b=true)(hlag:c1i (a1d l)){k:Int}(h0:0≤k)(h3:k≤3):
  a3a (l,k)=some ((b8Y l (a3E (a1d l) k)).2.2,0):=by
 have hs:short l:=by unfold short;omega
 obtain⟨w1,w3,-⟩:=b0u hs hw;obtain⟨d1,d2,d3,-⟩:=a6D h2 hw;have e1:decide (((l.length:Nat):Int)<1)=false:=decide_eq_false (by omega);have e2:decide (((l.length:Nat):Int) > 4096)=false:=decide_eq_false (by omega);have e3:decide (k<0)=false:=decide_eq_false (by omega);have e4:decide (k > 3)=false:=decide_eq_false (by omega);have hlen:(a3E (a1d l) k).length<1000:=by
  have g:=fun o w=>b2S (a1d l) o w;have q1:=g 4 12;have q2:=g 8 12;have q3:=g 1 12;have q4:=g 2 12;have q5:=g 12 14;have q6:=g 16 14;have hlc:(c2M (a1d l)).length≤1:=by grind[c2M]
  simp only[a3E,a2S,a4t,b2m,c4j,lN]
  grind[b2R]
 have hb:=d3M (l:=l) (c4k d2 (by omega) hlag k) h2 hlen;have hz:a2p 0=((0:Int),(0:Int),(0:Int),(0:Int),(0:Int),([]:(List Int)),a01 3 (0:Int),([]:(List (Int×Int×Unit))),([]:(List Int)),((0:Int),([]:(List Int)),()),([]:(List Int)),()):=rfl;unfold a3a;simp only[←hz,e1,e2,e3,e4,cF,oB,a5v hs,hw,bT,w1,b8b w3 (show l.length<100000 by omega),d1,a5T,show((0:Int) != 0)=false from rfl,d6V d2 (show(a1d l).length≤4096 by omega) hlag,hb]
end Go.Ab
namespace Go.Ab
theorem a4O(v:Int)(n:Nat)(L:List Int):(a0x v n L).length=L.length+(a0x v n []).length:=by
 unfold a0x;cases (a0D .u64 v (n:Int) != 0)<;>simp
theorem b1s(n:Nat):∀(l L:List Int),(a1O n l L).length=L.length+(a1O n l []).length
 | [],L=>by simp[a1O]
 |x::l,L=>by
  show(a1O n l (a0x (a0G x n) n L)).length=L.length+(a1O n l (a0x (a0G x n) n [])).length;rw[b1s n l,b1s n l (a0x (a0G x n) n []),a4O];omega
theorem b3E:∀(st:List Stg)(L:List Int),(a3M st L).length=L.length+(a3M st []).length
 | [],L=>by simp[a3M]
 |s::st,L=>by
  show(a3M st (a7u s L)).length=L.length+(a3M st (a7u s [])).length;rw[b3E st,b3E st (a7u s [])];unfold a7u;rw[a4O,a4O _ 5 L,a4O _ 4 (a0x _ 5 [])];omega
theorem b9a(s:Sub)(L:List Int):(a7v s L).length=L.length+(a7v s []).length:=by
 unfold a7v;rw[b1s,a4O,a4O _ 4,a4O _ 5 L]
 conv=>rhs;rw[b1s,a4O,a4O _ 4]
 omega
theorem c6n(s:Sub)(L:List Int):(a3b s L).length=L.length+(a3b s []).length:=by
 unfold a3b;split;rw[a4O];split;rw[b9a];split;rw[b9a,b1s,a4O]
 conv=>rhs;rw[b9a,b1s]
 omega;split;rw[b3E,a4O]
 conv=>rhs;rw[b3E]
 omega
 simp
theorem d5m{s:Sub}(hk:0≤s.1∧s.1≤5)(hw:0≤s.2.1∧s.2.1≤30)(ha:s.2.2.2.2.2.2.2.2.1.all a0b=true)(L:List Int):(b3A s L).length=L.length+13:=by
 obtain⟨K,hK⟩:=a00 hk.1;obtain⟨w,hw'⟩:=a00 hw.1
 have:=a2x ha
 unfold b3A;rw[hK,hw',a2R (q:=K) (by omega),a2R (q:=w) (by omega),a7S (n:=5) (by omega) (by omega),a7S (n:=5) (by omega) (by omega),a7S (n:=3) (by omega) (by omega)]
def d2u(s:Sub)(zn:List Nat):Nat:=
 13+(a3b s []).length+a0l s.2.2.2.2.2.2.2.2.1*s.2.2.2.2.2.2.2.2.1.length+if s.1=0∨s.1=1 then 0 else 4+a4X zn s.2.2.2.2.2.2.2.2.2.1.2.1 s.2.2.2.2.2.2.2.2.2.2.1
theorem b9b{k n:Int}{s:Sub}(h:a4N k s n):0≤k∧k≤5:=by
 rcases h with h|h|⟨h,-⟩|⟨h,-⟩|⟨h,-⟩|⟨h,-⟩<;>omega
theorem b7o{s:Sub}{n:Int}(h:(a2M s n).isSome=true):a1D s n:=by
 unfold a2M at h
 split at h
 assumption
 cases h
theorem d6X{s:Sub}{n:Int}(h:(a2M s n).isSome=true){zn:List Nat}(hz:s.1≠0∧s.1≠1→PartsOk s.2.2.2.2.2.2.2.2.2.1 n ((s.2.2.2.2.2.2.2.2.1.length:Nat):Int) s.2.2.2.2.2.2.2.2.2.2.1 zn)(L:List Int):
  (a6f s zn L).length=L.length+d2u s zn:=by
 obtain⟨h1,h2,hf,-,h5,h6,-,-,hw,-⟩:=b7o h;have hwd:=a2x hw;have hh:=d5m (b9b hf) ⟨h5,h6⟩ hw L;unfold a6f d2u
 by_cases hk:s.1=0∨s.1=1
 rw[if_pos hk,if_pos hk,b6C (by omega),c6n,hh];omega;rw[if_neg hk,if_neg hk,c6X (hz (not_or.1 hk)),b6C (by omega),c6n,hh];omega
theorem d5n{s:Sub}(h:SmallS s){n:Int}(hs:(a2M s n).isSome=true):∃zn,a3U s n=((d2u s zn:Nat):Int)∧(s.1≠0∧s.1≠1→PartsOk s.2.2.2.2.2.2.2.2.2.1 n ((s.2.2.2.2.2.2.2.2.1.length:Nat):Int) s.2.2.2.2.2.2.2.2.2.2.1 zn):=by
 obtain⟨e,L',-,-,-,h4,-⟩:=b8L h (n:=n) (L:=[]) (by simp);obtain⟨-,zn,-,hz⟩:=h4 hs;refine⟨zn,?_,hz⟩;unfold a3U;rw[if_pos hs,←c5p hz,d6X hs hz]
 simp
end Go.Ab
namespace Go.Ab
structure Shifted (l m:List Int) (n:Nat):Prop where
 len:m.length=l.length
 wl:l.all a0b=true
 wm:m.all a0b=true
 down:a1d m=a1d l
 waste:a3S m=a3S l+n
 fl:l.all (fun x=>x==l.headD 0)=false
 fm:m.all (fun x=>x==m.headD 0)=false
structure BestIs (l:List Int) (cs:List Sub) (a:Int×(Bool×Sub)):Prop where
 one:a.2.1=true→∃c∈cs,(a1z c.1 l c).2=0∧a.2.2=(a1z c.1 l c).1∧a.1=a3U a.2.2 (l.length:Int)
 least:∀c∈cs,(a1z c.1 l c).2=0→a.2.1=true∧a.1≤a3U (a1z c.1 l c).1 (l.length:Int)
theorem c0S{l:List Int}:∀(cs ds:List Sub)(a:Int×(Bool×Sub)),BestIs l ds a→BestIs l (ds++cs) (cs.foldl (b8g l) a)
 | [],ds,a,h=>by rw[a40];exact h
 |c::cs,ds,a,h=>by
  rw[b08,show ds++c::cs=(ds++[c])++cs by simp];refine c0S cs (ds++[c]) _ ?_
  unfold b8g
  by_cases h0:(a1z c.1 l c).2=0
  ·have n1:((a1z c.1 l c).2 != 0)=false:=by rw[h0];rfl
   rw[n1,cF];cases hq:(!a.2.1 || decide (a3U (a1z c.1 l c).1 (l.length:Int)<a.1))with
   |true=>
    refine⟨fun _=>⟨c,by simp,h0,rfl,rfl⟩,fun d hd hd0=>⟨rfl,?_⟩⟩;rcases mA.1 hd with hd|hd;obtain⟨g1,g2⟩:=h.least d hd hd0;rw[g1]at hq;simp only[bT,Bool.false_or,dT]at hq;exact Int.le_trans (Int.le_of_lt hq) g2;simp only[a72]at hd;subst hd;exact Int.le_refl _
   |false=>
    simp only[a89,Bool.not_eq_false',decide_eq_false_iff_not]at hq;refine⟨fun ht=>?_,fun d hd hd0=>?_⟩;obtain⟨d,hd,g⟩:=h.one ht;exact⟨d,a90 _ hd,g⟩;rcases mA.1 hd with hd|hd;exact h.least d hd hd0;simp only[a72]at hd;subst hd;exact⟨hq.1,Int.not_lt.1 hq.2⟩
  have n1:((a1z c.1 l c).2 != 0)=true:=by simpa using h0
  rw[n1,cT];refine⟨fun ht=>?_,fun d hd hd0=>?_⟩;obtain⟨d,hd,g⟩:=h.one ht;exact⟨d,a90 _ hd,g⟩;rcases mA.1 hd with hd|hd;exact h.least d hd hd0;simp only[a72]at hd;subst hd;exact absurd hd0 h0
theorem c1j(l:List Int)(cs:List Sub):BestIs l cs (b8Y l cs):=
 c0S cs [] _ ⟨fun h=>(by cases h),fun _ h=>(by cases h)⟩
theorem b9c{l:List Int}(h1:1≤l.length)(h2:l.length≤4096)(hw:l.all a0b=true):a1z 1 l (cS 1 0 0 [] [])=(a2m (a0O 1 (cS 1 0 0 [] [])) (a3S l) (a1d l) z0 [],0):=by
 unfold a1z;rw[if_neg (fun q=>q ⟨h1,h2,.inr (.inl rfl)⟩),if_neg (by rw[hw];decide),if_neg (by decide),if_pos rfl]
theorem c4l{l:List Int}(h1:1≤l.length)(h2:l.length≤4096)(hw:l.all a0b=true)(d:List Int)(k:Int):(b8Y l (a3E d k)).2.1=true:=
 ((c1j l (a3E d k)).least (cS 1 0 0 [] []) (by simp[a3E,a2S]) (by rw[show(cS 1 0 0 [] []).1=1 from rfl,b9c h1 h2 hw])).1
end Go.Ab
namespace Go.Ab
open IntKind(wrap)
def inW(x:Int)(v:Nat):Bool:=decide (x=0) || a1U x (v:Int)
theorem d5o{x:Int}{v:Nat}:a1U x (v:Int)=true↔1≤v∧v≤31∧-((2^(v-1):Nat):Int)≤x∧x≤((2^(v-1):Nat):Int)-1:=by
 by_cases hv:1≤v∧v≤31
 have e:((v:Int)-1)=((v-1:Nat):Int):=by omega
 have hp:2^(v-1)≤2^30:=a17 (by omega) (by omega);have hp1:=a19 (v-1);have e1:a0A .i64 1 ((v-1:Nat):Int)=((2^(v-1):Nat):Int):=c8G (by omega);have e2:a0A .i64 (-1) ((v-1:Nat):Int)=-((2^(v-1):Nat):Int):=by
  have em:min (a29 ((v-1:Nat):Int)) (IntKind.bits .i64)=v-1:=by simp only[tN,IntKind.bits];omega
  unfold a0A;rw[em,show(-1:Int)*2^(v-1)=-((2^(v-1):Nat):Int)by simp];exact a0g (by omega)
 have e3:wrap .i64 (((2^(v-1):Nat):Int)-1)=((2^(v-1):Nat):Int)-1:=a0g (by omega);simp only[a1U,e,e1,e2,e3,bA,dT];constructor;intro h;exact⟨hv.1,hv.2,h.2.2.1,h.2.2.2⟩;intro h;exact⟨by omega,by omega,h.2.2.1,h.2.2.2⟩;constructor;intro h;simp only[a1U,bA,dT]at h;omega;intro h;omega
theorem c1k{x:Int}{v:Nat}:inW x v=true↔x=0∨(1≤v∧v≤31∧-((2^(v-1):Nat):Int)≤x∧x≤((2^(v-1):Nat):Int)-1):=by
 simp only[inW,a24,dT,d5o]
theorem d5p{x:Int}{v w:Nat}(h:v≤w)(hw:w≤31)(hx:inW x v=true):inW x w=true:=by
 rw[c1k]at hx⊢;rcases hx with hx|⟨h1,h2,h3,h4⟩;exact .inl hx
 have:2^(v-1)≤2^(w-1):=a17 (by omega) (by omega)
 exact .inr ⟨by omega,hw,by omega,by omega⟩
theorem d5q{x:Int}(h:a0b x=true):inW x 31=true:=by
 have:=a2h.1 h
 rw[c1k];exact .inr ⟨by omega,by omega,by rw[show((2^(31-1):Nat):Int)=1073741824 from rfl];omega,by rw[show((2^(31-1):Nat):Int)=1073741824 from rfl];omega⟩
theorem c6o{x:Int}(hx:a0b x=true):∀(k w:Nat),w+k=32→w≤31→w≤a2l x k w∧a2l x k w≤31∧inW x (a2l x k w)=true∧∀v,w≤v→inW x v=true→v≤31→a2l x k w≤v
 |0,w,h,h31=>absurd h31 (by omega)
 |k+1,w,h,h31=>by
  by_cases hin:inW x w=true
  ·have:a2l x (k+1) w=w:=by
    unfold a2l;cases hc:(x != 0)&&!a1U x (w:Int)with
    |false=>rfl
    |true=>
     simp only[bA,bne_iff_ne,ne_eq,a28]at hc;simp only[inW,a24,dT,hc.2,Bool.false_eq_true,or_false]at hin;exact absurd hin hc.1
   rw[this];exact⟨a32 _,h31,hin,fun v hv _ _=>hv⟩
  have hc:((x != 0)&&!a1U x (w:Int))=true:=by
   simp only[inW,a24,dT,not_or,Bool.not_eq_true]at hin;simp only[bA,bne_iff_ne,ne_eq,a28];exact hin
  have hne:w≠31:=fun e=>hin (by rw[e];exact d5q hx);have e:a2l x (k+1) w=a2l x k (w+1):=by
   show(bif (x != 0)&&!a1U x (w:Int)then a2l x k (w+1)else w)=_;rw[hc,cT]
  obtain⟨g1,g2,g3,g4⟩:=c6o hx k (w+1) (by omega) (by omega);rw[e];refine⟨by omega,g2,g3,fun v hv hvi h31=>g4 v ?_ hvi h31⟩;rcases Nat.lt_or_ge w v with q|q;exact q
  have:v=w:=by omega
  exact absurd (this▸hvi) hin
theorem b2n:∀(l:List Int)(w:Nat),l.all a0b=true→w≤31→
  w≤l.foldl (fun w x=>a2l x (32-w) w) w∧l.foldl (fun w x=>a2l x (32-w) w) w≤31∧(∀x∈l,inW x (l.foldl (fun w x=>a2l x (32-w) w) w)=true)∧∀v,w≤v→v≤31→(∀x∈l,inW x v=true)→l.foldl (fun w x=>a2l x (32-w) w) w≤v
 | [],w,_,h31=>⟨a32 _,h31,by simp,fun v hv _ _=>hv⟩
 |x::l,w,h,h31=>by
  rw[a07,bA]at h;obtain⟨g1,g2,g3,g4⟩:=c6o h.1 (32-w) w (by omega) h31;obtain⟨f1,f2,f3,f4⟩:=b2n l (a2l x (32-w) w) h.2 g2;simp only[b08];refine⟨by omega,f2,fun y hy=>?_,fun v hv hv31 hall=>?_⟩;rcases mC.1 hy with rfl|hy;exact d5p f1 f2 g3;exact f3 y hy;exact f4 v (g4 v hv (hall x a70) hv31) hv31 fun y hy=>hall y (List.mem_cons_of_mem _ hy)
theorem c8X{l:List Int}(h:l.all a0b=true):∀x∈l,inW x (a0l l)=true:=(b2n l 0 h (by omega)).2.2.1
theorem d0d{l:List Int}(h:l.all a0b=true){v:Nat}(hv:v≤31)(hall:∀x∈l,inW x v=true):a0l l≤v:=(b2n l 0 h (by omega)).2.2.2 v (by omega) hv hall
theorem d5r{x:Int}{w v:Nat}(hw:w≤30)(hd:((2^w:Nat):Int) ∣ x)(h:inW x v=true):inW (a0D .i64 x (w:Int)) v=true:=by
 obtain⟨c,rfl⟩:=hd;rw[d5h (by omega)];rw[c1k]at h⊢;have hp:(1:Int)≤((2^w:Nat):Int):=by have:=a19 w;omega
 generalize ((2^w:Nat):Int)=p at h hp;rcases h with h|⟨h1,h2,h3,h4⟩;rcases Int.mul_eq_zero.1 h with h|h;omega;exact .inl h;refine .inr ⟨h1,h2,?_,?_⟩
 by_cases hc:0≤c
 have:(0:Int)≤((2^(v-1):Nat):Int):=a71 _
 omega;have hm:=a60 (show 0≤p-1 by omega) (show 0≤-c by omega);rw[Int.mul_neg,b02]at hm;omega
 by_cases hc:0≤c
 have hm:=a60 (show 0≤p-1 by omega) hc;rw[b02]at hm;omega
 have:(1:Int)≤((2^(v-1):Nat):Int):=by have:=a19 (v-1);omega
 omega
theorem d2v{l:List Int}(h2:l.length≤4096)(hw:l.all a0b=true):a0l (a1d l)≤a0l l:=by
 obtain⟨-,w3,w4⟩:=b0u (show short l by unfold short;omega) hw;obtain⟨-,d2,-,-⟩:=a6D h2 hw;have hdv:∀x∈l,((2^a3S l:Nat):Int) ∣ x:=by
  rcases w4 with⟨g,-⟩|⟨-,-,g,-⟩;exact fun x hx=>by rw[g x hx];exact a96 _
  exact g
 refine d0d d2 (a2x hw) fun y hy=>?_
 obtain⟨x,hx,rfl⟩:=List.mem_map.1 hy;exact d5r w3 (hdv x hx) (c8X hw x hx)
theorem d2w{l:List Int}(h1:1≤l.length)(h2:l.length≤4096)(hw:l.all a0b=true):a3U (a1z 1 l (cS 1 0 0 [] [])).1 (l.length:Int)=((13+a0l (a1d l)*l.length:Nat):Int):=by
 have hS:SmallS (cS 1 0 0 [] []):=b2P (by simp) (by simp);have hm:=b9c h1 h2 hw;obtain⟨a1,-,-,a4⟩:=c5r hS (k:=1) (l:=l) (by rw[hm]);obtain⟨zn,hc,-⟩:=d5n a1 (by rw[a4];rfl);obtain⟨-,-,d3,-⟩:=a6D h2 hw;rw[hc,hm];have e:d2u (a2m (a0O 1 (cS 1 0 0 [] [])) (a3S l) (a1d l) z0 []) zn=13+0+a0l (a1d l)*(a1d l).length+0:=rfl;rw[e,d3];rfl
theorem d3N{d:List Int}{k k':Int}(h:k≤k'):∀c∈a3E d k,c∈a3E d k':=by
 intro c hc;simp only[a3E,mA]at hc⊢;rcases hc with hc|hc|hc|hc;exact .inl hc;refine .inr (.inl ?_);unfold a4t at hc⊢
 split at hc
 rw[if_pos (by omega)];exact hc;simp at hc;refine .inr (.inr (.inl ?_));unfold b2m at hc⊢
 split at hc
 rw[if_pos (by omega)];exact hc;simp at hc;refine .inr (.inr (.inr ?_));unfold c4j at hc⊢
 split at hc
 rw[if_pos (by omega)];exact hc;simp at hc
theorem b9d{l:List Int}(h1:1≤l.length)(h2:l.length≤4096)(hw:l.all a0b=true)(hlag:c1i (a1d l)){k:Int}(h0:0≤k)(h3:k≤3):
  ∃s,a3a (l,k)=some (s,0)∧SmallS s∧a2M s (l.length:Int)=some l∧s=(b8Y l (a3E (a1d l) k)).2.2∧a3U s (l.length:Int)=(b8Y l (a3E (a1d l) k)).1∧a3U s (l.length:Int)≤((13+a0l l*l.length:Nat):Int)∧
   (∀c∈a3E (a1d l) k,(a1z c.1 l c).2=0→a3U s (l.length:Int)≤a3U (a1z c.1 l c).1 (l.length:Int)):=by
 obtain⟨-,d2,d3,-⟩:=a6D h2 hw;have hb:=d6W h1 h2 hw hlag h0 h3;have hfd:=c4l h1 h2 hw (a1d l) k;obtain⟨c,hc,g0,g1,g2⟩:=(c1j l (a3E (a1d l) k)).one hfd;have hSc:=c4k d2 (by omega) hlag k c hc;obtain⟨f1,-,-,f4⟩:=c5r hSc g0;rw[←g1]at f1 f4;have hleast:∀c∈a3E (a1d l) k,(a1z c.1 l c).2=0→a3U (b8Y l (a3E (a1d l) k)).2.2 (l.length:Int)≤a3U (a1z c.1 l c).1 (l.length:Int):=fun c hc h0=>by
  rw[←g2];exact((c1j l (a3E (a1d l) k)).least c hc h0).2
 refine⟨_,hb,f1,f4,rfl,g2.symm,?_,hleast⟩;have hp:=hleast (cS 1 0 0 [] []) (by simp[a3E,a2S]) (by rw[show(cS 1 0 0 [] []).1=1 from rfl,b9c h1 h2 hw]);rw[show(cS 1 0 0 [] []).1=1 from rfl,d2w h1 h2 hw]at hp
 have:=a35 l.length (d2v h2 hw)
 omega
theorem d3O{l:List Int}(h1:1≤l.length)(h2:l.length≤4096)(hw:l.all a0b=true)(hlag:c1i (a1d l)){k k':Int}(h0:0≤k)(hk:k≤k')(h3:k'≤3){s s':Sub}(hs:a3a (l,k)=some (s,0))(hs':a3a (l,k')=some (s',0)):
  a3U s' (l.length:Int)≤a3U s (l.length:Int):=by
 obtain⟨t,e1,-,-,e2,-⟩:=b9d h1 h2 hw hlag h0 (show k≤3 by omega);obtain⟨t',e1',-,-,-,-,-,hl⟩:=b9d h1 h2 hw hlag (show 0≤k' by omega) h3;rw[hs]at e1;rw[hs']at e1';obtain rfl:s=t:=by simpa using e1
 obtain rfl:s'=t':=by simpa using e1'
 have hfd:=c4l h1 h2 hw (a1d l) k;obtain⟨c,hc,g0,g1,-⟩:=(c1j l (a3E (a1d l) k)).one hfd
 have:=hl c (d3N hk c hc) g0
 rw[←g1,←e2]at this;exact this
end Go.Ab
namespace Go.Ab
open IntKind(wrap)
@[reducible] def Rd:Type:=(List Int)×(Int×(Int×Unit))
def a1H(L:List Int):Prop:=∀b∈L,b=0∨b=1
def b4V(bs:List Int)(i:Nat):Bool:=(bs.getD (i / 8) 0).toNat.testBit (7-i%8)
theorem or8{x y:Nat}(hx:x<256)(hy:y<256):bits .u8 .or (x:Int) (y:Int)=((x ||| y:Nat):Int):=by
 show wrap .u8 (((a04 8 (x:Int)) ||| (a04 8 (y:Int))).toNat:Int)=_;rw[a34,a34,a56,a37,a37,a33 hx,a33 hy,b2f]
 have:x ||| y<2^8:=a97 hx hy
 omega
theorem e2z{b:Int}(hb:b=0∨b=1){r:Nat}(hr:r<8):a0A .u8 b (7-(r:Int))=((b.toNat*2^(7-r):Nat):Int):=by
 have key:∀r:Fin 8,a0A .u8 0 (7-(r.1:Int))=((0*2^(7-r.1):Nat):Int)∧a0A .u8 1 (7-(r.1:Int))=((1*2^(7-r.1):Nat):Int):=by decide +kernel
 rcases hb with rfl|rfl;exact(key ⟨r,hr⟩).1;exact(key ⟨r,hr⟩).2
theorem d5s{x:Nat}(hx:x<256){r:Nat}(hr:r<8):bits .u8 .and (a0D .u8 (x:Int) (7-(r:Int))) 1=if x.testBit (7-r)then 1 else 0:=by
 have e:a0D .u8 (x:Int) (7-(r:Int))=((x / 2^(7-r):Nat):Int):=by
  show b07 (x:Int) (2^(min (7-(r:Int)).toNat 8))=_
  grind
 rw[e];have hy:x / 2^(7-r)<256:=a48 (a49 _ _) hx;show wrap .u8 (((a04 8 ((x / 2^(7-r):Nat):Int)) &&& (a04 8 1)).toNat:Int)=_
 grind[a04,b2f]
theorem d3P(L:List Int)(b:Int)(i:Nat):(L++[b]).getD i 0=if i=L.length then b else L.getD i 0:=by
 grind
theorem c8Y(bs:List Int)(k:Nat)(y:Int)(hk:k<bs.length)(j:Nat):(bs.set k y).getD j 0=if j=k then y else bs.getD j 0:=by
 grind
theorem c6p:∀(n:Nat)(L:List Int),L.length=n→a1H L→(∀j,0≤(wL L).1.getD j 0∧(wL L).1.getD j 0<256)∧∀i,b4V (wL L).1 i=decide (L.getD i 0=1)
 |0,L,h,_=>by
  simp_all[wL,b4V]
 |n+1,L,h,hL=>by
  obtain⟨L',b,rfl⟩:∃L' b,L=L'++[b]:=by
   rcases a87 L with rfl|⟨L',b,e⟩
   all_goals simp_all
  have hb:b=0∨b=1:=hL b (by simp);obtain⟨i1,i2⟩:=c6p n L' (by simp_all) fun c hc=>hL c (by grind);obtain⟨h1,h2⟩:=a6K L';rw[c5m];generalize wL L'=wr at h1 h2 i1 i2⊢;obtain⟨bs,m,u⟩:=wr;have h1:m=(L'.length:Int):=h1;have h2:bs.length=(L'.length+7) / 8:=h2;subst h1;have e8:((L'.length:Int) / 8).toNat=L'.length / 8:=by rfl
  have em:(L'.length:Int)%8=((L'.length%8:Nat):Int):=by rfl
  obtain⟨bs1,hbs1,g1,g2⟩:∃bs1:List Int,(if(L'.length:Int)%8=0 then bs++[0]else bs)=bs1∧L'.length / 8<bs1.length∧∀j,bs1.getD j 0=bs.getD j 0:=by
   grind
  rw[em]at hbs1;have hr:L'.length%8<8:=a51 _ (by simp);obtain⟨x,hx⟩:∃x:Nat,bs.getD (L'.length / 8) 0=(x:Int):=a00 (i1 _).1;have hx256:x<256:=by
   grind
  have hy:b.toNat*2^(7-L'.length%8)<256:=by
   have hp:2^(7-L'.length%8)≤2^7:=a17 (by simp) (by omega)
   grind
  have hor:x ||| b.toNat*2^(7-L'.length%8)<2^8:=a97 hx256 hy;have hbit:(c5l (bs,(L'.length:Int),u) b).1=bs1.set (L'.length / 8) ((x ||| b.toNat*2^(7-L'.length%8):Nat):Int):=by
   unfold c5l;simp only[hbs1,e8,em];rw[g2,hx,e2z hb hr,or8 hx256 hy]
  rw[hbit];refine⟨fun j=>?_,fun i=>?_⟩
  grind[c8Y]
  ·unfold b4V;rw[c8Y _ _ _ g1,d3P];have hi:=i2 i;unfold b4V at hi
   by_cases hk:i / 8=L'.length / 8
   ·rw[if_pos hk,tN,Nat.testBit_or];rw[hk,hx,tN]at hi;rw[hi];have hbt:(b.toNat*2^(7-L'.length%8)).testBit (7-i%8)=(decide (b=1)&&decide (i=L'.length)):=by
     rcases hb with rfl|rfl
     all_goals grind
    grind
   grind
theorem d6Y{L:List Int}(h:a1H L):(∀j,0≤(wL L).1.getD j 0∧(wL L).1.getD j 0<256)∧∀i,b4V (wL L).1 i=decide (L.getD i 0=1):=c6p _ L rfl h
def rdr(P R:List Int):Rd:=((wL (P++R)).1,(P.length:Int),(0:Int),())
theorem c5s{L:List Int}(hL:a1H L)(hl:L.length<1000000000){i:Nat}(hi:i<L.length)(t:Int×(Int×Unit)):
  a1X (((wL L).1,t),(i:Int))=some (L.getD i 0,(wL L).1,t):=by
 obtain⟨h1,h2⟩:=d6Y hL;obtain⟨-,h3⟩:=a6K L;have ht:a36 (i:Int) 8=((i%8:Nat):Int):=by rfl
 have hd:a62 (i:Int) 8=((i / 8:Nat):Int):=by rfl
 have e1:wrap .i64 ((i / 8:Nat):Int)=((i / 8:Nat):Int):=a0g (by omega);have e2:wrap .i64 (7-((i%8:Nat):Int))=7-((i%8:Nat):Int):=a0g (by omega);have g:decide (7-((i%8:Nat):Int)<0)=false:=by grind
 have hb:i / 8<(wL L).1.length:=by omega
 have hget:(wL L).1[i / 8]=(wL L).1.getD (i / 8) 0:=by grind
 unfold a1X;simp only[ht,hd,e1,e2,g,a0c hb,oB,cF];obtain⟨x,hx⟩:∃x:Nat,(wL L).1.getD (i / 8) 0=(x:Int):=a00 (h1 _).1;have hx256:x<256:=by grind
 rw[hget,hx,d5s hx256 (a51 _ (by simp))]
 have:=h2 i
 unfold b4V at this;rw[hx,tN]at this;rw[this];have hv:L.getD i 0=0∨L.getD i 0=1:=by
  have:L.getD i 0=L[i]:=by simp_all
  rw[this];exact hL _ (a06 hi)
 grind
theorem d3Q{v:Nat}(hv:v<18446744073709551616){i:Nat}(hi:i≤64):a7Q (v:Int) i=((v / 2^i%2:Nat):Int):=by
 unfold a7Q;rw[a7A hi];have hy:v / 2^i<18446744073709551616:=a48 (a49 _ _) hv;show wrap .u8 (wrap .u64 (((a04 64 ((v / 2^i:Nat):Int)) &&& (a04 64 1)).toNat:Int))=_
 grind[a04,a0F,b2f]
theorem a1H.app{A B:List Int}(h:a1H A)(h':a1H B):a1H (A++B):=fun b hb=>(mA.1 hb).elim (h b) (h' b)
theorem orU{a b:Nat}(ha:a<18446744073709551616)(hb:b<2)(h2:a%2=0):bits .u64 .or (a:Int) (b:Int)=((a+b:Nat):Int):=by
 show wrap .u64 (((a04 64 (a:Int) ||| a04 64 (b:Int)).toNat:Nat):Int)=_;have h1:(a04 64 (a:Int)).toNat=a:=by simp_all
 have h2':(a04 64 (b:Int)).toNat=b:=by grind
 rw[a56,h1,h2'];have e:a ||| b=a+b:=by
  have:=a53 (i:=1) (b:=b) (by omega) (a / 2)
  grind
 grind[a0F]
theorem c8Z{v:Nat}(hv:v<9223372036854775808){n:Nat}(hn:n≤62):∀(m:Nat)(P R:List Int),m≤n→a1H (P++(pb (v:Int) m++R))→(P++(pb (v:Int) m++R)).length<1000000000→
  a0h a5b (((v / 2^m:Nat):Int),(n:Int),((n-m:Nat):Int),rdr P (pb (v:Int) m++R),())=some ((v:Int),rdr (P++pb (v:Int) m) R,())
 |0,P,R,_,_,_=>by
  grind[a0o,a5b,pb]
 |m+1,P,R,hm,hok,hlen=>by
  have hd:decide (((n-(m+1):Nat):Int)<(n:Int))=true:=by grind
  have hlk:a1X (rdr P (pb (v:Int) (m+1)++R),(P.length:Int))=some (a7Q v m,rdr P (pb (v:Int) (m+1)++R)):=by
   have:=c5s hok hlen (i:=P.length) (by simp[pb]) ((P.length:Int),(0:Int),())
   rw[show(P++(pb (v:Int) (m+1)++R)).getD P.length 0=a7Q v m from by simp_all[pb]]at this;exact this
  have hbit:=d3Q (v:=v) (by omega) (i:=m) (by omega);have hlt:v / 2^m%2<2:=a51 _ (by simp);have hdiv:v / 2^(m+1)=v / 2^m / 2:=by grind[Nat.div_div_eq_div_mul]
  have hle:v / 2^m≤v:=a49 _ _;have hsh:a0A .u64 ((v / 2^(m+1):Nat):Int) 1=((v / 2^(m+1)*2^1:Nat):Int):=b3X (o:=1) (by omega) (by omega);have hacc:bits .u64 .or ((v / 2^(m+1)*2^1:Nat):Int) (wrap .u64 (a7Q (v:Int) m))=((v / 2^m:Nat):Int):=by
   rw[hbit,a0F (by omega),orU (by omega) hlt (by omega),hdiv];omega
  have hw1:wrap .i64 (((n-(m+1):Nat):Int)+1)=((n-m:Nat):Int):=by grind[a0g]
  have hw2:wrap .i64 ((P.length:Int)+1)=(((P++[a7Q v m]).length:Nat):Int):=by
   grind[a0g]
  have hassoc:P++(pb (v:Int) (m+1)++R)=(P++[a7Q v m])++(pb (v:Int) m++R):=by simp[pb]
  have hre:((rdr P (pb (v:Int) (m+1)++R)).1,(((P++[a7Q v m]).length:Nat):Int),(rdr P (pb (v:Int) (m+1)++R)).2.2)=rdr (P++[a7Q v m]) (pb (v:Int) m++R):=by
   unfold rdr;simp_all
  rw[a0p (s':=(((v / 2^m:Nat):Int),(n:Int),((n-m:Nat):Int),rdr (P++[a7Q v m]) (pb (v:Int) m++R),())) (by
   simp only[a5b,hd,cT];rw[show(rdr P (pb (v:Int) (m+1)++R)).2.1=(P.length:Int)from rfl,hlk];simp only[oB,hsh,hacc,hw1];rw[show(rdr P (pb (v:Int) (m+1)++R)).2.1=(P.length:Int)from rfl,hw2,hre])]
  rw[c8Z hv hn m _ _ (by omega) (by simp_all) (by simp_all)];simp[pb]
theorem d3R{v n:Nat}(hn:n≤62)(hv:v<2^n){P R:List Int}(hok:a1H (P++(pb (v:Int) n++R)))(hlen:(P++(pb (v:Int) n++R)).length<200000000):
  a0k (rdr P (pb (v:Int) n++R),(n:Int))=some ((v:Int),rdr (P++pb (v:Int) n) R):=by
 have hv63:v<9223372036854775808:=Nat.lt_of_lt_of_le hv (Nat.le_trans (a17 (by simp) hn) (by simp));have hk:=c8Z hv63 hn n P R (by omega) hok (by omega);rw[a77 hv,Nat.sub_self]at hk;simp at hk;obtain⟨-,hbl⟩:=a6K (P++(pb (v:Int) n++R));have hpl:=b6A (v:Int) n;have hll:(P++(pb (v:Int) n++R)).length=P.length+n+R.length:=by grind
 have e8:wrap .i64 ((8:Int)*(((wL (P++(pb (v:Int) n++R))).1.length:Nat):Int))=(8:Int)*(((wL (P++(pb (v:Int) n++R))).1.length:Nat):Int):=a0g (by omega);have e9:wrap .i64 ((8:Int)*(((wL (P++(pb (v:Int) n++R))).1.length:Nat):Int)-(P.length:Int))=(8:Int)*(((wL (P++(pb (v:Int) n++R))).1.length:Nat):Int)-(P.length:Int):=a0g (by omega);have d1:decide ((n:Int)<0)=false:=by simp
 have d2:decide ((n:Int) > 64)=false:=by grind
 have d3:decide ((n:Int) > (8:Int)*(((wL (P++(pb (v:Int) n++R))).1.length:Nat):Int)-(P.length:Int))=false:=by
  grind
 unfold a0k a3g;rw[show(rdr P (pb (v:Int) n++R)).2.2.1=0 from rfl];simp only[bne_self_eq_false,cF,d1,d2,oB];rw[show(rdr P (pb (v:Int) n++R)).1=(wL (P++(pb (v:Int) n++R))).1 from rfl,show(rdr P (pb (v:Int) n++R)).2.1=(P.length:Int)from rfl,e8,e9]
 grind
end Go.Ab
namespace Go.Ab
open IntKind(wrap)
def b7p(n:Nat)(x:Int):Prop:=-((2^n:Nat):Int)≤2*x∧2*x<((2^n:Nat):Int)
theorem c6q{n:Nat}(hn:n≤62)(x:Int):∃v:Nat,a0G x n=(v:Int)∧v<2^n∧(v:Int)=x%((2^n:Nat):Int):=by
 have hw:wrap .u64 x=x%18446744073709551616:=by simp[wrap,IntKind.bits,IntKind.signed]
 obtain⟨y,hy⟩:∃y:Nat,x%18446744073709551616=(y:Int):=a00 (Int.emod_nonneg _ (by decide));have hy2:y<18446744073709551616:=by omega
 refine⟨y%2^n,?_,a51 _ (a19 n),?_⟩;unfold a0G;rw[hw,hy];exact c8B hy2 hn;rw[Int.natCast_emod,←hy];refine Int.emod_emod_of_dvd x ?_
 have:(2:Nat)^n ∣ 2^64:=a68 2 (by omega)
 exact a27.2 this
theorem d3S{n:Nat}(hn:n≤62){x:Int}(hf:b7p n x){P R:List Int}(hok:a1H (P++(pb (a0G x n) n++R)))(hlen:(P++(pb (a0G x n) n++R)).length<200000000):
  a1c (rdr P (pb (a0G x n) n++R),(n:Int))=some (x,rdr (P++pb (a0G x n) n) R):=by
 obtain⟨v,hv,hlt,hmod⟩:=c6q hn x;rw[hv]at hok hlen⊢;have hget:=d3R hn hlt hok hlen;obtain⟨hf1,hf2⟩:=hf;have h2:=a19 n;have hvx:(v:Int)=x∧0≤x∨(v:Int)=x+((2^n:Nat):Int)∧x<0:=by
  by_cases h0:0≤x
  exact .inl ⟨by rw[hmod];exact a98 h0 (by omega),h0⟩;refine .inr ⟨?_,by omega⟩;rw[hmod,←Int.add_emod_right];exact a98 (by omega) (by omega)
 unfold a1c;simp only[hget,oB];rw[show(rdr (P++pb (v:Int) n) R).2.2.1=0 from rfl];simp only[bne_self_eq_false,cF,oB];cases n with
 |zero=>
  have hx0:x=0:=by simp at hf1 hf2;omega
  subst hx0;rfl
 |succ k=>
  have hne:(((k+1:Nat):Int)==0)=false:=by simp only[beq_eq_false_iff_ne];omega
  have e1:wrap .i64 ((64:Int)-((k+1:Nat):Int))=((64-(k+1):Nat):Int):=by rw[a0g (by omega)];omega
  have d1:decide (((64-(k+1):Nat):Int)<0)=false:=by simp
  simp only[hne,cF,e1,d1];have hm:64-(k+1)+(k+1)=64:=by omega
  generalize 64-(k+1)=m at hm⊢;have hpw:2^m*2^(k+1)=18446744073709551616:=by rw[←Nat.pow_add,hm]
  have hpwI:((2^m:Nat):Int)*((2^(k+1):Nat):Int)=18446744073709551616:=by rw[←b09,hpw];rfl
  have hp:=a19 m;have sh1:a0A .u64 (v:Int) (m:Int)=(v:Int)*((2^m:Nat):Int):=by
   show wrap .u64 ((v:Int)*2^(min (m:Int).toNat 64))=_;rw[tN,a86 (by omega)];have e:(2:Int)^m=((2^m:Nat):Int):=by simp
   rw[e];refine a0F ⟨a60 (by omega) (by omega),?_⟩
   have:v*2^m<2^(k+1)*2^m:=Nat.mul_lt_mul_of_pos_right hlt hp
   rw[←b09];rw[a81 (2^(k+1)),hpw]at this;omega
  have b1:-9223372036854775808≤x*((2^m:Nat):Int):=by
   have:=Int.mul_le_mul_of_nonneg_right hf1 (show(0:Int)≤((2^m:Nat):Int)by omega)
   have e:-((2^(k+1):Nat):Int)*((2^m:Nat):Int)=-18446744073709551616:=by rw[Int.neg_mul,a83,hpwI]
   rw[e,Int.mul_assoc]at this;omega
  have b2:x*((2^m:Nat):Int)<9223372036854775808:=by
   have:=Int.mul_lt_mul_of_pos_right hf2 (show(0:Int)<((2^m:Nat):Int)by omega)
   rw[a83 ((2^(k+1):Nat):Int),hpwI,Int.mul_assoc]at this;omega
  have w1:wrap .i64 ((v:Int)*((2^m:Nat):Int))=x*((2^m:Nat):Int):=by
   rcases hvx with⟨h,-⟩|⟨h,-⟩;rw[h];exact a0g (by omega);rw[h,Int.add_mul,a83 ((2^(k+1):Nat):Int),hpwI];generalize x*((2^m:Nat):Int)=y at b1 b2⊢;have hx0:y<0∨0≤y:=by omega
   simp only[wrap,IntKind.bits,IntKind.signed]
   simp
   split<;>omega
  have s1:a0D .i64 (x*((2^m:Nat):Int)) (m:Int)=x:=by
   show b07 (x*((2^m:Nat):Int)) (2^(min (m:Int).toNat 64))=x;rw[tN,a86 (by omega)];have e:(2:Int)^m=((2^m:Nat):Int):=by simp
   rw[e,a39 _ (by omega)];exact Int.mul_ediv_cancel _ (by omega)
  rw[sh1,w1,s1]
theorem d2x(P:List Int)(n:Nat)(R:List Int){c:Nat}(hc:c<n):(P++(a01 n 0++1::R)).getD (P.length+c) 0=0:=by
 simp only[lD];rw[a31 (by omega),a84,List.getElem?_append_left (by simpa using hc)];simp[hc]
theorem d5t(P:List Int)(n:Nat)(R:List Int):(P++(a01 n 0++1::R)).getD (P.length+n) 0=1:=by
 simp only[lD];rw[a31 (by omega),a84,a31 (by simp)]
 simp
theorem d3T{n lm:Nat}(hn:n≤lm)(hlm:lm<1000000){P R:List Int}(hok:a1H (P++(a01 n 0++1::R)))(hlen:(P++(a01 n 0++1::R)).length<200000000):
  a2i (rdr P (a01 n 0++1::R),(lm:Int))=some ((n:Int),rdr (P++(a01 n 0++[1])) R):=by
 obtain⟨-,hbl⟩:=a6K (P++(a01 n 0++1::R));have hll:(P++(a01 n 0++1::R)).length=P.length+n+1+R.length:=by simp;omega
 have e8:wrap .i64 ((8:Int)*(((wL (P++(a01 n 0++1::R))).1.length:Nat):Int))=(8:Int)*(((wL (P++(a01 n 0++1::R))).1.length:Nat):Int):=a0g (by omega);have hlk:∀c,c≤n→a1X (rdr P (a01 n 0++1::R),((P.length:Int)+(c:Int)))=some (if c=n then 1 else 0,rdr P (a01 n 0++1::R)):=fun c hc=>by
  have:=c5s hok (by omega) (i:=P.length+c) (by omega) ((P.length:Int),(0:Int),())
  rw[b17]at this;refine this.trans ?_
  by_cases e:c=n
  subst e;rw[d5t,if_pos rfl];rfl;rw[d2x P n R (by omega),if_neg e];rfl
 have hend:∀c:Nat,c≤n→(((P.length:Int)+(c:Int))==(8:Int)*(((wL (P++(a01 n 0++1::R))).1.length:Nat):Int))=false:=fun c hc=>by
  simp only[beq_eq_false_iff_ne];omega
 have hP1:wrap .i64 ((P.length:Int)+(n:Int)+1)=(((P++(a01 n 0++[1])).length:Nat):Int):=by
  rw[a0g (by omega)];simp;omega
 have hassoc:P++(a01 n 0++1::R)=(P++(a01 n 0++[1]))++R:=by simp
 have hre:((rdr P (a01 n 0++1::R)).1,(((P++(a01 n 0++[1])).length:Nat):Int),(rdr P (a01 n 0++1::R)).2.2)=rdr (P++(a01 n 0++[1])) R:=by
  unfold rdr;rw[hassoc]
 have hr1:(rdr P (a01 n 0++1::R)).1=(wL (P++(a01 n 0++1::R))).1:=rfl;have hloop:=a3C (f:=a4p) (fun c:Nat=>((lm:Int),(c:Int),(P.length:Int)+(c:Int),rdr P (a01 n 0++1::R),())) n (b:=((n:Int),rdr (P++(a01 n 0++[1])) R,()))
  (fun c hc=>by
   have d1:((0:Int)==1)=false:=rfl;have d2:(((c:Nat):Int)==(lm:Int))=false:=by simp only[beq_eq_false_iff_ne];omega
   have w1:wrap .i64 ((c:Int)+1)=((c+1:Nat):Int):=a0d (by omega);have w2:wrap .i64 ((P.length:Int)+(c:Int)+1)=(P.length:Int)+((c+1:Nat):Int):=by rw[a0g (by omega)];omega
   simp only[a4p,hr1,e8,hend c (by omega),cF,hlk c (by omega),oB,if_neg (Nat.ne_of_lt hc),d1,d2,w1,w2])
  (by
   have d1:((1:Int)==1)=true:=rfl;simp only[a4p,hr1,e8,hend n (a32 _),cF,hlk n (a32 _),oB,if_pos rfl,d1,cT,hP1];rw[←hr1,hre];rfl)
 unfold a2i;rw[show(rdr P (a01 n 0++1::R)).2.2.1=0 from rfl,show(rdr P (a01 n 0++1::R)).2.1=(P.length:Int)from rfl];have hmx:a2y (lm:Int) 0=(lm:Int):=by
  have d:decide ((0:Int) > (lm:Int))=false:=by simp
  simp only[a2y,d,cF]
 simp only[nZ,Int.add_zero,a09]at hloop;simp only[bne_self_eq_false,cF,hmx,hloop,oB]
end Go.Ab
namespace Go.Ab
open IntKind(wrap)
def OkR(P R:List Int):Prop:=a1H (P++R)∧(P++R).length<200000000
theorem OkR.shift{P A R:List Int}(h:OkR P (A++R)):OkR (P++A) R:=by
 unfold OkR at h⊢
 rwa [aA]
theorem a4B{v n:Nat}(hn:n≤62)(hv:v<2^n){P R:List Int}(h:OkR P (pb (v:Int) n++R)):a0k (rdr P (pb (v:Int) n++R),(n:Int))=some ((v:Int),rdr (P++pb (v:Int) n) R):=d3R hn hv h.1 h.2
theorem b1t{n:Nat}(hn:n≤62){x:Int}(hf:b7p n x){P R:List Int}(h:OkR P (pb (a0G x n) n++R)):a1c (rdr P (pb (a0G x n) n++R),(n:Int))=some (x,rdr (P++pb (a0G x n) n) R):=d3S hn hf h.1 h.2
def unB(n:Nat):List Int:=a01 n 0++[1]
theorem c9a{n lm:Nat}(hn:n≤lm)(hlm:lm<1000000){P R:List Int}(h:OkR P (unB n++R)):a2i (rdr P (unB n++R),(lm:Int))=some ((n:Int),rdr (P++unB n) R):=by
 have e:unB n++R=a01 n 0++1::R:=by simp[unB]
 rw[e]at h⊢;exact d3T hn hlm h.1 h.2
theorem a2u{v n:Nat}(hn:n≤63)(hv:v<2^n)(L:List Int):a0x (v:Int) n L=L++pb (v:Int) n:=by
 unfold a0x;rw[a7A (N:=v) (o:=n) (by omega),a77 hv]
 simp
def b0V(k:Nat)(x:Int):List Int:=
 if a0y x / 2^k<32 then unB (a0y x / 2^k)++pb ((a0y x%2^k:Nat):Int) k else unB 32++pb ((a0y x:Nat):Int) 32
theorem d3U{k:Nat}(hk:k≤25){x:Int}(hx:a0b x=true)(L:List Int):a7R k x L=L++b0V k x:=by
 have hlt:=b1h hx;unfold a7R b0V;split;rw[a2u (by omega) (a51 _ (a19 k))];simp[unL,unB];rw[a2u (by omega) (by omega)];simp[unL,unB]
theorem d3V{x:Int}(hx:a0b x=true):a8i ((a0y x:Nat):Int)=some x:=by
 have hlt:=b1h hx;have hw:=a2h.1 hx;have ht:a36 ((a0y x:Nat):Int) 2=((a0y x:Nat):Int)%2:=a54 (by omega);have hd:a62 ((a0y x:Nat):Int) 2=((a0y x:Nat):Int) / 2:=a73 (by omega);have d1:decide (((a0y x:Nat):Int)≥2147483648)=false:=by simp only[ge_iff_le,decide_eq_false_iff_not];omega
 unfold a8i;simp only[d1,cF,ht,hd]
 by_cases h0:0≤x
 have e:((a0y x:Nat):Int)=2*x:=by unfold a0y;rw[if_pos h0];omega
 rw[e];have d2:((2*x)%2==(0:Int))=true:=by simp only[beq_iff_eq];omega
 have e2:2*x / 2=x:=by omega
 simp only[d2,cT,e2];rw[a0F (by omega),a0g (by omega)];have e:((a0y x:Nat):Int)=-2*x-1:=by unfold a0y;rw[if_neg h0];omega
 rw[e];have d2:((-2*x-1)%2==(0:Int))=false:=by simp only[beq_eq_false_iff_ne];omega
 have e2:(-2*x-1) / 2=-x-1:=by omega
 simp only[d2,cF,e2];rw[a0F (n:=-x-1) (by omega),a0g (n:=-x-1) (by omega),a0g (n:=0-(-x-1)) (by omega),a0g (by omega)];congr 1;omega
theorem d0e{k:Nat}(hk:k≤25){x:Int}(hx:a0b x=true){P R:List Int}(h:OkR P (b0V k x++R)):b4F (rdr P (b0V k x++R),(k:Int))=some (x,(0:Int),rdr (P++b0V k x) R):=by
 have hlt:=b1h hx;have hunf:=d3V hx;unfold b4F a0v;unfold b0V at h⊢;have hz:∀A B:List Int,(rdr A B).2.2.1=0:=fun _ _=>rfl;split;rename_i hq;rw[if_pos hq,aA]at h;have h1:=c9a (n:=a0y x / 2^k) (lm:=32) (by omega) (by omega) h;have h2:=a4B (n:=k) (v:=a0y x%2^k) (by omega) (a51 _ (a19 k)) h.shift;have e1:wrap .u64 ((a0y x / 2^k:Nat):Int)=((a0y x / 2^k:Nat):Int):=a2R (by omega);have d1:decide (((a0y x / 2^k:Nat):Int)<32)=true:=by simp only[dT];omega
 have d2:decide ((k:Int)<0)=false:=by simp
 have hmul:a0y x / 2^k*2^k≤a0y x:=Nat.div_mul_le_self _ _;have hsh:a0A .u64 ((a0y x / 2^k:Nat):Int) (k:Int)=((a0y x / 2^k*2^k:Nat):Int):=b3X (by omega) (by omega);have hsum:wrap .u64 (((a0y x / 2^k*2^k:Nat):Int)+((a0y x%2^k:Nat):Int))=((a0y x:Nat):Int):=by
  rw[←b17,Nat.div_add_mod',a0F (by omega)]
 rw[aA];have h1':a2i (rdr P (unB (a0y x / 2^k)++(pb ((a0y x%2^k:Nat):Int) k++R)),(32:Int))=_:=h1;simp only[h1',oB,hz,bne_self_eq_false,cF,e1,d1,cT,h2,d2,hsh,hsum,hunf];rw[aA];rename_i hq;rw[if_neg hq,aA]at h;have h1:=c9a (n:=32) (lm:=32) (by omega) (by omega) h;have h2:=a4B (n:=32) (v:=a0y x) (by omega) (by omega) h.shift;have e1:wrap .u64 (32:Int)=32:=a0F (by omega);have d1:decide ((32:Int)<32)=false:=by simp
 have d2:decide ((k:Int)<0)=false:=by simp
 have d3:decide (((a0y x:Nat):Int)≥2147483648)=false:=by simp only[ge_iff_le,decide_eq_false_iff_not];omega
 have hsr:a0D .u64 ((a0y x:Nat):Int) (k:Int)=((a0y x / 2^k:Nat):Int):=a7A (by omega);have d4:decide (((a0y x / 2^k:Nat):Int)<32)=false:=by simp only[decide_eq_false_iff_not];omega
 rw[aA];have h1':a2i (rdr P (unB 32++(pb ((a0y x:Nat):Int) 32++R)),(32:Int))=some ((32:Int),_):=h1;have h2':a0k (rdr (P++unB 32) (pb ((a0y x:Nat):Int) 32++R),(32:Int))=_:=h2;simp only[h1',oB,hz,bne_self_eq_false,cF,e1,d1,h2',d2,d3,hsr,d4,hunf];rw[aA]
def a4c(k:Nat)(l:List Int):List Int:=l.flatMap (b0V k)
theorem c4m{k:Nat}(hk:k≤25):∀(l L:List Int),l.all a0b=true→a4W k l L=L++a4c k l
 | [],L,_=>by simp[a4W,a4c]
 |x::l,L,h=>by
  simp only[a07,bA]at h;show a4W k l (a7R k x L)=_;rw[c4m hk l _ h.2,d3U hk h.1];simp[a4c]
theorem b9K{k:Nat}(hk:k≤25){N:Nat}(hN:N<1000000):∀(l done P R:List Int),l.all a0b=true→done.length+l.length=N→OkR P (a4c k l++R)→
  a0h b0P ((k:Int),(N:Int),(done.length:Int),done,rdr P (a4c k l++R),())=some (Sum.inl (done++l,rdr (P++a4c k l) R,()))
 | [],done,P,R,_,hl,_=>by
  have:done.length=N:=by simpa using hl
  subst this;have d:decide ((done.length:Int)<(done.length:Int))=false:=by simp
  rw[a0o (b:=Sum.inl (done,rdr P R,())) (by simp only[b0P,d,cF];simp[a4c])];simp[a4c]
 |x::l,done,P,R,h,hl,hok=>by
  simp only[a07,bA]at h;rw[lC]at hl;have e:a4c k (x::l)++R=b0V k x++(a4c k l++R):=by simp[a4c]
  rw[e]at hok⊢;have d:decide ((done.length:Int)<(N:Int))=true:=by simp;omega
  have h1:=d0e hk h.1 hok;have hlm:lim (a46 done+1)=true:=a1t (by omega);have hw:wrap .i64 ((done.length:Int)+1)=(((done++[x]).length:Nat):Int):=by rw[a0g (by omega)];simp
  rw[a0p (s':=((k:Int),(N:Int),(((done++[x]).length:Nat):Int),done++[x],rdr (P++b0V k x) (a4c k l++R),())) (by
   simp only[b0P,d,cT,h1,oB,bne_self_eq_false,cF,hlm,hw,a08])]
  rw[b9K hk hN l (done++[x]) (P++b0V k x) R h.2 (by simp;omega) hok.shift];simp[a4c]
theorem d0f{k:Nat}(hk:k≤25){l P R:List Int}(h:l.all a0b=true)(hl:l.length<1000000)(hok:OkR P (a4c k l++R)):
  b4G (rdr P (a4c k l++R),(k:Int),((l.length:Nat):Int))=some (l,(0:Int),rdr (P++a4c k l) R):=by
 have hp:a2s (k:Int)=some true:=by
  unfold a2s;have d1:decide ((k:Int)≥0)=true:=by simp
  have d2:decide ((k:Int)≤25)=true:=by simp;omega
  simp[d1,d2]
 have d1:decide (((l.length:Nat):Int)<0)=false:=by simp
 have d2:decide (((l.length:Nat):Int) > 4194304)=false:=by simp;omega
 have hz:∀A B:List Int,(rdr A B).2.2.1=0:=fun _ _=>rfl;have hlp:=b9K hk hl l [] P R h (by simp) hok;simp only[a16,nZ,a05,a09]at hlp;unfold b4G a0v;simp only[hp,oB,bT,cF,d1,d2,hz,bne_self_eq_false]
 erw[hlp]
 rfl
end Go.Ab
namespace Go.Ab
open IntKind(wrap)
theorem d5u{x:Int}{v:Nat}(h:inW x v=true):b7p v x:=by
 have hp:=a19 v;rcases c1k.1 h with rfl|⟨h1,-,h3,h4⟩;exact⟨by omega,by omega⟩;have e:2^v=2^(v-1)*2:=by rw[←a58];congr 1;omega
 unfold b7p;rw[e];omega
theorem b9e{l:List Int}(h:l.all a0b=true):∀x∈l,b7p (a0l l) x:=fun x hx=>d5u (c8X h x hx)
def sB(n:Nat)(l:List Int):List Int:=l.flatMap fun x=>pb (a0G x n) n
theorem b1u{n:Nat}(hn:n≤62):∀(l L:List Int),a1O n l L=L++sB n l
 | [],L=>by simp[a1O,sB]
 |x::l,L=>by
  show a1O n l (a0x (a0G x n) n L)=_;obtain⟨v,hv,hlt,-⟩:=c6q hn x;rw[b1u hn l,hv,a2u (by omega) hlt,←hv];simp[sB]
theorem c5t(n:Nat)(x:Int)(l R:List Int):sB n (x::l)++R=pb (a0G x n) n++(sB n l++R):=by simp[sB]
theorem b8h{k:Int}{n:Nat}(hn:n≤62){N:Nat}(hN:N<1000000):∀(l done P R:List Int),(∀x∈l,b7p n x)→done.length+l.length=N→OkR P (sB n l++R)→
  a0h a9Q (k,(n:Int),(N:Int),(done.length:Int),done,rdr P (sB n l++R),())=some (k,(n:Int),done++l,rdr (P++sB n l) R,())
 | [],done,P,R,_,hl,_=>by
  have:done.length=N:=by simpa using hl
  subst this;have d:decide ((done.length:Int)<(done.length:Int))=false:=by simp
  rw[a0o (b:=(k,(n:Int),done,rdr P R,())) (by simp only[a9Q,d,cF];simp[sB])];simp[sB]
 |x::l,done,P,R,h,hl,hok=>by
  rw[lC]at hl;rw[c5t]at hok⊢;have d:decide ((done.length:Int)<(N:Int))=true:=by simp;omega
  have h1:=b1t hn (h x (by simp)) hok;have hlm:lim (a46 done+1)=true:=a1t (by omega);have hw:wrap .i64 ((done.length:Int)+1)=(((done++[x]).length:Nat):Int):=by rw[a0g (by omega)];simp
  rw[a0p (s':=(k,(n:Int),(N:Int),(((done++[x]).length:Nat):Int),done++[x],rdr (P++pb (a0G x n) n) (sB n l++R),())) (by
   simp only[a9Q,d,cT,h1,oB,hlm,hw,a08])]
  rw[b8h hn hN l (done++[x]) _ R (fun y hy=>h y (by simp[hy])) (by simp;omega) hok.shift];simp[sB]
def b2o(k:Int)(part:List Int):List Int:=if k=31 then pb 31 5++(pb ((a0l part:Nat):Int) 5++sB (a0l part) part)else pb k 5++a4c k.toNat part
theorem d3W{k:Int}(hk:kB k=true){part:List Int}(hw:part.all a0b=true)(L:List Int):b0T k part L=L++b2o k part:=by
 have hwd:=a2x hw;simp only[kB,a24,bA,dT,beq_iff_eq]at hk;obtain⟨K,rfl⟩:=a00 (show 0≤k by omega);unfold b0T b2o;rw[a2R (by omega)];have hA:=a2u (v:=K) (n:=5) (by omega) (by omega) L;split;rename_i h31;rw[b1u (by omega),a2u (v:=a0l part) (n:=5) (by omega) (by omega),hA,h31]
 simp
 rw[c4m (by omega) _ _ hw,hA]
 simp
theorem c9b{k:Int}(hk:kB k=true){part:List Int}(hw:part.all a0b=true)(hl:part.length<1000000){P R:List Int}(hok:OkR P (b2o k part++R)):
  b3q (rdr P (b2o k part++R),((part.length:Nat):Int))=some (k,part,(0:Int),rdr (P++b2o k part) R):=by
 have hwd:=a2x hw;have hz:∀A B:List Int,(rdr A B).2.2.1=0:=fun _ _=>rfl;simp only[kB,a24,bA,dT,beq_iff_eq]at hk;obtain⟨K,rfl⟩:=a00 (show 0≤k by omega);unfold b3q a0v;unfold b2o at hok⊢;split;rename_i h31;rw[if_pos h31,aA,aA]at hok;rw[aA,aA];obtain rfl:K=31:=by omega
 have h1:a0k (rdr P (pb 31 5++(pb ((a0l part:Nat):Int) 5++(sB (a0l part) part++R))),(5:Int))=_:=a4B (v:=31) (n:=5) (by omega) (by omega) hok;have hok2:=hok.shift;have h2:a0k (rdr (P++pb 31 5) (pb ((a0l part:Nat):Int) 5++(sB (a0l part) part++R)),(5:Int))=_:=a4B (v:=a0l part) (n:=5) (by omega) (by omega) hok2;have hlp:=b8h (k:=31) (n:=a0l part) (by omega) hl part [] _ R (b9e hw) (by simp) hok2.shift;simp only[a16,nZ,a05,a09]at hlp;have w1:wrap .i64 ((31:Nat):Int)=31:=by decide
 have w2:wrap .i64 ((a0l part:Nat):Int)=((a0l part:Nat):Int):=a0g (by omega);have d1:decide ((31:Int)≤25)=false:=by decide
 have d2:((31:Int) != 31)=false:=by decide
 rw[h1];simp only[oB,hz,bne_self_eq_false,cF,w1,d1]
 erw[h2]
 simp only[oB,w2]
 erw[hlp]
 simp only[oB,hz,bne_self_eq_false,cF,a2Q (show short part from hl)]
 simp
 rename_i h31;rw[if_neg h31,aA]at hok;rw[aA];have hK:K≤25:=by omega
 have h1:a0k (rdr P (pb (K:Int) 5++(a4c ((K:Int).toNat) part++R)),(5:Int))=_:=a4B (v:=K) (n:=5) (by omega) (by omega) hok;have hr:=d0f hK hw hl hok.shift;have w1:wrap .i64 (K:Int)=(K:Int):=a0g (by omega);have d1:decide ((K:Int)≤25)=true:=by simp;omega
 rw[h1];simp only[oB,hz,bne_self_eq_false,cF,w1,d1,cT]
 erw[hr]
 simp
end Go.Ab
namespace Go.Ab
open IntKind(wrap)
def a2f:List Nat→List Int→List Int→List Int
 |z::zs,k::ks,l=>b2o k (l.take z)++a2f zs ks (l.drop z)
 |_,_,_=>[]
theorem c6r{l:List Int}(h:l.all a0b=true)(z:Nat):(l.take z).all a0b=true:=lA.2 fun x hx=>lA.1 h x (a42 hx)
theorem c6s{l:List Int}(h:l.all a0b=true)(z:Nat):(l.drop z).all a0b=true:=lA.2 fun x hx=>lA.1 h x (a43 hx)
theorem c4n:∀(zs:List Nat)(ks l L:List Int),ks.all kB=true→l.all a0b=true→a4A zs ks l L=L++a2f zs ks l
 |z::zs,k::ks,l,L,hk,hw=>by
  simp only[a07,bA]at hk;simp only[a4A,a2f];rw[c4n zs ks _ _ hk.2 (c6s hw z),d3W hk.1 (c6r hw z)]
  simp
 | [],_,_,L,_,_=>by simp[a4A,a2f]
 |_::_,[],_,L,_,_=>by simp[a4A,a2f]
theorem d3X(dz:List Nat)(z:Nat)(zs:List Nat):(a1r (dz++z::zs)).getD dz.length 0=(z:Int):=by
 simp[a1r,lD]
theorem b8i{o:Int}{z0:Prt}:∀(zs:List Nat)(ks l dk acc P R:List Int)(dz:List Nat),ks.length=zs.length→ks.all kB=true→zs.sum=l.length→l.all a0b=true→
  dk.length=dz.length→(dz++zs).length≤256→acc.length+l.length≤10000→OkR P (a2f zs ks l++R)→
  a0h a9R (((a1r (dz++zs)).length:Int),(dz.length:Int),acc,a1r (dz++zs),rdr P (a2f zs ks l++R),z0,(o,dk,()),()) =
   some (Sum.inl (acc++l,z0,(o,dk++ks,()),rdr (P++a2f zs ks l) R,()))
 | [],ks,l,dk,acc,P,R,dz,hk,_,hs,_,_,_,_,_=>by
  obtain rfl:ks=[]:=a59.1 hk;obtain rfl:l=[]:=a59.1 (by simpa using hs.symm);have d:decide ((dz.length:Int)<((a1r (dz++[])).length:Int))=false:=by simp[a1G]
  rw[a0o (b:=Sum.inl (acc,z0,(o,dk,()),rdr P R,())) (by simp only[a9R,d,cF];simp[a2f])];simp[a2f]
 |z::zs,[],_,_,_,_,_,_,hk,_,_,_,_,_,_,_=>by simp at hk
 |z::zs,k::ks,l,dk,acc,P,R,dz,hk,hkb,hs,hw,hd,h256,hacc,hok=>by
  simp only[a07,bA]at hkb;rw[a50]at hs;have hz:z≤l.length:=by omega
  have htl:(l.take z).length=z:=by rw[a20];omega
  have e:a2f (z::zs) (k::ks) l++R=b2o k (l.take z)++(a2f zs ks (l.drop z)++R):=by simp[a2f]
  rw[e]at hok⊢;have hlen:(a1r (dz++z::zs)).length=dz.length+1+zs.length:=by rw[a1G];simp;omega
  have d:decide ((dz.length:Int)<((a1r (dz++z::zs)).length:Int))=true:=by simp only[dT];omega
  have d0:decide ((0:Int)≤(dz.length:Int))=true:=by simp
  have hone:=c9b hkb.1 (c6r hw z) (by omega) hok;rw[htl]at hone;have hz0:((0:Int) != 0)=false:=rfl;rw[lN,lC]at h256;have hlm1:lim (a46 dk+1)=true:=a1t (by omega);have hlm2:lim (a46 acc+a46 (l.take z))=true:=a1t (by omega);have hw1:wrap .i64 ((dz.length:Int)+1)=(((dz++[z]).length:Nat):Int):=by rw[a0g (by omega)];simp
  have ea:dz++z::zs=(dz++[z])++zs:=by simp
  rw[a0p (s':=(((a1r ((dz++[z])++zs)).length:Int),(((dz++[z]).length:Nat):Int),acc++l.take z,a1r ((dz++[z])++zs),rdr (P++b2o k (l.take z)) (a2f zs ks (l.drop z)++R),z0,(o,dk++[k],()),())) (by
   simp only[a9R,d,d0,a03,cT,tN,d3X,hone,oB,hz0,cF,hlm1,hlm2,hw1,a08];rw[ea])]
  rw[b8i zs ks (l.drop z) (dk++[k]) (acc++l.take z) _ R (dz++[z]) (by simpa using hk) hkb.2 (by rw[a21];omega) (c6s hw z) (by simp[hd]) (by simp;omega) (by simp;omega) hok.shift];simp[a2f]
def a7B(p:Prt)(zn:List Nat)(l:List Int):List Int:=pb p.1 4++a2f zn p.2.1 l
theorem c7b{p:Prt}{n warm:Int}{l:List Int}{zn:List Nat}(h:PartsOk p n warm l zn)(L:List Int):a5h p zn l L=L++a7B p zn l:=by
 obtain⟨o,ks,u⟩:=p;have ho:=h.order;simp only at ho;obtain⟨O,rfl⟩:=a00 ho.1;unfold a5h a7B;simp only;rw[a2R (by omega),a2u (n:=4) (by omega) (by omega),c4n _ _ _ _ h.all h.wide]
 simp
theorem c9c{p:Prt}{n warm:Int}{l:List Int}{zn:List Nat}(h:PartsOk p n warm l zn){P R:List Int}(hok:OkR P (a7B p zn l++R)):
  b3r (rdr P (a7B p zn l++R),n,warm)=some (p,l,(0:Int),rdr (P++a7B p zn l) R):=by
 obtain⟨o,ks,u⟩:=p;have ho:=h.order;have h5:=h.short;have hlen:=h.len;simp only at ho;obtain⟨O,rfl⟩:=a00 ho.1;have hz:∀A B:List Int,(rdr A B).2.2.1=0:=fun _ _=>rfl;have hmay:=h.may;unfold a6B at hmay;simp only[bA,a28,beq_eq_false_iff_ne]at hmay;have hs:=h.sizes;simp only at hs;have hne:(((a1r zn).length:Int)==0)=false:=by
  rw[beq_eq_false_iff_ne]
  have:=hmay.1
  rw[hs]at this;omega
 unfold a7B at hok⊢;simp only at hok⊢;rw[aA]at hok⊢;have h1:a0k (rdr P (pb (O:Int) 4++(a2f zn ks l++R)),(4:Int))=_:=a4B (v:=O) (n:=4) (by omega) (by omega) hok;have w1:wrap .i64 (O:Int)=(O:Int):=a0g (by omega);have hlp:=b8i (o:=(O:Int)) (z0:=((0:Int),([]:List Int),())) zn ks l [] [] _ R [] h.ks h.all h.sum h.wide rfl (by simpa using hlen) (by simp;omega) hok.shift;simp only[a16,nZ,a05,a09]at hlp;unfold b3r a0v;simp only[b5L,h.row,oB,bT,cF];rw[h1];simp only[oB,hz,bne_self_eq_false,cF,w1,a2B,hs,hne]
 erw[hlp]
 simp
def a8p(s:Sub):List Int:=
 pb ((s.2.2.2.2.2.1.length-1:Nat):Int) 5++(pb s.2.2.2.1 4++(pb ((a0l s.2.2.2.2.2.1:Nat):Int) 5++sB (a0l s.2.2.2.2.2.1) s.2.2.2.2.2.1))
theorem c6t{c:List Int}{t:Int}(h:b0f c t=true):1≤c.length∧c.length≤32∧0≤t∧t≤15∧c.all a0b=true:=by
 simp only[b0f,bA,dT]at h;obtain⟨h1,h2,h3,h4,h5⟩:=h;refine⟨h1,h2,h3,h4,lA.2 fun x hx=>?_⟩
 have:=lA.1 h5 x hx
 simp only[c1e,bA,dT]at this;rw[a2h];omega
theorem c4o{s:Sub}(h:b0f s.2.2.2.2.2.1 s.2.2.2.1=true)(L:List Int):a7v s L=L++a8p s:=by
 obtain⟨h1,h2,h3,h4,h5⟩:=c6t h;have hwd:=a2x h5;unfold a7v a8p;generalize s.2.2.2.2.2.1=c at *;generalize s.2.2.2.1=t at *;obtain⟨T,rfl⟩:=a00 h3;have e1:wrap .u64 (wrap .i64 (((c.length:Nat):Int)-1))=((c.length-1:Nat):Int):=by rw[a0g (by omega),a0F (by omega)];omega
 have e2:wrap .u64 (T:Int)=(T:Int):=a0F (by omega);rw[e1,e2,b1u (by omega),a2u (v:=a0l c) (n:=5) (by omega) (by omega),a2u (v:=T) (n:=4) (by omega) (by omega),a2u (v:=c.length-1) (n:=5) (by omega) (by omega)]
 simp
def b7q(s:Sub)(c:List Int):Sub:=(s.1,s.2.1,s.2.2.1,s.2.2.2.1,s.2.2.2.2.1,c,s.2.2.2.2.2.2)
def c5u(s:Sub)(t:Int):Sub:=(s.1,s.2.1,s.2.2.1,t,s.2.2.2.2)
theorem c4p{n:Nat}(hn:n≤62){N:Nat}(hN:N<1000000)(s:Sub):∀(l done P R:List Int),(∀x∈l,b7p n x)→done.length+l.length=N→OkR P (sB n l++R)→
  a0h a6V ((n:Int),(N:Int),(done.length:Int),rdr P (sB n l++R),b7q s done,())=some ((n:Int),b7q s (done++l),rdr (P++sB n l) R,())
 | [],done,P,R,_,hl,_=>by
  have:done.length=N:=by simpa using hl
  subst this;have d:decide ((done.length:Int)<(done.length:Int))=false:=by simp
  rw[a0o (b:=((n:Int),b7q s done,rdr P R,())) (by simp only[a6V,d,cF];simp[sB])];simp[sB]
 |x::l,done,P,R,h,hl,hok=>by
  rw[lC]at hl;rw[c5t]at hok⊢;have d:decide ((done.length:Int)<(N:Int))=true:=by simp;omega
  have h1:=b1t hn (h x (by simp)) hok;have hlm:lim (a46 done+1)=true:=a1t (by omega);have hw:wrap .i64 ((done.length:Int)+1)=(((done++[x]).length:Nat):Int):=by rw[a0g (by omega)];simp
  rw[a0p (s':=((n:Int),(N:Int),(((done++[x]).length:Nat):Int),rdr (P++pb (a0G x n) n) (sB n l++R),b7q s (done++[x]),())) (by
   simp only[a6V,d,cT,h1,oB,b7q,hlm,hw,a08])]
  rw[c4p hn hN s l (done++[x]) _ R (fun y hy=>h y (by simp[hy])) (by simp;omega) hok.shift];simp[sB]
theorem c2f{s s0:Sub}(h:b0f s.2.2.2.2.2.1 s.2.2.2.1=true)(h0:s0.2.2.2.2.2.1=[]){P R:List Int}(hok:OkR P (a8p s++R)):
  a9P (rdr P (a8p s++R),s0)=some (true,rdr (P++a8p s) R,b7q (c5u s0 s.2.2.2.1) s.2.2.2.2.2.1):=by
 obtain⟨h1,h2,h3,h4,h5⟩:=c6t h;have hwd:=a2x h5;unfold a8p at hok⊢;generalize s.2.2.2.2.2.1=c at *;generalize s.2.2.2.1=t at *;obtain⟨T,rfl⟩:=a00 h3;simp only[aA]at hok⊢;have g1:a0k (rdr P (pb ((c.length-1:Nat):Int) 5++(pb (T:Int) 4++(pb ((a0l c:Nat):Int) 5++(sB (a0l c) c++R)))),(5:Int))=_:=a4B (v:=c.length-1) (n:=5) (by omega) (by omega) hok;have hok2:=hok.shift;have g2:a0k (rdr (P++pb ((c.length-1:Nat):Int) 5) (pb (T:Int) 4++(pb ((a0l c:Nat):Int) 5++(sB (a0l c) c++R))),(4:Int))=_:=a4B (v:=T) (n:=4) (by omega) (by omega) hok2;have hok3:=hok2.shift;have g3:a0k (rdr (P++pb ((c.length-1:Nat):Int) 5++pb (T:Int) 4) (pb ((a0l c:Nat):Int) 5++(sB (a0l c) c++R)),(5:Int))=_:=a4B (v:=a0l c) (n:=5) (by omega) (by omega) hok3;have hlp:=c4p (n:=a0l c) (by omega) (N:=c.length) (by omega) (c5u s0 (T:Int)) c [] _ R (b9e h5) (by simp) hok3.shift;simp only[a16,nZ,a05,a09]at hlp;have w1:wrap .i64 ((c.length-1:Nat):Int)=((c.length-1:Nat):Int):=a0g (by omega);have w2:wrap .i64 (((c.length-1:Nat):Int)+1)=(c.length:Int):=by rw[a0g (by omega)];omega
 have w3:wrap .i64 (T:Int)=(T:Int):=a0g (by omega);have w4:wrap .i64 ((a0l c:Nat):Int)=((a0l c:Nat):Int):=a0g (by omega);have hs0:((s0.1,s0.2.1,s0.2.2.1,(T:Int),s0.2.2.2.2):Sub)=b7q (c5u s0 (T:Int)) []:=by
  unfold b7q c5u;rw[←h0]
 unfold a9P;rw[g1];simp only[oB];rw[g2];simp only[oB];rw[g3];simp only[oB,w1,w2,w3,w4]
 erw[hs0,hlp]
 simp only[oB];rw[show(b7q (c5u s0 (T:Int)) c).2.2.2.2.2.1=c from rfl,a2Q (show short c by unfold short;omega)]
 simp
end Go.Ab
namespace Go.Ab
open IntKind(wrap)
def a8K(st:List Stg):List Int:=st.flatMap fun g=>pb (g.1-1) 5++pb g.2.1 4
theorem c2g{g:Stg}(h:Ab.stageB g=true):1≤g.1∧g.1≤32∧0≤g.2.1∧g.2.1≤8:=by
 simp only[Ab.stageB,bA,dT]at h;exact⟨h.1,h.2.1,h.2.2.1,h.2.2.2⟩
theorem c2h:∀(st:List Stg)(L:List Int),st.all Ab.stageB=true→a3M st L=L++a8K st
 | [],L,_=>by simp[a3M,a8K]
 |g::st,L,h=>by
  simp only[a07,bA]at h;obtain⟨h1,h2,h3,h4⟩:=c2g h.1;show a3M st (a7u g L)=_;rw[c2h st _ h.2];obtain⟨a,b,u⟩:=g;simp only at h1 h2 h3 h4;obtain⟨B,rfl⟩:=a00 h3;obtain⟨A,hA⟩:=a00 (show 0≤a-1 by omega);unfold a7u;simp only;rw[hA,b5Q (q:=A) (by omega),a2R (q:=A) (by omega),a2R (q:=B) (by omega),a2u (v:=A) (n:=5) (by omega) (by omega),a2u (v:=B) (n:=4) (by omega) (by omega)];simp[a8K,hA]
def a5S(s:Sub):List Int:=
 if s.1=2 then pb s.2.2.1 3
 else if s.1=3 then a8p s
 else if s.1=4 then pb (s.2.2.2.2.1-1) 10++(sB 8 s.2.2.2.2.2.2.1++a8p s)
 else if s.1=5 then pb ((s.2.2.2.2.2.2.2.1.length:Nat):Int) 2++a8K s.2.2.2.2.2.2.2.1
 else[]
theorem c6u{s:Sub}{n:Int}(h:a4N s.1 s n)(L:List Int):a3b s L=L++a5S s:=by
 unfold a3b a5S;rcases h with k|k|⟨k,h1,h2,-⟩|⟨k,h1,-⟩|⟨k,h1,-,h3⟩|⟨k,h1,h2⟩;simp[k];simp[k];rw[if_pos k,if_pos k];obtain⟨A,hA⟩:=a00 h1;rw[hA,a2R (by omega),a2u (n:=3) (by omega) (by omega)];rw[if_neg (by omega),if_pos k,if_neg (by omega),if_pos k,c4o h1];rw[if_neg (by omega),if_neg (by omega),if_pos k,if_neg (by omega),if_neg (by omega),if_pos k,c4o h1,b1u (by omega)];simp only[b3y,bA,dT]at h3;obtain⟨A,hA⟩:=a00 (show 0≤s.2.2.2.2.1-1 by omega);rw[hA,b5Q (by omega),a2R (by omega),a2u (n:=10) (by omega) (by omega)]
 simp
 rw[if_neg (by omega),if_neg (by omega),if_neg (by omega),if_pos k,if_neg (by omega),if_neg (by omega),if_neg (by omega),if_pos k];simp only[b0t,bA,dT]at h2;rw[c2h _ _ h2.2,a2R (by omega),a2u (n:=2) (by omega) (by omega)]
 simp
def b6G(s:Sub):List Int:=pb s.1 3++(pb s.2.1 5++pb ((a0l s.2.2.2.2.2.2.2.2.1:Nat):Int) 5)
theorem d3Y{s:Sub}(hk:0≤s.1∧s.1≤5)(hw:0≤s.2.1∧s.2.1≤30)(ha:s.2.2.2.2.2.2.2.2.1.all a0b=true)(L:List Int):b3A s L=L++b6G s:=by
 obtain⟨K,hK⟩:=a00 hk.1;obtain⟨w,hw'⟩:=a00 hw.1
 have:=a2x ha
 unfold b3A b6G;rw[hK,hw',a2R (q:=K) (by omega),a2R (q:=w) (by omega),a2u (v:=a0l s.2.2.2.2.2.2.2.2.1) (n:=5) (by omega) (by omega),a2u (v:=w) (n:=5) (by omega) (by omega),a2u (v:=K) (n:=3) (by omega) (by omega)]
 simp
def a4P(s:Sub):Sub:=(s.1,s.2.1,s.2.2.1,s.2.2.2.1,s.2.2.2.2.1,s.2.2.2.2.2.1,s.2.2.2.2.2.2.1,s.2.2.2.2.2.2.2.1,[],(0,[],()),[],())
theorem c2i{wd N:Nat}{ok:Bool}(hN:N<1000)(k w:Int):∀(st done:List Stg)(P R:List Int),st.all Ab.stageB=true→done.length+st.length=N→OkR P (a8K st++R)→
  a0h a7K ((wd:Int),ok,(N:Int),(done.length:Int),rdr P (a8K st++R),(k,w,0,0,0,[],[0,0,0],done,[],(0,[],()),[],()),()) =
   some ((wd:Int),ok,(k,w,0,0,0,[],[0,0,0],done++st,[],(0,[],()),[],()),rdr (P++a8K st) R,())
 | [],done,P,R,_,hl,_=>by
  have:done.length=N:=by simpa using hl
  subst this;have d:decide ((done.length:Int)<(done.length:Int))=false:=by simp
  rw[a0o (b:=((wd:Int),ok,(k,w,0,0,0,[],[0,0,0],done,[],(0,[],()),[],()),rdr P R,())) (by simp only[a7K,d,cF];simp[a8K])];simp[a8K]
 |g::st,done,P,R,h,hl,hok=>by
  simp only[a07,bA]at h;rw[lC]at hl;obtain⟨h1,h2,h3,h4⟩:=c2g h.1;obtain⟨a,b,u⟩:=g;simp only at h1 h2 h3 h4;obtain⟨B,rfl⟩:=a00 h3;obtain⟨A,hA⟩:=a00 (show 0≤a-1 by omega);obtain rfl:a=(A:Int)+1:=by omega
  have e:a8K (((A:Int)+1,(B:Int),u)::st)++R=pb (A:Int) 5++(pb (B:Int) 4++(a8K st++R)):=by simp[a8K]
  rw[e]at hok⊢;have d:decide ((done.length:Int)<(N:Int))=true:=by simp;omega
  have g1:a0k (rdr P (pb (A:Int) 5++(pb (B:Int) 4++(a8K st++R))),(5:Int))=_:=a4B (v:=A) (n:=5) (by omega) (by omega) hok;have hok2:=hok.shift;have g2:a0k (rdr (P++pb (A:Int) 5) (pb (B:Int) 4++(a8K st++R)),(4:Int))=_:=a4B (v:=B) (n:=4) (by omega) (by omega) hok2;have hlm:lim (a46 done+1)=true:=a1t (by omega);have w1:wrap .i64 (A:Int)=(A:Int):=a0g (by omega);have w2:wrap .i64 (B:Int)=(B:Int):=a0g (by omega);have w3:wrap .i64 ((A:Int)+1)=(A:Int)+1:=a0g (by omega);have hw:wrap .u64 ((done.length:Int)+1)=(((done++[((A:Int)+1,(B:Int),u)]).length:Nat):Int):=by rw[a0F (by omega)];simp
  rw[a0p (s':=((wd:Int),ok,(N:Int),(((done++[((A:Int)+1,(B:Int),u)]).length:Nat):Int),rdr (P++pb (A:Int) 5++pb (B:Int) 4) (a8K st++R),(k,w,0,0,0,[],[0,0,0],done++[((A:Int)+1,(B:Int),u)],[],(0,[],()),[],()),())) (by
    simp only[a7K,d,cT,g1,oB,g2,hlm,w1,w2,w3,hw,a08])]
  rw[c2i hN k w st (done++[((A:Int)+1,(B:Int),u)]) _ R h.2 (by simp;omega) hok2.shift];simp[a8K]
theorem c5v{x:Int}(h:b7h x=true):b7p 8 x:=by
 simp only[b7h,bA,dT]at h;unfold b7p;omega
theorem d3Z{wd:Nat}{k w g:Int}{a b c:Int}(ha:b7h a=true)(hb:b7h b=true)(hc:b7h c=true){P R:List Int}(hok:OkR P (sB 8 [a,b,c]++R)):
  a0h a4i ((wd:Int),(0:Int),rdr P (sB 8 [a,b,c]++R),(k,w,0,0,g,[],[0,0,0],[],[],(0,[],()),[],()),()) =
   some ((wd:Int),rdr (P++sB 8 [a,b,c]) R,(k,w,0,0,g,[],[a,b,c],[],[],(0,[],()),[],()),()):=by
 have e:sB 8 [a,b,c]++R=pb (a0G a 8) 8++(pb (a0G b 8) 8++(pb (a0G c 8) 8++R)):=by simp[sB]
 rw[e]at hok⊢;have g1:a1c (rdr P (pb (a0G a 8) 8++(pb (a0G b 8) 8++(pb (a0G c 8) 8++R))),(8:Int))=_:=b1t (n:=8) (by omega) (c5v ha) hok;have hok2:=hok.shift;have g2:a1c (rdr (P++pb (a0G a 8) 8) (pb (a0G b 8) 8++(pb (a0G c 8) 8++R)),(8:Int))=_:=b1t (n:=8) (by omega) (c5v hb) hok2;have hok3:=hok2.shift;have g3:a1c (rdr (P++pb (a0G a 8) 8++pb (a0G b 8) 8) (pb (a0G c 8) 8++R),(8:Int))=_:=b1t (n:=8) (by omega) (c5v hc) hok3;have w0:wrap .i64 ((0:Int)+1)=1:=by decide
 have w1:wrap .i64 ((1:Int)+1)=2:=by decide
 have w2:wrap .i64 ((2:Int)+1)=3:=by decide
 have d0:decide ((0:Int)<3)=true:=by decide
 have d0':decide ((0:Int)≤0)=true:=by decide
 have d1:decide ((1:Int)<3)=true:=by decide
 have d1':decide ((0:Int)≤1)=true:=by decide
 have d2:decide ((2:Int)<3)=true:=by decide
 have d2':decide ((0:Int)≤2)=true:=by decide
 have d3:decide ((3:Int)<3)=false:=by decide
 rw[a0p (s':=((wd:Int),(1:Int),rdr (P++pb (a0G a 8) 8) (pb (a0G b 8) 8++(pb (a0G c 8) 8++R)),(k,w,0,0,g,[],[a,0,0],[],[],(0,[],()),[],()),())) (by
  simp only[a4i,d0,d0',a03,cT,g1,oB,w0];rfl)]
 rw[a0p (s':=((wd:Int),(2:Int),rdr (P++pb (a0G a 8) 8++pb (a0G b 8) 8) (pb (a0G c 8) 8++R),(k,w,0,0,g,[],[a,b,0],[],[],(0,[],()),[],()),())) (by
  simp only[a4i,d1,d1',a03,cT,g2,oB,w1];rfl)]
 rw[a0p (s':=((wd:Int),(3:Int),rdr (P++pb (a0G a 8) 8++pb (a0G b 8) 8++pb (a0G c 8) 8) R,(k,w,0,0,g,[],[a,b,c],[],[],(0,[],()),[],()),())) (by
  simp only[a4i,d2,d2',a03,cT,g3,oB,w2];rfl)]
 rw[a0o (b:=((wd:Int),rdr (P++pb (a0G a 8) 8++pb (a0G b 8) 8++pb (a0G c 8) 8) R,(k,w,0,0,g,[],[a,b,c],[],[],(0,[],()),[],()),())) (by
  simp only[a4i,d3,cF])]
 simp[sB]
end Go.Ab
namespace Go.Ab
open IntKind(wrap)
theorem d2y{s:Sub}{n:Int}(hs:a1D s n)(ht:s.2.2.2.2.2.2.1.length=3){P R:List Int}(hok:OkR P (b6G s++(a5S s++R))):
  b0O (rdr P (b6G s++(a5S s++R)))=some (a4P s,((a0l s.2.2.2.2.2.2.2.2.1:Nat):Int),true,rdr (P++(b6G s++a5S s)) R):=by
 obtain⟨-,-,hf,ha,hw0,hw30,-,-,hww,-⟩:=hs;obtain⟨k,w,o,sh,g,c,t,st,wm,pr,re,u⟩:=s;have hk:=b9b hf;simp only at hk hw0 hw30 hww ht;have hwd:=a2x hww;obtain⟨K,rfl⟩:=a00 hk.1;obtain⟨W,rfl⟩:=a00 hw0;unfold b6G at hok⊢;simp only[aA]at hok⊢;have g1:a0k (rdr P (pb (K:Int) 3++(pb (W:Int) 5++(pb ((a0l wm:Nat):Int) 5++(a5S ((K:Int),(W:Int),o,sh,g,c,t,st,wm,pr,re,u)++R)))),(3:Int))=_:=a4B (v:=K) (n:=3) (by omega) (by omega) hok;have hok2:=hok.shift;have g2:a0k (rdr (P++pb (K:Int) 3) (pb (W:Int) 5++(pb ((a0l wm:Nat):Int) 5++(a5S ((K:Int),(W:Int),o,sh,g,c,t,st,wm,pr,re,u)++R))),(5:Int))=_:=a4B (v:=W) (n:=5) (by omega) (by omega) hok2;have hok3:=hok2.shift;have g3:a0k (rdr (P++pb (K:Int) 3++pb (W:Int) 5) (pb ((a0l wm:Nat):Int) 5++(a5S ((K:Int),(W:Int),o,sh,g,c,t,st,wm,pr,re,u)++R)),(5:Int))=_:=a4B (v:=a0l wm) (n:=5) (by omega) (by omega) hok3;have hok4:=hok3.shift;have wK:wrap .i64 (K:Int)=(K:Int):=a0g (by omega);have wW:wrap .i64 (W:Int)=(W:Int):=a0g (by omega);have wd:wrap .i64 ((a0l wm:Nat):Int)=((a0l wm:Nat):Int):=a0g (by omega);unfold b0O;rw[g1];simp only[oB];rw[g2];simp only[oB];rw[g3];simp only[oB,wK,wW,wd];generalize hX:P++pb (K:Int) 3++pb (W:Int) 5++pb ((a0l wm:Nat):Int) 5=X at hok4⊢;have hX':∀B:List Int,P++(pb (K:Int) 3++(pb (W:Int) 5++(pb ((a0l wm:Nat):Int) 5++B)))=X++B:=fun B=>by rw[←hX];simp
 rw[hX'];obtain⟨a1,a2,a3,a4,a5,a6⟩:=ha;simp only at a1 a2 a3 a4 a5 a6;clear g1 g2 g3 hok hok2 hok3 hX hX';rcases hf with h|h|⟨h,h1,h2,-⟩|⟨h,h1,-⟩|⟨h,h1,-,h3⟩|⟨h,h1,h2⟩
 
 simp only at h;obtain rfl:=a1 (by omega);obtain rfl:=a2 (by omega);obtain rfl:=a3 (by omega);obtain rfl:=a4 (by omega);obtain rfl:=a5 (by omega);obtain rfl:=a6 (by omega);rw[h];have hb:a5S ((0:Int),(W:Int),0,0,0,[],[0,0,0],[],wm,pr,re,u)=[]:=rfl;rw[hb,a05,a40];rfl;simp only at h;obtain rfl:=a1 (by omega);obtain rfl:=a2 (by omega);obtain rfl:=a3 (by omega);obtain rfl:=a4 (by omega);obtain rfl:=a5 (by omega);obtain rfl:=a6 (by omega);rw[h];have hb:a5S ((1:Int),(W:Int),0,0,0,[],[0,0,0],[],wm,pr,re,u)=[]:=rfl;rw[hb,a05,a40];rfl;simp only at h h1 h2;obtain rfl:=a2 (by omega);obtain rfl:=a3 (by omega);obtain rfl:=a4 (by omega);obtain rfl:=a5 (by omega);obtain rfl:=a6 (by omega);rw[h]at hok4⊢;obtain⟨O,rfl⟩:=a00 h1;have hb:a5S ((2:Int),(W:Int),(O:Int),0,0,[],[0,0,0],[],wm,pr,re,u)=pb (O:Int) 3:=rfl;rw[hb]at hok4⊢;have e:((2:Int)==2)=true:=rfl;have g4:a0k (rdr X (pb (O:Int) 3++R),(3:Int))=_:=a4B (v:=O) (n:=3) (by omega) (by omega) hok4;have wO:wrap .i64 (O:Int)=(O:Int):=a0g (by omega);simp only[e,cT,g4,oB,wO];rfl;simp only at h h1;obtain rfl:=a1 (by omega);obtain rfl:=a3 (by omega);obtain rfl:=a4 (by omega);obtain rfl:=a6 (by omega);rw[h]at hok4⊢;have hb:a5S ((3:Int),(W:Int),0,sh,0,c,[0,0,0],[],wm,pr,re,u)=a8p ((3:Int),(W:Int),0,sh,0,c,[0,0,0],[],wm,pr,re,u):=rfl;rw[hb]at hok4⊢;have e2:((3:Int)==2)=false:=rfl;have e4:((3:Int)==4)=false:=rfl;have e3:((3:Int)==3)=true:=rfl;have g4:=c2f (s:=((3:Int),(W:Int),0,sh,0,c,[0,0,0],[],wm,pr,re,u)) (s0:=((3:Int),(W:Int),0,0,0,[],a01 3 0,[],[],(0,[],()),[],())) h1 rfl hok4;simp only[e2,e3,e4,cT,cF,oB]
 erw[g4]
 rfl
 ·simp only at h h1 h3;obtain rfl:=a1 (by omega);obtain rfl:=a6 (by omega);rw[h]at hok4⊢;simp only[b3y,bA,dT]at h3;obtain⟨h3,h5,h6⟩:=h3;obtain⟨A,hA⟩:=a00 (show 0≤g-1 by omega);obtain rfl:g=(A:Int)+1:=by omega
  obtain⟨x,y,z,rfl⟩:∃x y z,t=[x,y,z]:=by
   match t,ht with
   | [x,y,z],_=>exact⟨x,y,z,rfl⟩
  simp only[a07,List.all_nil,Bool.and_true,bA]at h6;have hb:a5S ((4:Int),(W:Int),0,sh,(A:Int)+1,c,[x,y,z],[],wm,pr,re,u)=pb (A:Int) 10++(sB 8 [x,y,z]++a8p ((4:Int),(W:Int),0,sh,(A:Int)+1,c,[x,y,z],[],wm,pr,re,u)):=by
   show pb ((A:Int)+1-1) 10++_=_;rw[hA]
  rw[hb]at hok4⊢;simp only[aA]at hok4⊢;have e2:((4:Int)==2)=false:=rfl;have e4:((4:Int)==4)=true:=rfl;have g4:a0k (rdr X (pb (A:Int) 10++(sB 8 [x,y,z]++(a8p ((4:Int),(W:Int),0,sh,(A:Int)+1,c,[x,y,z],[],wm,pr,re,u)++R))),(10:Int))=_:=a4B (v:=A) (n:=10) (by omega) (by omega) hok4;have hok5:=hok4.shift;have wA:wrap .i64 (A:Int)=(A:Int):=a0g (by omega);have wA1:wrap .i64 ((A:Int)+1)=(A:Int)+1:=a0g (by omega);have g5:=d3Z (wd:=a0l wm) (k:=4) (w:=(W:Int)) (g:=(A:Int)+1) h6.1 h6.2.1 h6.2.2 hok5;have g6:=c2f (s:=((4:Int),(W:Int),0,sh,(A:Int)+1,c,[x,y,z],[],wm,pr,re,u)) (s0:=((4:Int),(W:Int),0,0,(A:Int)+1,[],[x,y,z],[],[],(0,[],()),[],())) h1 rfl hok5.shift;simp only[e2,e4,cT,cF,g4,oB,wA,wA1]
  erw[g5]
  simp only[oB]
  erw[g6]
  simp only[oB,a4P,b7q,c5u,aA]
 simp only at h h1 h2;obtain rfl:=a1 (by omega);obtain rfl:=a2 (by omega);obtain rfl:=a3 (by omega);obtain rfl:=a4 (by omega);obtain rfl:=a5 (by omega);rw[h]at hok4⊢;simp only[b0t,bA,dT]at h2;have hb:a5S ((5:Int),(W:Int),0,0,0,[],[0,0,0],st,wm,pr,re,u)=pb ((st.length:Nat):Int) 2++a8K st:=rfl;rw[hb]at hok4⊢;simp only[aA]at hok4⊢;have e2:((5:Int)==2)=false:=rfl;have e4:((5:Int)==4)=false:=rfl;have e3:((5:Int)==3)=false:=rfl;have e5:((5:Int)==5)=true:=rfl;have g4:a0k (rdr X (pb ((st.length:Nat):Int) 2++(a8K st++R)),(2:Int))=_:=a4B (v:=st.length) (n:=2) (by omega) (by omega) hok4;have g5:=c2i (wd:=a0l wm) (ok:=true) (N:=st.length) (by omega) (5:Int) (W:Int) st [] _ R h2.2 (by simp) hok4.shift;simp only[a16,nZ,a05,a09]at g5;simp only[e2,e3,e4,e5,cT,cF,oB]
 erw[g4]
 simp only[oB]
 erw[g5]
 simp only[oB,a4P,aA]
end Go.Ab
namespace Go.Ab
open IntKind(wrap)
def a6M(s:Sub)(zn:List Nat):List Int:=
 (b6G s++a5S s)++(sB (a0l s.2.2.2.2.2.2.2.2.1) s.2.2.2.2.2.2.2.2.1++if s.1=0∨s.1=1 then[]else a7B s.2.2.2.2.2.2.2.2.2.1 zn s.2.2.2.2.2.2.2.2.2.2.1)
theorem c2j{s:Sub}{n:Int}(hs:a1D s n){zn:List Nat}(hz:s.1≠0∧s.1≠1→PartsOk s.2.2.2.2.2.2.2.2.2.1 n ((s.2.2.2.2.2.2.2.2.1.length:Nat):Int) s.2.2.2.2.2.2.2.2.2.2.1 zn)(L:List Int):
  a6f s zn L=L++a6M s zn:=by
 obtain⟨-,-,hf,-,h5,h6,-,-,hw,-⟩:=hs;have hwd:=a2x hw;have hh:=d3Y (b9b hf) ⟨h5,h6⟩ hw L;unfold a6f a6M
 by_cases hk:s.1=0∨s.1=1
 rw[if_pos hk,if_pos hk,b1u (by omega),c6u hf,hh]
 simp
 rw[if_neg hk,if_neg hk,c7b (hz (not_or.1 hk)),b1u (by omega),c6u hf,hh]
 simp
def a8L(s:Sub)(l:List Int):Sub:=(s.1,s.2.1,s.2.2.1,s.2.2.2.1,s.2.2.2.2.1,s.2.2.2.2.2.1,s.2.2.2.2.2.2.1,s.2.2.2.2.2.2.2.1,l,s.2.2.2.2.2.2.2.2.2)
theorem c6v{wd:Nat}(hn:wd≤62){N:Nat}(hN:N<1000000)(n:Int)(ok:Bool)(z s:Sub):∀(l done P R:List Int),(∀x∈l,b7p wd x)→done.length+l.length=N→OkR P (sB wd l++R)→
  a0h b1Z (n,(wd:Int),ok,(N:Int),(done.length:Int),rdr P (sB wd l++R),z,a8L s done,())=some (n,(wd:Int),ok,rdr (P++sB wd l) R,z,a8L s (done++l),())
 | [],done,P,R,_,hl,_=>by
  have:done.length=N:=by simpa using hl
  subst this;have d:decide ((done.length:Int)<(done.length:Int))=false:=by simp
  rw[a0o (b:=(n,(wd:Int),ok,rdr P R,z,a8L s done,())) (by simp only[b1Z,d,cF];simp[sB])];simp[sB]
 |x::l,done,P,R,h,hl,hok=>by
  rw[lC]at hl;rw[c5t]at hok⊢;have d:decide ((done.length:Int)<(N:Int))=true:=by simp;omega
  have h1:=b1t hn (h x (by simp)) hok;have hlm:lim (a46 done+1)=true:=a1t (by omega);have hw:wrap .i64 ((done.length:Int)+1)=(((done++[x]).length:Nat):Int):=by rw[a0g (by omega)];simp
  rw[a0p (s':=(n,(wd:Int),ok,(N:Int),(((done++[x]).length:Nat):Int),rdr (P++pb (a0G x wd) wd) (sB wd l++R),z,a8L s (done++[x]),())) (by
   simp only[b1Z,d,cT,h1,oB,a8L,hlm,hw,a08])]
  rw[c6v hn hN n ok z s l (done++[x]) _ R (fun y hy=>h y (by simp[hy])) (by simp;omega) hok.shift];simp[sB]
theorem d2z{s:Sub}(h:SmallS s):SmallS (a4P s) where
 coefs:=h.coefs
 taps:=h.taps
 stages:=h.stages
 warm:=by show([]:List Int).length≤5000;simp
 rest:=by show([]:List Int).length≤5000;simp
 ks:=by show([]:List Int).length≤_;simp
theorem d6Z{s:Sub}(h:SmallS s){n:Int}(ho:(a2M s n).isSome=true){zn:List Nat}(hz:s.1≠0∧s.1≠1→PartsOk s.2.2.2.2.2.2.2.2.2.1 n ((s.2.2.2.2.2.2.2.2.1.length:Nat):Int) s.2.2.2.2.2.2.2.2.2.2.1 zn)
  {P R:List Int}(hok:OkR P (a6M s zn++R)):b3R (rdr P (a6M s zn++R),n)=some (s,(0:Int),rdr (P++a6M s zn) R):=by
 have hs:=b7o ho;have hhead:=@d2y s n hs h.taps P;have hs':=hs;obtain⟨h1,h2,hf,-,-,-,-,hwl,hww,-,hno,-⟩:=hs';have hwd:=a2x hww;have hwlen:=h.warm;have d1:decide (n<1)=false:=by simp;omega
 have d2:decide (n > 4096)=false:=by simp;omega
 have hzr:∀A B:List Int,(rdr A B).2.2.1=0:=fun _ _=>rfl;have hfit:a9i ((a4P s).1,a4P s,n)=some true:=by
  rw[b7W (d2z h)];unfold b5O
  have:a4N (a4P s).1 (a4P s) n:=hf
  simp only[this,decide_true]
 have hwarm:a5y (a4P s,n)=some ((s.2.2.2.2.2.2.2.2.1.length:Nat):Int):=by
  rw[b3W]
  have:a2P (a4P s) n=a2P s n:=rfl
  rw[this,←hwl]
 have hmay:=c3S h n;rw[ho]at hmay;have hwidth:a1C s.2.2.2.2.2.2.2.2.1=some ((a0l s.2.2.2.2.2.2.2.2.1:Nat):Int):=a2Q (by unfold short;omega);unfold b3R a0v;unfold a6M at hok⊢;simp only[aA]at hok⊢;have hok1:OkR (P++(b6G s++a5S s)) (sB (a0l s.2.2.2.2.2.2.2.2.1) s.2.2.2.2.2.2.2.2.1++((if s.1=0∨s.1=1 then[]else a7B s.2.2.2.2.2.2.2.2.2.1 zn s.2.2.2.2.2.2.2.2.2.2.1)++R)):=OkR.shift (by rw[aA];exact hok)
 have hW:=fun(ok:Bool) (z:Sub)=>c6v (wd:=a0l s.2.2.2.2.2.2.2.2.1) (by omega) (N:=s.2.2.2.2.2.2.2.2.1.length) (by omega) n ok z (a4P s) s.2.2.2.2.2.2.2.2.1 [] _ _ (b9e hww) (by simp) hok1;simp only[a16,nZ,a05,a09]at hW;simp only[d1,d2,cF,hzr,bne_self_eq_false,oB];rw[hhead hok];simp only[hzr,bne_self_eq_false,cF,oB,hfit,bT,hwarm];rw[show((a4P s:Sub))=a8L (a4P s) []from rfl]
 erw[hW]
 simp only[oB,hzr,bne_self_eq_false,cF];rw[show(a8L (a4P s) s.2.2.2.2.2.2.2.2.1).1=s.1 from rfl,a7y];simp only[oB]
 by_cases hk:s.1=0∨s.1=1
 have hd:decide (s.1≠0∧s.1≠1)=false:=by simp only[decide_eq_false_iff_not];omega
 have hsub:a8L (a4P s) s.2.2.2.2.2.2.2.2.1=s:=by
  obtain⟨e1,e2,e3⟩:=hno hk;obtain⟨k,w,o,sh,g,c,t,st,wm,⟨p1,p2,u1⟩,re,u⟩:=s;simp only at e1 e2 e3;subst e1 e2 e3;rfl
 rw[hsub];simp only[hd,cF,bT,hwidth,oB,bne_self_eq_false,hmay,if_pos hk,a05,a40]
 simp
 have hd:decide (s.1≠0∧s.1≠1)=true:=by simp only[dT];omega
 have hp:=hz (not_or.1 hk);have hok2:=hok1.shift;rw[if_neg hk]at hok2;have hget:=c9c hp hok2;simp only[hd,cT,if_neg hk];rw[show(a8L (a4P s) s.2.2.2.2.2.2.2.2.1).2.2.2.2.2.2.2.2.1=s.2.2.2.2.2.2.2.2.1 from rfl]
 erw[hget]
 have hz0:((0:Int) != 0)=false:=rfl;simp only[oB,hz0,cF,bT,hwidth,bne_self_eq_false];have hsub:((a8L (a4P s) s.2.2.2.2.2.2.2.2.1).1,(a8L (a4P s) s.2.2.2.2.2.2.2.2.1).2.1,(a8L (a4P s) s.2.2.2.2.2.2.2.2.1).2.2.1,(a8L (a4P s) s.2.2.2.2.2.2.2.2.1).2.2.2.1,(a8L (a4P s) s.2.2.2.2.2.2.2.2.1).2.2.2.2.1,(a8L (a4P s) s.2.2.2.2.2.2.2.2.1).2.2.2.2.2.1,(a8L (a4P s) s.2.2.2.2.2.2.2.2.1).2.2.2.2.2.2.1,(a8L (a4P s) s.2.2.2.2.2.2.2.2.1).2.2.2.2.2.2.2.1,s.2.2.2.2.2.2.2.2.1,s.2.2.2.2.2.2.2.2.2.1,s.2.2.2.2.2.2.2.2.2.2.1,(a8L (a4P s) s.2.2.2.2.2.2.2.2.1).2.2.2.2.2.2.2.2.2.2.2)=s:=rfl
 erw[hsub]
 simp only[hmay,oB,bT,cF]
 simp
end Go.Ab
namespace Go.Ab
open IntKind(wrap)
theorem d9x(y:Int):bits .u64 .and y 1=y%2:=by
 have h:((a04 64 y) &&& (a04 64 1)).toNat=(y%18446744073709551616).toNat%2:=by
  rw[a76,a38];have e:(a04 64 1).toNat=2^1-1:=by decide
  rw[e,a66];rfl
 show wrap .u64 ((((a04 64 y) &&& (a04 64 1)).toNat:Nat):Int)=_;rw[h,a0F (by omega)];omega
theorem a2C(v:Int):∀n,a1H (pb v n)
 |0=>fun b hb=>by cases hb
 |n+1=>fun b hb=>by
  rcases mC.1 hb with rfl|hb;unfold a7Q;rw[d9x,b2f];omega;exact a2C v n b hb
theorem d0E(n:Nat):a1H (unB n):=fun b hb=>by
 rcases mA.1 hb with hb|hb;exact .inl (a93.1 hb).2;exact .inr (by simpa using hb)
theorem b6H{α:Type}{f:α→List Int}{l:List α}(h:∀x,a1H (f x)):a1H (l.flatMap f):=fun b hb=>by
 obtain⟨x,-,hx⟩:=b05.1 hb;exact h x b hx
theorem d4a(k:Nat)(x:Int):a1H (b0V k x):=by
 unfold b0V;split;exact(d0E _).app (a2C _ _);exact(d0E _).app (a2C _ _)
theorem c1l(n:Nat)(l:List Int):a1H (sB n l):=b6H fun _=>a2C _ _
theorem d4b(k:Int)(l:List Int):a1H (b2o k l):=by
 unfold b2o;split;exact(a2C _ _).app ((a2C _ _).app (c1l _ _));exact(a2C _ _).app (b6H fun _=>d4a _ _)
theorem b9f:a1H []:=fun b hb=>by cases hb
theorem c4q:∀(zs:List Nat)(ks l:List Int),a1H (a2f zs ks l)
 |z::zs,k::ks,l=>by
  simp only[a2f];exact(d4b _ _).app (c4q zs ks _)
 | [],_,_=>by simp only[a2f];exact b9f
 |_::_,[],_=>by simp only[a2f];exact b9f
theorem c4r(s:Sub):a1H (a8p s):=(a2C _ _).app ((a2C _ _).app ((a2C _ _).app (c1l _ _)))
theorem d4c(s:Sub):a1H (a5S s):=by
 unfold a5S;split;exact a2C _ _;split;exact c4r s;split;exact(a2C _ _).app ((c1l _ _).app (c4r s));split;exact(a2C _ _).app (b6H fun _=>(a2C _ _).app (a2C _ _));exact b9f
theorem d5v(s:Sub)(zn:List Nat):a1H (a6M s zn):=by
 refine(((a2C _ _).app ((a2C _ _).app (a2C _ _))).app (d4c s)).app ((c1l _ _).app ?_);split;exact b9f;exact(a2C _ _).app (c4q _ _ _)
theorem c2N{s:Sub}(h:SmallS s){n:Int}(ho:(a2M s n).isSome=true){L:List Int}(hL:L.length<50000000):
  ∃zn,b1q (wL L,s,n)=some (0,wL (L++a6M s zn))∧a3z (s,n)=some (((a6M s zn).length:Nat):Int)∧(a6M s zn).length≤700000∧
   (s.1≠0∧s.1≠1→PartsOk s.2.2.2.2.2.2.2.2.2.1 n ((s.2.2.2.2.2.2.2.2.1.length:Nat):Int) s.2.2.2.2.2.2.2.2.2.2.1 zn):=by
 obtain⟨e,L',h1,-,h3,h4,-⟩:=b8L h (n:=n) (L:=L) (by omega);obtain⟨rfl,zn,rfl,hz⟩:=h4 ho;have hs:=b7o ho;rw[c2j hs hz]at h1 h3;refine⟨zn,h1,?_,by simp at h3;omega,hz⟩;rw[c1g h];unfold a3U;rw[if_pos ho,←c5p hz,c2j hs hz]
 simp
theorem d7V{L:List Int}(hL:L.length<1000000000):b4E (wL L).1=some (rdr [] L):=by
 obtain⟨-,h⟩:=a6K L;unfold b4E;rw[a1t (by omega)];rfl
theorem d5w{L:List Int}(hL:L.length<1000000000):a5N (wL L)=some ((wL L).1,wL L):=by
 obtain⟨-,h⟩:=a6K L;unfold a5N;rw[a1t (by omega)];rfl
end Go.Ab
namespace Go.Ab
end Go.Ab
namespace Go.Ab
open IntKind(wrap)
def a0C(n:Nat):List Int:=if h:n<128 then[(n:Int)]else((n%128+128:Nat):Int)::a0C (n / 128)
termination_by n
decreasing_by omega
theorem b1v{n:Nat}(h:n<128):a0C n=[(n:Int)]:=by rw[a0C,dif_pos h]
theorem b2U{n:Nat}(h:¬ n<128):a0C n=((n%128+128:Nat):Int)::a0C (n / 128):=by rw[a0C,dif_neg h]
theorem b9g:∀(k n:Nat),n<128^(k+1)→1≤(a0C n).length∧(a0C n).length≤k+1
 |0,n,h=>by rw[b1v (by omega)];simp
 |k+1,n,h=>by
  by_cases hn:n<128
  rw[b1v hn];simp;rw[b2U hn]
  have:=b9g k (n / 128) (by rw[a65 (by omega)];rw[a58]at h;exact h)
  simp only[lC];omega
theorem d0F:∀(k n:Nat)(a:List Int)(b c:Int)(out:List Int),n<128^(k+1)→k≤8→out.length+k<1000000→
  ∃r pre,a0h a9K ((n:Int),a,b,c,out,())=some (((r:Nat):Int),a,b,c,out++pre,())∧a0C n=pre++[(r:Int)]∧r<128
 |k,n,a,b,c,out,h,hk,ho=>by
  by_cases hn:n<128
  refine⟨n,[],?_,by rw[b1v hn];rfl,hn⟩;rw[a0o (b:=((n:Int),a,b,c,out,())) (by
   have d:decide ((n:Int)≥128)=false:=by simp;omega
   simp only[a9K,d,cF])]
  simp
  ·cases k with
   |zero=>omega
   |succ k=>
    have hd:n / 128<128^(k+1):=by rw[a65 (by omega)];rw[a58]at h;exact h
    have hn64:n<18446744073709551616:=by
     have:128^(k+1+1)≤128^9:=a17 (by omega) (by omega)
     have e:(128:Nat)^9=9223372036854775808:=by decide
     omega
    obtain⟨r,pre,h1,h2,h3⟩:=d0F k (n / 128) a b c (out++[((n%128+128:Nat):Int)]) hd (by omega) (by simp;omega);refine⟨r,((n%128+128:Nat):Int)::pre,?_,by rw[b2U hn,h2];rfl,h3⟩;have d:decide ((n:Int)≥128)=true:=by simp;omega
    have e1:wrap .u64 (a62 (n:Int) 128)=((n / 128:Nat):Int):=by
     rw[show a62 (n:Int) 128=((n / 128:Nat):Int)from rfl];exact a0F (by omega)
    have e2:wrap .u8 (wrap .u8 (a36 (n:Int) 128)+128)=((n%128+128:Nat):Int):=by
     rw[show a36 (n:Int) 128=((n%128:Nat):Int)from rfl,b2f,b2f];omega
    rw[a0p (s':=(((n / 128:Nat):Int),a,b,c,out++[((n%128+128:Nat):Int)],())) (by
     simp only[a9K,d,cT,a1t (show out.length+1<2147483648 by omega),e1,e2,a08])]
    rw[h1]
    simp
theorem b5W{α β γ:Type}(f:α→List γ):∀(l:List α)(a:List γ),a3D (β:=β) (fun a x=>.inl (a++f x)) l a=.inl (a++l.flatMap f)
 | [],a=>by simp[a3D]
 |x::l,a=>by simp only[a3D];rw[b5W f l];simp
def asI(ns:List Nat):List Int:=ns.map fun n:Nat=>(n:Int)
theorem c9d{ns:List Nat}(h:∀n∈ns,n<9223372036854775808)(hl:ns.length≤1000):b3m (asI ns)=some (ns.flatMap a0C):=by
 have hlen:(asI ns).length=ns.length:=by simp[asI]
 have:=a2t (f:=a9L) (asI ns) (fun i (a:List Int)=>(asI ns,((asI ns).length:Int),(i:Int),a,())) (fun a x=>.inl (a++a0C x.toNat)) (fun i a=>a.length≤10*i) (fun a=>(a,()))
  (fun i hi a ha=>⟨fun a' ha'=>by
   have hi':i<ns.length:=by omega
   have hx:(asI ns)[i]=((ns[i]:Nat):Int):=by simp[asI]
   have hb:=h ns[i] (a06 hi');have hb9:ns[i]<128^(8+1):=by rw[show(128:Nat)^(8+1)=9223372036854775808 from by decide];exact hb
   obtain⟨r,pre,h1,h2,h3⟩:=d0F 8 ns[i] (asI ns) ((asI ns).length:Int) (i:Int) a hb9 (a32 _) (by omega);have hv:=b9g 8 ns[i] hb9;rw[h2]at hv;simp only[lN,lC,a16]at hv;simp only[hx,tN,h2,Sum.inl.injEq]at ha';subst ha';have e:wrap .u8 (r:Int)=(r:Int):=by rw[b2f];omega
   refine⟨?_,by simp;omega⟩;simp only[a9L,dlt hi,cT,a0c hi,hx,oB,h1,a1t (show(a++pre).length+1<2147483648 by simp;omega),a0d (show i<1000000 by omega),e,a08,aA],fun b hb=>by cases hb⟩)
  (fun a ha=>by simp only[a9L,dge,cF]) (a:=[]) (by simp)
 unfold b3m;simp only[nZ]at this;rw[this,b5W];simp[b0e,asI,List.flatMap_map]
theorem orA{a b k:Nat}(ha:a<2^k)(hs:b*2^k+a<18446744073709551616):bits .u64 .or (a:Int) ((b*2^k:Nat):Int)=((a+b*2^k:Nat):Int):=by
 show wrap .u64 (((a04 64 (a:Int) ||| a04 64 ((b*2^k:Nat):Int)).toNat:Nat):Int)=_;have h1:(a04 64 (a:Int)).toNat=a:=by rw[a38];omega
 have h2':(a04 64 ((b*2^k:Nat):Int)).toNat=b*2^k:=by rw[a38];omega
 rw[a56,h1,h2'];have e:a ||| b*2^k=a+b*2^k:=by
  have:=a53 (i:=k) (b:=a) ha b
  rw[Nat.or_comm,a81 b,←this,Nat.add_comm]
 rw[e];exact a0F (by omega)
theorem c2k{rest:List Int}:∀(j m i acc:Nat)(P:List Int),m<128^(j+1)→P.length=i→(i=0∨1≤m)→acc<2^(7*i)→m*2^(7*i)+acc<9223372036854775808→(P++(a0C m++rest)).length<1000000→
  a0h a6U ((acc:Int),P++(a0C m++rest),((P++(a0C m++rest)).length:Nat),(i:Int),())=some (.inr (((acc+m*2^(7*i):Nat):Int),((i+(a0C m).length:Nat):Int),(0:Int),()))
 |j,m,i,acc,P,hj,hP,hm,ha,hs,hl=>by
  have hi8:i≤8:=by
   rcases hm with h0|h1;omega;apply Classical.byContradiction;intro hi;have h2:2^(7*9)≤2^(7*i):=a17 (by omega) (by omega);have h3:2^(7*i)≤m*2^(7*i):=Nat.le_mul_of_pos_left _ (by omega);have e:(2:Nat)^(7*9)=9223372036854775808:=by decide
   omega
  have hw7:wrap .i64 ((7:Int)*(i:Int))=((7*i:Nat):Int):=by rw[a0g (by omega)];omega
  have hwn:decide ((((7*i:Nat):Int))<0)=false:=by simp;omega
  have hwi:wrap .i64 ((i:Int)+1)=((i+1:Nat):Int):=a0d (by omega);have d9:∀c:Nat,c<256→(i=9→False):=fun _ _ h=>by omega
  have h9:((i:Int)==9)=false:=by simp;omega
  have step:∀(c:Nat)(tl:List Int),c<256→a0C m=(c:Int)::tl→(i=0∨c≠0)→
    a6U ((acc:Int),P++(a0C m++rest),((P++(a0C m++rest)).length:Nat),(i:Int),()) =
     bif decide ((c:Int)<128)then some (.inr (Sum.inr (bits .u64 .or (acc:Int) (a0A .u64 (wrap .u64 (a36 (c:Int) 128)) ((7*i:Nat):Int)),((i+1:Nat):Int),(0:Int),())))
     else some (.inl (bits .u64 .or (acc:Int) (a0A .u64 (wrap .u64 (a36 (c:Int) 128)) ((7*i:Nat):Int)),P++(a0C m++rest),((P++(a0C m++rest)).length:Nat),((i+1:Nat):Int),())):=fun c tl hc hv h0=>by
   have hlt:i<(P++(a0C m++rest)).length:=by rw[hv];simp;omega
   have hg:a0q (P++(a0C m++rest)) (i:Int)=some (c:Int):=by
    rw[a0c hlt];congr 1;subst hP;simp[hv]
   have hz:(decide ((i:Int) > 0)=true→((c:Int)==0)=false):=fun h=>by
    simp only[dT]at h;simp only[beq_eq_false_iff_ne,ne_eq];omega
   simp only[a6U,dlt hlt,cT,hg,oB,h9,cF];cases hd:decide ((i:Int) > 0)with
   |true=>simp only[cT,oB,hz hd,cF,hw7,hwn,hwi]
   |false=>simp only[oB,cF,hw7,hwn,hwi]
  have val:∀c:Nat,c%128*2^(7*i)+acc<9223372036854775808→bits .u64 .or (acc:Int) (a0A .u64 (wrap .u64 (a36 (c:Int) 128)) ((7*i:Nat):Int))=((acc+c%128*2^(7*i):Nat):Int):=fun c hc=>by
   rw[show a36 (c:Int) 128=((c%128:Nat):Int)from rfl,a0F (by omega),b3X (by omega) (by omega)];exact orA ha (by omega)
  by_cases hm128:m<128
  rw[a0o (step m [] (by omega) (b1v hm128) (by omega) |>.trans (by
   have d:decide ((m:Int)<128)=true:=by simp;omega
   simp only[d,cT];rfl))]
  rw[val m (by rw[a33 hm128];exact hs),a33 hm128,b1v hm128];rfl
  ·cases j with
   |zero=>omega
   |succ j=>
    have hd:m / 128<128^(j+1):=by rw[a65 (by omega)];rw[a58]at hj;exact hj
    have hp7:2^(7*(i+1))=128*2^(7*i):=by rw[show 7*(i+1)=7+7*i from by omega,Nat.pow_add]
    have hmm:m*2^(7*i)=m%128*2^(7*i)+m / 128*2^(7*(i+1)):=by
     rw[hp7,←a91,←Nat.add_mul];congr 1;omega
    have hb:m%128*2^(7*i)≤127*2^(7*i):=a35 _ (by omega);rw[a0p (step (m%128+128) (a0C (m / 128)) (by omega) (b2U hm128) (by omega) |>.trans (by
     have d:decide (((m%128+128:Nat):Int)<128)=false:=by simp;omega
     simp only[d,cF];rfl))]
    rw[val (m%128+128) (by rw[a99,Nat.mod_mod];omega),a99,Nat.mod_mod];have e:P++(a0C m++rest)=(P++[((m%128+128:Nat):Int)])++(a0C (m / 128)++rest):=by rw[b2U hm128];simp
    rw[e]at hl⊢;have ih:=c2k j (m / 128) (i+1) (acc+m%128*2^(7*i)) (P++[((m%128+128:Nat):Int)]) hd (by simp[hP]) (.inr (by omega)) (by rw[hp7];omega) (by omega) hl;rw[ih,hmm,b2U hm128];congr 3;omega
    simp;omega
theorem d4d{n:Nat}(h:n<9223372036854775808){rest:List Int}(hl:(a0C n++rest).length<1000000):a9O (a0C n++rest)=some ((n:Int),(((a0C n).length:Nat):Int),(0:Int)):=by
 have:=c2k (rest:=rest) 8 n 0 0 [] (by rw[show(128:Nat)^(8+1)=9223372036854775808 from by decide];exact h) rfl (.inl rfl) (by simp) (by simpa using h) hl
 simp only[a05,nZ,Nat.mul_zero,Nat.pow_zero,b03,Nat.zero_add,a09]at this;unfold a9O;rw[this];rfl
end Go.Ab
namespace Go.Ab
open IntKind(wrap)
def ord(P R:List Int):List Int×(Int×Int×Unit):=(P++R,(P.length:Int),(0:Int),())
theorem b0v{n:Nat}(hn:n<9223372036854775808){most:Int}(hm:(n:Int)≤most){P R:List Int}(hl:(P++(a0C n++R)).length<1000000):
  a0X (ord P (a0C n++R),most)=some ((n:Int),ord (P++a0C n) R):=by
 have hd:b20 (a29 (P.length:Int)) (b00 (P++(a0C n++R)).length (P++(a0C n++R)))=a0C n++R:=by
  rw[a23,tN,List.drop_left]
 have h0:((0:Int) != 0)=false:=rfl;have d1:decide ((0:Int)≤(P.length:Int))=true:=by simp
 have d2:decide ((P.length:Int)≤((P++(a0C n++R)).length:Int))=true:=by simp;omega
 have d3:decide ((n:Int) > most)=false:=by simp;omega
 have hlv:(a0C n++R).length<1000000:=by rw[lN]at hl;omega
 have hw:wrap .i64 ((P.length:Int)+((a0C n).length:Int))=(((P++a0C n).length:Nat):Int):=by
  rw[a0g (by simp only[lN]at hl;omega)];simp
 unfold a0X ord;simp only[h0,cF,d1,d2,a03,cT];rw[hd,d4d hn hlv];simp only[oB,beq_self_eq_true,cT,d3,cF,h0,hw,aA]
def b0i(g:Int):Nat:=if 0≤g then(2*g).toNat else(-2*g-1).toNat
theorem d7W{g:Int}(h:-100000≤g∧g≤100000):b3l g=some ((b0i g:Nat):Int):=by
 unfold b3l b0i
 by_cases hg:0≤g
 have d:decide (g≥0)=true:=by simpa using hg
 rw[d,cT,if_pos hg,a0F (n:=g) (by omega),a0F (by omega),a22 (by omega)];have d:decide (g≥0)=false:=by simp;omega
 rw[d,cF,if_neg hg,a0g (n:=g+1) (by omega),a0g (by omega),a0F (n:=0-(g+1)) (by omega),a0F (n:=2*(0-(g+1))) (by omega),a0F (by omega),a22 (by omega)];congr 1;omega
theorem c5w{g:Int}{m:Nat}(h:-(m:Int)≤g∧g≤(m:Int)):b0i g≤2*m:=by
 unfold b0i
 split<;>omega
theorem d7X{g:Int}(h:-100000≤g∧g≤100000):b3p ((b0i g:Nat):Int)=some g:=by
 unfold b3p;have e1:a36 ((b0i g:Nat):Int) 2=((b0i g%2:Nat):Int):=rfl;have e2:a62 ((b0i g:Nat):Int) 2=((b0i g / 2:Nat):Int):=rfl;rw[e1,e2];unfold b0i
 by_cases hg:0≤g
 rw[if_pos hg];have d:((((2*g).toNat%2:Nat):Int)==0)=true:=by simp;omega
 rw[d,cT,a0F (by omega),a0g (by omega)];congr 1;omega;rw[if_neg hg];have d:((((-2*g-1).toNat%2:Nat):Int)==0)=false:=by simp;omega
 rw[d,cF,a0F (by omega),a0g (n:=(((-2*g-1).toNat / 2:Nat):Int)) (by omega),a0g (n:=0-(((-2*g-1).toNat / 2:Nat):Int)) (by omega),a0g (by omega)];congr 1;omega
def e8(s:Int):Int:=bif (a0D .u8 s 7)==(1:Int)then bits .u8 .xor (a0A .u8 s 1) 7 else a0A .u8 s 1
def e16(s:Int):Int:=bif (a0D .u16 s 15)==(1:Int)then bits .u16 .xor (a0A .u16 s 1) 32773 else a0A .u16 s 1
def rep{α:Type}(f:α→α):Nat→α→α
 |0,s=>s
 |n+1,s=>rep f n (f s)
def g8(s c:Int):Int:=rep e8 8 (bits .u8 .xor s c)
def g16(s c:Int):Int:=rep e16 8 (bits .u16 .xor s (a0A .u16 (wrap .u16 c) 8))
theorem c4s(l:List Int)(n i:Int):∀(j k:Nat)(s:Int),k+j=8→a0h b1W (s,l,n,i,(k:Int),())=some (rep e8 j s,l,n,i,())
 |0,k,s,h=>by
  obtain rfl:k=8:=by omega
  exact a0o rfl
 |j+1,k,s,h=>by
  have d:decide ((k:Int)<8)=true:=by simp;omega
  rw[a0p (s':=(e8 s,l,n,i,((k+1:Nat):Int),())) (by
   simp only[b1W,d,cT,a0d (show k<1000000 by omega),e8];cases (a0D .u8 s 7==1:Bool)<;>rfl)]
  exact c4s l n i j (k+1) (e8 s) (by omega)
theorem c0T(l:List Int)(n i:Int):∀(j k:Nat)(s:Int),k+j=8→a0h b0a (s,l,n,i,(k:Int),())=some (rep e16 j s,l,n,i,())
 |0,k,s,h=>by
  obtain rfl:k=8:=by omega
  exact a0o rfl
 |j+1,k,s,h=>by
  have d:decide ((k:Int)<8)=true:=by simp;omega
  rw[a0p (s':=(e16 s,l,n,i,((k+1:Nat):Int),())) (by
   simp only[b0a,d,cT,a0d (show k<1000000 by omega),e16];cases (a0D .u16 s 15==1:Bool)<;>rfl)]
  exact c0T l n i j (k+1) (e16 s) (by omega)
def b9h(l:List Int):Int:=l.foldl g8 0
def a3F(l:List Int):Int:=l.foldl g16 0
theorem c9e{l:List Int}(h:short l):a9l l=some (b9h l):=by
 have:=a2t (f:=a8P) (β:=Int×Unit) l (fun i (a:Int)=>(a,l,(l.length:Int),(i:Int),())) (fun a x=>.inl (g8 a x)) (fun _ _=>True) (fun a=>(a,()))
  (fun i hi a _=>⟨fun a' ha'=>by
   simp only[Sum.inl.injEq]at ha';subst ha'
   have:=c4s l (l.length:Int) (i:Int) 8 0 (bits .u8 .xor a l[i]) rfl
   simp only[nZ]at this;refine⟨?_,trivial⟩;simp only[a8P,dlt hi,cT,a0c hi,oB,this,a0d (a47 hi h),g8],fun b hb=>by cases hb⟩)
  (fun a ha=>by simp only[a8P,dge,cF]) (a:=0) trivial
 unfold a9l;simp only[nZ]at this;rw[this,b8Z];rfl
theorem c4t{l:List Int}(h:short l):a7h l=some (a3F l):=by
 have:=a2t (f:=a6S) (β:=Int×Unit) l (fun i (a:Int)=>(a,l,(l.length:Int),(i:Int),())) (fun a x=>.inl (g16 a x)) (fun _ _=>True) (fun a=>(a,()))
  (fun i hi a _=>⟨fun a' ha'=>by
   simp only[Sum.inl.injEq]at ha';subst ha'
   have:=c0T l (l.length:Int) (i:Int) 8 0 (bits .u16 .xor a (a0A .u16 (wrap .u16 l[i]) 8)) rfl
   simp only[nZ]at this;refine⟨?_,trivial⟩;simp only[a6S,dlt hi,cT,a0c hi,oB,this,a0d (a47 hi h),g16],fun b hb=>by cases hb⟩)
  (fun a ha=>by simp only[a6S,dge,cF]) (a:=0) trivial
 unfold a7h;simp only[nZ]at this;rw[this,b8Z];rfl
theorem b4W(n:Int):wrap .u16 n=n%65536:=by simp[wrap,IntKind.bits,IntKind.signed]
theorem d4e(s:Int):0≤e16 s∧e16 s<65536:=by
 unfold e16;cases (a0D .u16 s 15==1:Bool);simp only[cF,a0A,b4W];omega;simp only[cT,bits,b4W];omega
theorem c2l(l:List Int):0≤a3F l∧a3F l<65536:=by
 unfold a3F;rcases a87 l with rfl|⟨L,b,rfl⟩
 simp
 rw[List.concat_eq_append,List.foldl_append];exact d4e _
theorem e2A{v:Int}(h:0≤v∧v<65536):b3n (v,2)=some [v / 256,v%256]:=by
 have e1:wrap .u64 (a62 v 256)=v / 256:=by rw[a73 h.1];exact a0F (by omega)
 have e2:wrap .u8 (a36 v 256)=v%256:=by rw[a54 h.1,b2f];omega
 have e3:wrap .u8 (a36 (v / 256) 256)=v / 256:=by rw[a54 (by omega),b2f];omega
 have s0:a5C (v,(2:Int),(0:Int),([]:List Int),())=some (.inl (v / 256,(2:Int),(1:Int),[v%256],())):=by
  simp only[a5C,show decide ((0:Int)<2)=true from rfl,cT,a1t (show([]:List Int).length+1<2147483648 by simp),e1,e2];rfl
 have s1:a5C (v / 256,(2:Int),(1:Int),[v%256],())=some (.inl (wrap .u64 (a62 (v / 256) 256),(2:Int),(2:Int),[v%256,v / 256],())):=by
  simp only[a5C,show decide ((1:Int)<2)=true from rfl,cT,a1t (show([v%256]:List Int).length+1<2147483648 by simp),e3];rfl
 have hs:b0M (v,2)=some [v%256,v / 256]:=by
  unfold b0M b4l;simp only[oB];rw[show a4d (a2y (2:Int) 0) 8=2 from rfl,a0p s0,a0p s1,a0o (b:=([v%256,v / 256],())) rfl];rfl
 unfold b3n a3R;simp only[hs,oB];rfl
end Go.Ab
namespace Go.Ab
open IntKind(wrap)
@[reducible] def a0V:Type:=Int×(Int×(Int×Unit))
@[reducible] def a1I:Type:=Int×(Int×(a0V×(List a0V×(List Sub×Unit))))
@[reducible] def a1L:Type:=Int×(List (List Int)×Unit)
def a2q(n:Int)(s:a0V):Bool:=!(decide (s.1<0) || decide (s.1≥n) || decide (s.2.1<0) || decide (s.2.1≥n) || s.1==s.2.1)&&!(decide (s.2.2.1 < -1024) || decide (s.2.2.1 > 1024))
theorem a3Q{n:Int}{s:a0V}:a2q n s=true↔0≤s.1∧s.1<n∧0≤s.2.1∧s.2.1<n∧s.1≠s.2.1∧-1024≤s.2.2.1∧s.2.2.1≤1024:=by
 simp only[a2q,bA,a28,a89,decide_eq_false_iff_not,beq_eq_false_iff_ne];omega
def a5U(l:List a0V)(n:Int):Prop:=1≤n∧n≤8∧l.length≤16∧l.all (a2q n)=true
instance (l:List a0V) (n:Int):Decidable (a5U l n):=by unfold a5U;infer_instance
theorem b7r(l:List a0V)(n:Int):a9D (l,n)=some (decide (a5U l n)):=by
 unfold a9D a5U
 by_cases h1:n<1
 have:¬ 1≤n:=by omega
 simp[h1,this]
 by_cases h2:n > 8
 have:¬ n≤8:=by omega
 simp[h1,h2,this]
 by_cases h3:((l.length:Nat):Int) > 16
 have:¬ l.length≤16:=by omega
 simp[h1,h2,h3,this];have hall:=a1K (f:=a8a) (β:=Unit ⊕ (Bool×Unit)) l (fun i=>(n,l,(l.length:Int),(i:Int),())) (a2q n) (bt:=Sum.inl ()) (bf:=Sum.inr (false,()))
  (fun i h hp=>by
   obtain⟨a1,a2,a3,a4,a5,a6,a7⟩:=a3Q.1 hp;have e1:decide (l[i].1<0)=false:=by simp;omega
   have e2:decide (l[i].1≥n)=false:=by simp;omega
   have e3:decide (l[i].2.1<0)=false:=by simp;omega
   have e4:decide (l[i].2.1≥n)=false:=by simp;omega
   have e5:(l[i].1==l[i].2.1)=false:=by simpa using a5
   have e6:decide (l[i].2.2.1 < -1024)=false:=by simp;omega
   have e7:decide (l[i].2.2.1 > 1024)=false:=by simp;omega
   simp only[a8a,dlt h,cT,a0c h,oB,e1,e2,e3,e4,e5,e6,e7,cF,a0d (show i<1000000 by omega)])
  (fun i h hp=>by
   simp only[a8a,dlt h,cT,a0c h,oB];unfold a2q at hp;generalize decide (l[i].1<0)=b1 at *;generalize decide (l[i].1≥n)=b2 at *;generalize decide (l[i].2.1<0)=b3 at *;generalize decide (l[i].2.1≥n)=b4 at *;generalize (l[i].1==l[i].2.1)=b5 at *;cases b1<;>cases b2<;>cases b3<;>cases b4<;>cases b5<;>simp at hp⊢;generalize hb6:decide (l[i].2.2.1 < -1024)=b6;cases b6;simp only[decide_eq_false_iff_not]at hb6
   have:1024<l[i].2.2.1:=hp (by omega)
   simp[this]
   simp)
  (by simp[a8a])
 simp only[nZ]at hall;have d3:decide (((l.length:Nat):Int) > 16)=false:=by simpa using h3
 have d1:decide (n<1)=false:=by simpa using h1
 have d2:decide (n > 8)=false:=by simpa using h2
 simp only[d1,d2,d3,cF,oB,hall];have e1:1≤n:=by omega
 have e2:n≤8:=by omega
 have e3:l.length≤16:=by omega
 by_cases hA:l.all (a2q n)=true
 rw[decide_eq_true (p:=1≤n∧n≤8∧l.length≤16∧l.all (a2q n)=true) ⟨e1,e2,e3,hA⟩,hA];rfl;rw[decide_eq_false (p:=1≤n∧n≤8∧l.length≤16∧l.all (a2q n)=true) (fun h=>hA h.2.2.2),a74.2 hA];rfl
def c2O(f:a0V):Prop:=1≤f.1∧f.1≤1048576∧1≤f.2.1∧f.2.1≤8∧4≤f.2.2.1∧f.2.2.1≤24
instance (f:a0V):Decidable (c2O f):=by unfold c2O;infer_instance
theorem b8j(f:a0V):a7Z f=some (decide (c2O f)):=by
 unfold a7Z a7Y c2O
 by_cases h1:1≤f.1<;>by_cases h2:f.1≤1048576<;>by_cases h3:1≤f.2.1<;>by_cases h4:f.2.1≤8<;>by_cases h5:4≤f.2.2.1<;>simp[h1,h2,h3,h4,h5]
def frP(f:a1I):Prop:=c2O f.2.2.1∧1≤f.2.1∧f.2.1≤4096∧0≤f.1∧f.1≤4194304-f.2.1∧a5U f.2.2.2.1 f.2.2.1.2.1
instance (f:a1I):Decidable (frP f):=by unfold frP;infer_instance
theorem b8k(f:a1I):a8b f=some (decide (frP f)):=by
 unfold a8b frP;rw[b8j,b7r]
 by_cases h1:c2O f.2.2.1<;>by_cases h2:1≤f.2.1<;>by_cases h3:f.2.1≤4096<;>by_cases h4:0≤f.1<;>simp[h1,h2,h3,h4]
 have hw:wrap .i64 ((4194304:Int)-f.2.1)=4194304-f.2.1:=a0g (by omega);rw[hw]
 by_cases h5:f.1≤4194304-f.2.1<;>simp[h5]
def a8q(s:a0V):List Nat:=[s.1.toNat,s.2.1.toNat,b0i s.2.2.1]
def a6E(s:a0V):List Int:=a0C s.1.toNat++(a0C s.2.1.toNat++a0C (b0i s.2.2.1))
def hb(f:a1I)(body:Nat):List Int:=
 [245,75]++(a0C f.1.toNat++(a0C f.2.1.toNat++(a0C f.2.2.1.1.toNat++(a0C f.2.2.1.2.1.toNat++(a0C f.2.2.1.2.2.1.toNat++(a0C f.2.2.2.1.length++(f.2.2.2.1.flatMap a6E++a0C body)))))))
def a1R(f:a1I)(body:Nat):List Int:=hb f body++[b9h (hb f body)]
theorem a8F{n:Nat}(h:n<9223372036854775808):1≤(a0C n).length∧(a0C n).length≤9:=b9g 8 n (by rw[show(128:Nat)^(8+1)=9223372036854775808 from by decide];exact h)
theorem d4f{n:Int}(hn:n≤8){s:a0V}(h:a2q n s=true):(a6E s).length≤27:=by
 obtain⟨a1,a2,a3,a4,a5,a6,a7⟩:=a3Q.1 h
 have:=c5w (m:=1024) ⟨a6,a7⟩
 have h1:=a8F (n:=s.1.toNat) (by omega);have h2:=a8F (n:=s.2.1.toNat) (by omega);have h3:=a8F (n:=b0i s.2.2.1) (by omega);simp only[a6E,lN];omega
theorem c6w{n:Int}(hn:n≤8):∀(l:List a0V),l.all (a2q n)=true→(l.flatMap a6E).length≤27*l.length
 | [],_=>by simp
 |s::l,h=>by
  simp only[a07,bA]at h
  have:=d4f hn h.1
  have:=c6w hn l h.2
  simp only[a61,lN,lC];omega
theorem c9f{f:a1I}(hf:frP f){body:Nat}(hb':body≤1048576):2≤(hb f body).length∧(hb f body).length≤600:=by
 obtain⟨⟨r1,r2,c1,c2,d1,d2⟩,l1,l2,s1,s2,m1,m2,m3,m4⟩:=hf;have h1:=a8F (n:=f.1.toNat) (by omega);have h2:=a8F (n:=f.2.1.toNat) (by omega);have h3:=a8F (n:=f.2.2.1.1.toNat) (by omega);have h4:=a8F (n:=f.2.2.1.2.1.toNat) (by omega);have h5:=a8F (n:=f.2.2.1.2.2.1.toNat) (by omega);have h6:=a8F (n:=f.2.2.2.1.length) (by omega);have h7:=a8F (n:=body) (by omega);have h8:=c6w m2 _ m4;simp only[hb,lN,lC,a16];omega
theorem d0G:∀l:List a0V,(l.flatMap a8q).length=3*l.length
 | []=>rfl
 |s::l=>by simp only[a61,lN,lC,d0G l];simp only[a8q,lC,a16];omega
theorem d0H(a b:List Nat):asI (a++b)=asI a++asI b:=by simp[asI]
theorem d2A{f:a1I}(hf:frP f){body:Nat}(hb':body≤1048576):a8Q (f,(body:Int))=some (a1R f body):=by
 have hf':=hf;obtain⟨⟨r1,r2,c1,c2,d1,d2⟩,l1,l2,s1,s2,m1,m2,m3,m4⟩:=hf';have hall:∀s∈f.2.2.2.1,a2q f.2.2.1.2.1 s=true:=fun s hs=>lA.1 m4 s hs;have hloop:=a2t (f:=a6p) (β:=Int×(List Int×Unit)) f.2.2.2.1 (fun i (a:List Int)=>((body:Int),f.2.2.2.1,((f.2.2.2.1.length:Nat):Int),(i:Int),a,())) (fun a x=>.inl (a++asI (a8q x))) (fun i a=>a.length=6+3*i) (fun a=>((body:Int),a,()))
  (fun i hi a ha=>⟨fun a' ha'=>by
   simp only[Sum.inl.injEq]at ha';subst ha';obtain⟨a1,a2,a3,a4,a5,a6,a7⟩:=a3Q.1 (hall _ (a06 hi));refine⟨?_,by simp[ha,asI,a8q];omega⟩;simp only[a6p,dlt hi,cT,a0c hi,oB,d7W (g:=f.2.2.2.1[i].2.2.1) (by omega),a1t (show a.length+3<2147483648 by omega),a0d (show i<1000000 by omega),a08];rw[a0F (n:=f.2.2.2.1[i].1) (by omega),a0F (n:=f.2.2.2.1[i].2.1) (by omega)];simp only[asI,a8q,a55,a95,a22 a1,a22 a3],fun b hb=>by cases hb⟩)
  (fun a ha=>by simp only[a6p,dge,cF]) (a:=asI [f.1.toNat,f.2.1.toNat,f.2.2.1.1.toNat,f.2.2.1.2.1.toNat,f.2.2.1.2.2.1.toNat,f.2.2.2.1.length]) (by simp[asI])
 rw[b5W]at hloop;simp only[b0e,nZ]at hloop;have hinit:([wrap .u64 f.1,wrap .u64 f.2.1,wrap .u64 f.2.2.1.1,wrap .u64 f.2.2.1.2.1,wrap .u64 f.2.2.1.2.2.1,wrap .u64 ((f.2.2.2.1.length:Nat):Int)]:List Int)=asI [f.1.toNat,f.2.1.toNat,f.2.2.1.1.toNat,f.2.2.1.2.1.toNat,f.2.2.1.2.2.1.toNat,f.2.2.2.1.length]:=by
  rw[a0F (n:=f.1) (by omega),a0F (n:=f.2.1) (by omega),a0F (n:=f.2.2.1.1) (by omega),a0F (n:=f.2.2.1.2.1) (by omega),a0F (n:=f.2.2.1.2.2.1) (by omega),a0F (by omega)];simp only[asI,a55,a95,a22 (show 0≤f.1 by omega),a22 (show 0≤f.2.1 by omega),a22 (show 0≤f.2.2.1.1 by omega),a22 (show 0≤f.2.2.1.2.1 by omega),a22 (show 0≤f.2.2.1.2.2.1 by omega)]
 have hns:asI [f.1.toNat,f.2.1.toNat,f.2.2.1.1.toNat,f.2.2.1.2.1.toNat,f.2.2.1.2.2.1.toNat,f.2.2.2.1.length]++f.2.2.2.1.flatMap (fun x=>asI (a8q x))++[((body:Nat):Int)]=asI ([f.1.toNat,f.2.1.toNat,f.2.2.1.1.toNat,f.2.2.1.2.1.toNat,f.2.2.1.2.2.1.toNat,f.2.2.2.1.length]++f.2.2.2.1.flatMap a8q++[body]):=by
  rw[d0H,d0H];congr 2;simp only[asI,List.map_flatMap]
 have hlt:∀n∈[f.1.toNat,f.2.1.toNat,f.2.2.1.1.toNat,f.2.2.1.2.1.toNat,f.2.2.1.2.2.1.toNat,f.2.2.2.1.length]++f.2.2.2.1.flatMap a8q++[body],n<9223372036854775808:=fun n hn=>by
  simp only[mA,mC,a80,or_false,b05]at hn;rcases hn with(hn|⟨s,hs,hn⟩)|hn;omega;obtain⟨a1,a2,a3,a4,a5,a6,a7⟩:=a3Q.1 (hall _ hs)
  have:=c5w (m:=1024) ⟨a6,a7⟩
  simp only[a8q,mC,a80,or_false]at hn;omega;omega
 have hlen:=d0G f.2.2.2.1;have hput:=c9d hlt (by simp[hlen];omega);have hflat:(([f.1.toNat,f.2.1.toNat,f.2.2.1.1.toNat,f.2.2.1.2.1.toNat,f.2.2.1.2.2.1.toNat,f.2.2.2.1.length]++f.2.2.2.1.flatMap a8q++[body]).flatMap a0C)=(hb f body).drop 2:=by
  simp only[hb,List.flatMap_append,a61,List.flatMap_nil,a40,aA,List.flatMap_assoc,a78,a05,List.drop_succ_cons,a26];congr 7;exact congrArg (fun g=>List.flatMap g f.2.2.2.1) (funext fun s=>by simp[a6E,a8q])
 have hbe:[245,75]++(hb f body).drop 2=hb f body:=by simp[hb]
 have hbl:=c9f hf hb';unfold a8Q;simp only[hinit];rw[hloop];simp only[oB,a08];have hl2:=congrArg a46 hns;rw[show(asI ([f.1.toNat,f.2.1.toNat,f.2.2.1.1.toNat,f.2.2.1.2.1.toNat,f.2.2.1.2.2.1.toNat,f.2.2.2.1.length]++f.2.2.2.1.flatMap a8q++[body])).length=7+3*f.2.2.2.1.length from by simp only[asI,List.length_map,lN,hlen,lC,a16];omega]at hl2;rw[lN,a52]at hl2;rw[a0F (n:=(body:Int)) (by omega),a1t (by omega),cT,hns,hput];simp only[oB,hflat,a08,hbe];rw[a1t (by simp;omega),cT,c9e (show short (hb f body)by unfold short;omega)];simp only[oB];rw[a1t (by omega),cT];rfl
end Go.Ab
namespace Go.Ab
open IntKind(wrap)
def d2B(f:a1I):a1I:=(f.1,f.2.1,f.2.2.1,f.2.2.2.1,[],())
theorem a5i{P A R:List Int}{k:Nat}(h:(P++(A++R)).length<k):((P++A)++R).length<k:=by rw[aA];exact h
theorem c4u{x:List Int}{ch:Int}(hch:ch≤8)(s l:Int)(fm:a0V)(u:List Sub×Unit){N:Nat}(hN:N≤16){R:List Int}:∀(rest done:List a0V)(P:List Int),rest.all (a2q ch)=true→done.length+rest.length=N→
  (P++(rest.flatMap a6E++R)).length<1000000→
  a0h a6r (x,(N:Int),(done.length:Int),(s,l,fm,done,u),ord P (rest.flatMap a6E++R),())=some (x,(s,l,fm,done++rest,u),ord (P++rest.flatMap a6E) R,())
 | [],done,P,_,hl,_=>by
  have e:done.length=N:=by simpa using hl
  rw[e,a0o (b:=(x,(s,l,fm,done,u),ord P R,())) (by simp only[a6r,dge,cF];rfl)]
  simp
 |g::rest,done,P,h,hl,hlen=>by
  simp only[a07,bA]at h;rw[lC]at hl;obtain⟨a1,a2,a3,a4,a5,a6,a7⟩:=a3Q.1 h.1;have hz:=c5w (m:=1024) ⟨a6,a7⟩;have eT:(g::rest).flatMap a6E++R=a0C g.1.toNat++(a0C g.2.1.toNat++(a0C (b0i g.2.2.1)++(rest.flatMap a6E++R))):=by simp[a6E]
  rw[eT]at hlen⊢;have n1:=b0v (n:=g.1.toNat) (most:=7) (by omega) (by omega) hlen;have hlen2:=a5i hlen;have n2:=b0v (n:=g.2.1.toNat) (most:=7) (by omega) (by omega) hlen2;have hlen3:=a5i hlen2;have n3:=b0v (n:=b0i g.2.2.1) (most:=2048) (by omega) (by omega) hlen3;have hlen4:=a5i hlen3;have hw:wrap .u64 ((done.length:Int)+1)=(((done++[g]).length:Nat):Int):=by rw[a0F (by omega)];simp
  have w1:wrap .i64 ((g.1.toNat:Nat):Int)=g.1:=by rw[a0g (by omega)];omega
  have w2:wrap .i64 ((g.2.1.toNat:Nat):Int)=g.2.1:=by rw[a0g (by omega)];omega
  have hd:decide ((done.length:Int)<(N:Int))=true:=by simp;omega
  rw[a0p (s':=(x,(N:Int),(((done++[g]).length:Nat):Int),(s,l,fm,done++[g],u),ord (P++a0C g.1.toNat++a0C g.2.1.toNat++a0C (b0i g.2.2.1)) (rest.flatMap a6E++R),())) (by
   simp only[a6r,hd,cT,n1,n2,n3,oB,d7X (g:=g.2.2.1) (by omega),a1t (show done.length+1<2147483648 by omega),w1,w2,hw,a08])]
  rw[c4u hch s l fm u hN rest (done++[g]) _ h.2 (by simp;omega) hlen4];simp[a6E]
theorem c4v{f:a1I}(hf:frP f){body:Nat}(hb':body≤1048576){R:List Int}(hl:(a1R f body++R).length<1000000):
  a6s (a1R f body++R)=some (d2B f,((a1R f body).length:Int),(body:Int),(0:Int)):=by
 have hf':=hf;obtain⟨⟨r1,r2,c1,c2,d1,d2⟩,l1,l2,s1,s2,m1,m2,m3,m4⟩:=hf';have hbl:=c9f hf hb'

 have hT:a1R f body++R=[245,75]++(a0C f.1.toNat++(a0C f.2.1.toNat++(a0C f.2.2.1.1.toNat++(a0C f.2.2.1.2.1.toNat++(a0C f.2.2.1.2.2.1.toNat++(a0C f.2.2.2.1.length++(f.2.2.2.1.flatMap a6E++(a0C body++([b9h (hb f body)]++R))))))))):=by
  simp[a1R,hb]
 generalize hx:a1R f body++R=x at *;have hxl:2≤x.length:=by rw[hT];simp
 have g0:a0q x 0=some 245:=by rw[hT];rfl
 have g1:a0q x 1=some 75:=by rw[hT];rfl
 have hdrop:b20 2 (b00 x.length x)=a0C f.1.toNat++(a0C f.2.1.toNat++(a0C f.2.2.1.1.toNat++(a0C f.2.2.1.2.1.toNat++(a0C f.2.2.1.2.2.1.toNat++(a0C f.2.2.2.1.length++(f.2.2.2.1.flatMap a6E++(a0C body++([b9h (hb f body)]++R)))))))):=by
  rw[a23,hT];rfl
 have hlen0:([]++(a0C f.1.toNat++(a0C f.2.1.toNat++(a0C f.2.2.1.1.toNat++(a0C f.2.2.1.2.1.toNat++(a0C f.2.2.1.2.2.1.toNat++(a0C f.2.2.2.1.length++(f.2.2.2.1.flatMap a6E++(a0C body++([b9h (hb f body)]++R))))))))):List Int).length<1000000:=by
  rw[←hdrop];simp;omega
 have n1:=b0v (n:=f.1.toNat) (most:=4194304) (by omega) (by omega) hlen0;have h1:=a5i hlen0;have n2:=b0v (n:=f.2.1.toNat) (most:=4096) (by omega) (by omega) h1;have h2:=a5i h1;have n3:=b0v (n:=f.2.2.1.1.toNat) (most:=1048576) (by omega) (by omega) h2;have h3:=a5i h2;have n4:=b0v (n:=f.2.2.1.2.1.toNat) (most:=8) (by omega) (by omega) h3;have h4:=a5i h3;have n5:=b0v (n:=f.2.2.1.2.2.1.toNat) (most:=24) (by omega) (by omega) h4;have h5:=a5i h4;have n6:=b0v (n:=f.2.2.2.1.length) (most:=16) (by omega) (by omega) h5;have h6:=a5i h5;have hloop:=c4u (x:=x) m2 f.1 f.2.1 f.2.2.1 ([],()) m3 f.2.2.2.1 [] _ m4 (by simp) h6;have h7:=a5i h6;have n7:=b0v (n:=body) (most:=1048576) (by omega) (by omega) h7;simp only[a16,nZ,a05,a09]at n1 n2 n3 n4 n5 n6 n7 hloop;have w1:wrap .i64 ((f.1.toNat:Nat):Int)=f.1:=by rw[a0g (by omega)];omega
 have w2:wrap .i64 ((f.2.1.toNat:Nat):Int)=f.2.1:=by rw[a0g (by omega)];omega
 have w3:wrap .i64 ((f.2.2.1.1.toNat:Nat):Int)=f.2.2.1.1:=by rw[a0g (by omega)];omega
 have w4:wrap .i64 ((f.2.2.1.2.1.toNat:Nat):Int)=f.2.2.1.2.1:=by rw[a0g (by omega)];omega
 have w5:wrap .i64 ((f.2.2.1.2.2.1.toNat:Nat):Int)=f.2.2.1.2.2.1:=by rw[a0g (by omega)];omega
 have hPq:a0C f.1.toNat++a0C f.2.1.toNat++a0C f.2.2.1.1.toNat++a0C f.2.2.1.2.1.toNat++a0C f.2.2.1.2.2.1.toNat++a0C f.2.2.2.1.length++f.2.2.2.1.flatMap a6E++a0C body=(hb f body).drop 2:=by simp[hb]
 rw[hPq]at n7;have hor:ord ((hb f body).drop 2) ([b9h (hb f body)]++R)=(x.drop 2,(((hb f body).length-2:Nat):Int),(0:Int),()):=by
  unfold ord;rw[a21,←hx];congr 1;unfold a1R;rw[aA,List.drop_append_of_le_length (by omega)]
 rw[hor]at n7;have hleft:wrap .i64 (((x.drop 2).length:Int)-(((hb f body).length-2:Nat):Int))=((1+R.length:Nat):Int):=by
  have:x.length=(hb f body).length+(1+R.length):=by rw[←hx];simp[a1R];omega
  rw[a21,a0g (by omega)];omega
 have hat:wrap .i64 ((2:Int)+(((hb f body).length-2:Nat):Int))=(((hb f body).length:Nat):Int):=by rw[a0g (by omega)];omega
 have hlx:(hb f body).length<x.length:=by rw[←hx];simp[a1R]
 have htake:b00 (hb f body).length x=hb f body:=by rw[←hx];simp[a1R]
 have hgs:a0q x (((hb f body).length:Nat):Int)=some (b9h (hb f body)):=by rw[a0c hlx];congr 1;subst hx;simp[a1R]
 have dl:decide (((x.length:Nat):Int)<2)=false:=by simp;omega
 have dl2:decide ((2:Int)≤((x.length:Nat):Int))=true:=by simp;omega
 have b0:((245:Int) != 245)=false:=rfl;have b1:((75:Int) != 75)=false:=rfl;have hnew:∀T:List Int,T.length<1000000→b3o T=some (ord [] T):=fun T hT=>by unfold b3o;rw[a1t (by omega)];rfl
 have hlen0':=hlen0;rw[a05]at hlen0';have z0:((0:Int) != 0)=false:=rfl;have dR:decide (((1+R.length:Nat):Int)<1)=false:=by simp;omega
 have da:decide ((0:Int)≤(((hb f body).length:Nat):Int))=true:=by simp
 have db:decide ((((hb f body).length:Nat):Int)≤((x.length:Nat):Int))=true:=by simp;omega
 have ss:(b9h (hb f body) != b9h (hb f body))=false:=bne_self_eq_false _;have hfb:frP (f.1,f.2.1,f.2.2.1,f.2.2.2.1,([]:List Sub),()):=hf;have hwe:wrap .i64 ((((hb f body).length:Nat):Int)+1)=(((a1R f body).length:Nat):Int):=by rw[a0g (by omega)];simp[a1R]
 have hwb:wrap .i64 ((body:Nat):Int)=(body:Int):=a0g (by omega);unfold a6s;simp only[dl,cF,g0,g1,oB,b0,b1,dl2,cT];rw[hdrop,hnew _ hlen0'];simp only[oB,n1,n2,n3,n4,n5,n6,w1,w2,w3,w4,w5]
 erw[hloop]
 simp only[oB,n7,a9m,z0,cF,a8J,b0b,hleft,dR,hat,da,db,a03,cT,tN,htake,c9e (show short (hb f body)by unfold short;omega),hgs,ss];rw[b8k,decide_eq_true hfb];simp only[oB,bT,cF,hwe,hwb];rfl
end Go.Ab
namespace Go.Ab
@[reducible] def PZ:Type:=Sub×List Nat
def d2C(n:Int)(p:PZ):Prop:=SmallS p.1∧(a2M p.1 n).isSome=true∧(p.1.1≠0∧p.1.1≠1→PartsOk p.1.2.2.2.2.2.2.2.2.2.1 n ((p.1.2.2.2.2.2.2.2.2.1.length:Nat):Int) p.1.2.2.2.2.2.2.2.2.2.2.1 p.2)
def a0s(l:List PZ):List Int:=l.flatMap fun p=>a6M p.1 p.2
theorem c6x(l:List PZ):a1H (a0s l):=b6H fun _=>d5v _ _
theorem c6y(x:a1I)(all:List Sub)(h8:all.length≤8):∀(rest done:List Sub)(L:List Int),done++rest=all→(∀s∈rest,SmallS s∧(a2M s x.2.1).isSome=true)→L.length+700000*rest.length<40000000→
  ∃zs:List PZ,zs.map (·.1)=rest∧(∀p∈zs,d2C x.2.1 p)∧(a0s zs).length≤700000*rest.length∧((∀s∈rest,∃c,a3z (s,x.2.1)=some (c:Int))∧some (((a0s zs).length:Nat):Int)=rest.foldr (fun s a=>a.bind fun a=>(a3z (s,x.2.1)).bind fun c=>some (c+a)) (some 0))∧
   a0h a9M (all,(all.length:Int),(done.length:Int),wL L,x,())=some (.inl (wL (L++a0s zs),x,()))
 | [],done,L,hd,_,_=>by
  have e:done=all:=by simpa using hd
  subst e;refine⟨[],rfl,by simp,by simp[a0s],⟨by simp,by simp[a0s]⟩,?_⟩;rw[a0o (b:=Sum.inl (wL L,x,())) (by simp only[a9M,dge,cF])];simp[a0s]
 |s::rest,done,L,hd,h,hL=>by
  obtain⟨hs,ho⟩:=h s (by simp);rw[lC]at hL;obtain⟨zn,h1,h2,h3,h4⟩:=c2N hs ho (L:=L) (by omega);obtain⟨zs,k1,k2,k3,⟨k4,k5⟩,k6⟩:=c6y x all h8 rest (done++[s]) (L++a6M s zn) (by simpa using hd) (fun t ht=>h t (by simp[ht])) (by rw[lN];omega);have hlt:done.length<all.length:=by rw[←hd];simp
  have hg:a0q all (done.length:Int)=some s:=by rw[a0c hlt];subst hd;simp
  refine⟨(s,zn)::zs,by simp[k1],fun p hp=>?_,?_,⟨fun t ht=>?_,?_⟩,?_⟩;rcases mC.1 hp with rfl|hp;exact⟨hs,ho,h4⟩;exact k2 p hp;simp only[a0s,a61,lN,lC];simp only[a0s]at k3;omega;rcases mC.1 ht with rfl|ht;exact⟨_,h2⟩;exact k4 t ht;simp only[List.foldr_cons,←k5,oB,h2];simp[a0s];have z0:((0:Int) != 0)=false:=rfl;rw[a0p (s':=(all,(all.length:Int),(((done++[s]).length:Nat):Int),wL (L++a6M s zn),x,())) (by
   simp only[a9M,dlt hlt,cT,hg,oB,h1,z0,cF,a0d (show done.length<1000000 by omega)]
   simp)]
  rw[k6];simp[a0s]
def a5I(k:Nat):Nat:=(8-k%8)%8
def a2Z(L:List Int):List Int:=L++a01 (a5I L.length) 0
theorem c4w:∀(k:Nat)(L:List Int),a5I L.length=k→L.length+k<900000000→a0h a4o (wL L,())=some (wL (L++a01 k 0),())
 |k,L,hk,hL=>by
  have f:=(a6K L).1;have ht:a36 (wL L).2.1 8=((L.length%8:Nat):Int):=by rw[f];rfl
  unfold a5I at hk;cases k with
  |zero=>
   have:L.length%8=0:=by omega
   rw[a0o (b:=(wL L,())) (by
    simp only[a4o,ht,this];rfl)]
   simp
  |succ k=>
   have hb:(((L.length%8:Nat):Int) != 0)=true:=by simp;omega
   rw[a0p (s':=(wL (L++[0]),())) (by
    simp only[a4o,ht,hb,cT,c3U (show L.length<1000000000 by omega),oB])]
   rw[c4w k (L++[0]) (by unfold a5I;rw[lN,a52];omega) (by rw[lN,a52];omega)];rw[aA];rfl
theorem d5x{L:List Int}(hL:L.length<800000000):a5M (wL L)=some (wL (a2Z L)):=by
 unfold a5M;rw[c4w _ L rfl (by unfold a5I;omega)];rfl
def a4G(L:List Int):List Int:=(wL (a2Z L)).1
theorem b3Y(L:List Int):(a4G L).length=(L.length+7) / 8∧8*(a4G L).length=(a2Z L).length:=by
 have:=(a6K (a2Z L)).2
 unfold a4G;rw[this];unfold a2Z a5I;simp only[lN,List.length_replicate];omega
def a5V(f:a1I)(L:List Int):List Int:=a1R f (a4G L).length++a4G L
def a3j(f:a1I)(L:List Int):List Int:=a5V f L++[a3F (a5V f L) / 256,a3F (a5V f L)%256]
theorem c2P{f:a1I}(hf:frP f){L:List Int}(hL:L.length≤5600000):(a5V f L).length≤700700∧(a4G L).length≤700000:=by
 have h1:=(b3Y L).1;have h2:=c9f hf (body:=(a4G L).length) (by omega);simp only[a5V,a1R,lN,a52];omega
theorem c9g{f:a1I}(hm:a5f f=some true)(hf:frP f)(h8:f.2.2.2.2.1.length≤8)(hs:∀s∈f.2.2.2.2.1,SmallS s∧(a2M s f.2.1).isSome=true):
  ∃zs:List PZ,zs.map (·.1)=f.2.2.2.2.1∧(∀p∈zs,d2C f.2.1 p)∧(a0s zs).length≤5600000∧
   some (((a0s zs).length:Nat):Int)=f.2.2.2.2.1.foldr (fun s a=>a.bind fun a=>(a3z (s,f.2.1)).bind fun c=>some (c+a)) (some 0)∧a5g f=some (a3j f (a0s zs),0):=by
 obtain⟨zs,k1,k2,k3,⟨-,k5⟩,k6⟩:=c6y f f.2.2.2.2.1 h8 f.2.2.2.2.1 [] [] rfl hs (by simp;omega);have hL:(a0s zs).length≤5600000:=by omega
 refine⟨zs,k1,k2,hL,k5,?_⟩;rw[a05,a16]at k6;have hp:=c2P hf hL;have hw0:wL []=(([]:List Int),(0:Int),()):=rfl;rw[hw0]at k6;have hpl:(a2Z (a0s zs)).length<1000000000:=by
  have:=(b3Y (a0s zs)).2
  omega
 have hr:=c2l (a5V f (a0s zs));have hpre:a1R f (a4G (a0s zs)).length++a4G (a0s zs)=a5V f (a0s zs):=rfl;have hhl:(a1R f (a4G (a0s zs)).length).length+(a4G (a0s zs)).length=(a5V f (a0s zs)).length:=by rw[←hpre,lN]
 unfold a5g;simp only[hm,oB,bT,cF]
 erw[k6]
 simp only[oB,d5x (show(a0s zs).length<800000000 by omega),d5w hpl]
 erw[d2A hf (show(a4G (a0s zs)).length≤1048576 by omega)]
 simp only[oB,a08];rw[show(wL (a2Z (a0s zs))).1=a4G (a0s zs)from rfl];rw[hpre,a1t (by omega),cT,c4t (show short (a5V f (a0s zs))by unfold short;omega)];simp only[oB];rw[a0F (by omega),e2A hr];simp only[oB];rw[a1t (by simp;omega),cT];rfl
end Go.Ab
namespace Go.Ab
open IntKind(wrap)
def a9Y(f:a1I)(l:List Sub):a1I:=(f.1,f.2.1,f.2.2.1,f.2.2.2.1,l,())
theorem d2D(f:a1I):a9Y f f.2.2.2.2.1=f:=rfl
theorem c4x(f zf:a1I)(e:Int){N:Nat}(hN:N≤8){Z:List Int}:∀(rest:List PZ)(done:List Sub)(P:List Int),done.length+rest.length=N→(∀p∈rest,d2C f.2.1 p)→OkR P (a0s rest++Z)→
  a0h a8R (e,(N:Int),(done.length:Int),zf,a9Y f done,rdr P (a0s rest++Z),())=some (.inl (e,zf,a9Y f (done++rest.map (·.1)),rdr (P++a0s rest) Z,()))
 | [],done,P,hl,_,_=>by
  have e1:done.length=N:=by simpa using hl
  rw[e1,a0o (b:=Sum.inl (e,zf,a9Y f done,rdr P Z,())) (by simp only[a8R,dge,cF];rfl)];simp[a0s]
 |p::rest,done,P,hl,h,hok=>by
  rw[lC]at hl;obtain⟨hs,ho,hz⟩:=h p (by simp);have eb:a0s (p::rest)++Z=a6M p.1 p.2++(a0s rest++Z):=by simp[a0s]
  rw[eb]at hok⊢;have hg:=d6Z hs ho hz hok;have hd:decide ((done.length:Int)<(N:Int))=true:=by simp;omega
  have z0:((0:Int) != 0)=false:=rfl;rw[a0p (s':=(e,(N:Int),(((done++[p.1]).length:Nat):Int),zf,a9Y f (done++[p.1]),rdr (P++a6M p.1 p.2) (a0s rest++Z),())) (by
   have hg':b3R (rdr P (a6M p.1 p.2++(a0s rest++Z)),(a9Y f done).2.1)=some (p.1,(0:Int),rdr (P++a6M p.1 p.2) (a0s rest++Z)):=hg;simp only[a8R,hd,cT,hg',oB,z0,cF];rw[show(a9Y f done).2.2.2.2.1=done from rfl,a1t (show done.length+1<2147483648 by omega),cT,a0d (show done.length<1000000 by omega)];rw[show(((done++[p.1]).length:Nat):Int)=((done.length+1:Nat):Int)from by simp];rfl)]
  rw[c4x f zf e hN rest (done++[p.1]) _ (by simp;omega) (fun q hq=>h q (by simp[hq])) hok.shift];simp[a0s]
theorem c2m{L:List Int}(hL:a1H L)(hl:L.length<500000000)(t:Int×(Int×Unit)):∀(k i:Nat),i+k=L.length→(∀j,i≤j→L.getD j 0=0)→
  a0h a4q ((L.length:Int),(i:Int),((wL L).1,t),())=some (.inl ((L.length:Int),((wL L).1,t),()))
 |0,i,h,_=>by
  obtain rfl:i=L.length:=by omega
  exact a0o (by simp only[a4q,dge,cF])
 |k+1,i,h,h0=>by
  have hlt:i<L.length:=by omega
  have z:((0:Int)==1)=false:=rfl;have hw:wrap .i64 ((i:Int)+1)=((i+1:Nat):Int):=by rw[a0g (by omega)];omega
  rw[a0p (s':=((L.length:Int),((i+1:Nat):Int),((wL L).1,t),())) (by
   simp only[a4q,dlt hlt,cT];rw[c5s hL (by omega) hlt t,h0 i (a32 _)];simp only[oB,z,cF,hw])]
  exact c2m hL hl t k (i+1) (by omega) (fun j hj=>h0 j (by omega))
theorem d5y(L:List Int)(k j:Nat)(hj:L.length≤j):(L++a01 k 0).getD j 0=0:=by
 rw[lD,a31 hj,List.getElem?_replicate]
 split<;>rfl
theorem c6z{L:List Int}(h:a1H L):a1H (a2Z L):=h.app fun _ hb=>.inl (a93.1 hb).2
theorem d4g{L:List Int}(hL:a1H L)(hl:L.length≤5600000):∃r,a5O (rdr L (a01 (a5I L.length) 0))=some r∧r.2.2.1=0:=by
 have hp:(a2Z L).length=L.length+a5I L.length:=by simp[a2Z]
 have hpn:a5I L.length<8:=by unfold a5I;omega
 have h8:(a2Z L).length%8=0:=by rw[hp];unfold a5I;omega
 have z0:((0:Int) != 0)=false:=rfl;have h7:wrap .i64 (wrap .i64 (a62 (wrap .i64 ((L.length:Int)+7)) 8)*8)=((a2Z L).length:Int):=by
  rw[a0g (n:=(L.length:Int)+7) (by omega),show a62 ((L.length:Int)+7) 8=(((L.length+7) / 8:Nat):Int)from by
   rw[show((L.length:Int)+7)=((L.length+7:Nat):Int)from by omega];rfl,a0g (n:=(((L.length+7) / 8:Nat):Int)) (by omega),a0g (by omega),hp]
  unfold a5I;omega
 have hloop:=c2m (c6z hL) (by omega) ((L.length:Int),(0:Int),()) (a5I L.length) L.length (by omega) (fun j hj=>d5y L _ j hj);refine⟨((wL (a2Z L)).1,((a2Z L).length:Int),(0:Int),()),?_,rfl⟩;unfold a5O rdr;simp only[z0,cF,h7];rw[show L++a01 (a5I L.length) 0=a2Z L from rfl,hloop];rfl
theorem e2B{v:Int}(h:0≤v∧v<65536):bits .u16 .or (a0A .u16 (wrap .u16 (v / 256)) 8) (wrap .u16 (v%256))=v:=by
 rw[b4W,b4W];have e:a0A .u16 (v / 256%65536) 8=((v.toNat / 256*256:Nat):Int):=by
  show wrap .u16 (v / 256%65536*256)=_;rw[b4W];omega
 rw[e];have e2:v%256%65536=((v.toNat%256:Nat):Int):=by omega
 rw[e2];show wrap .u16 (((a04 16 ((v.toNat / 256*256:Nat):Int) ||| a04 16 ((v.toNat%256:Nat):Int)).toNat:Nat):Int)=_;have h1:(a04 16 ((v.toNat / 256*256:Nat):Int)).toNat=v.toNat / 256*256:=by rw[a38];omega
 have h2:(a04 16 ((v.toNat%256:Nat):Int)).toNat=v.toNat%256:=by rw[a38];omega
 rw[a56,h1,h2];have e:v.toNat / 256*256 ||| v.toNat%256=v.toNat / 256*256+v.toNat%256:=by
  have:=a53 (i:=8) (b:=v.toNat%256) (by omega) (v.toNat / 256)
  rw[show 2^8*(v.toNat / 256)=v.toNat / 256*256 from by omega]at this;exact this.symm
 rw[e,b4W];omega
theorem c7c{f:a1I}(hm:a5f f=some true)(hf:frP f)(hch:((f.2.2.2.2.1.length:Nat):Int)=f.2.2.1.2.1){zs:List PZ}(hz:zs.map (·.1)=f.2.2.2.2.1)(hp:∀p∈zs,d2C f.2.1 p)(hL:(a0s zs).length≤5600000)
  {R:List Int}(hR:R.length≤1000):a7i (a3j f (a0s zs)++R)=some (f,((a3j f (a0s zs)).length:Int),(0:Int)):=by
 have hpl:=c2P hf hL;have hr:=c2l (a5V f (a0s zs));have h8:f.2.2.2.2.1.length≤8:=by have:=hf.1.2.2.2.1;omega
 have hbb:=b3Y (a0s zs);generalize hbd:a4G (a0s zs)=body at *;have hfb:a3j f (a0s zs)=a5V f (a0s zs)++[a3F (a5V f (a0s zs)) / 256,a3F (a5V f (a0s zs))%256]:=rfl;have hpre:a5V f (a0s zs)=a1R f body.length++body:=by unfold a5V;rw[hbd]
 generalize hpb:a5V f (a0s zs)=pre at *;have hxe:a3j f (a0s zs)++R=a1R f body.length++(body++([a3F pre / 256,a3F pre%256]++R)):=by rw[hfb,hpre];simp
 have hfl:(a3j f (a0s zs)).length=pre.length+2:=by rw[hfb];simp
 have hprl:pre.length=(a1R f body.length).length+body.length:=by rw[hpre];simp
 have hxl:(a3j f (a0s zs)++R).length=pre.length+2+R.length:=by rw[lN,hfl]
 have hget:=c4v hf (body:=body.length) (by omega) (R:=body++([a3F pre / 256,a3F pre%256]++R)) (by rw[←hxe,hxl];omega);rw[←hxe]at hget;generalize hx:a3j f (a0s zs)++R=x at *;have z0:((0:Int) != 0)=false:=rfl;have w1:wrap .i64 (((a1R f body.length).length:Int)+(body.length:Int))=(pre.length:Int):=by rw[a0g (by omega)];omega
 have w2:wrap .i64 ((pre.length:Int)+2)=((pre.length+2:Nat):Int):=by rw[a0g (by omega)];omega
 have w3:wrap .i64 ((pre.length:Int)+1)=((pre.length+1:Nat):Int):=by rw[a0g (by omega)];omega
 have d1:decide ((x.length:Int)<((pre.length+2:Nat):Int))=false:=by simp;omega
 have d2:decide ((0:Int)≤(pre.length:Int))=true:=by simp
 have d3:decide ((pre.length:Int)≤(x.length:Int))=true:=by simp;omega
 have d4:decide ((0:Int)≤((a1R f body.length).length:Int))=true:=by simp
 have d5:decide (((a1R f body.length).length:Int)≤(pre.length:Int))=true:=by simp;omega
 have hxp:x=pre++([a3F pre / 256,a3F pre%256]++R):=by rw[←hx,hfb];simp
 have htake:b00 pre.length x=pre:=by rw[hxp];simp
 have hdrop:b20 (a1R f body.length).length pre=body:=by rw[hpre];simp
 have g1:a0q x (pre.length:Int)=some (a3F pre / 256):=by rw[a0c (by omega)];congr 1;subst hxp;simp
 have g2:a0q x ((pre.length+1:Nat):Int)=some (a3F pre%256):=by rw[a0c (by omega)];congr 1;subst hxp;simp
 have ss:(a3F pre != bits .u16 .or (a0A .u16 (wrap .u16 (a3F pre / 256)) 8) (wrap .u16 (a3F pre%256)))=false:=by rw[e2B hr];exact bne_self_eq_false _
 have hpadl:(a2Z (a0s zs)).length<1000000000:=by omega
 have hnew:=d7V hpadl;rw[show(wL (a2Z (a0s zs))).1=body from hbd]at hnew;have hok:OkR [] (a0s zs++a01 (a5I (a0s zs).length) 0):=⟨by rw[a05];exact c6z (c6x zs),by
  rw[a05];show(a2Z (a0s zs)).length<_;omega⟩
 have hloop:=c4x f ((0:Int),(0:Int),((0:Int),(0:Int),(0:Int),()),([]:List a0V),([]:List Sub),()) (pre.length:Int) h8 zs [] [] (by rw[←hz];simp) hp hok;simp only[a05,a16,hz,d2D]at hloop;have hrd:rdr [] (a2Z (a0s zs))=rdr [] (a0s zs++a01 (a5I (a0s zs).length) 0):=rfl;obtain⟨r,ha1,ha2⟩:=d4g (c6x zs) hL;have hleft:a3g (rdr (a0s zs) (a01 (a5I (a0s zs).length) 0))=some ((a5I (a0s zs).length:Int),rdr (a0s zs) (a01 (a5I (a0s zs).length) 0)):=by
  unfold a3g rdr
  have:(wL (a0s zs++a01 (a5I (a0s zs).length) 0)).1=body:=hbd
  simp only[this];have hp:(a2Z (a0s zs)).length=(a0s zs).length+a5I (a0s zs).length:=by simp[a2Z]
  rw[a0g (n:=8*(body.length:Int)) (by omega),a0g (by omega)];congr 2;omega
 have d8:decide (((a5I (a0s zs).length:Nat):Int)≥8)=false:=by unfold a5I;simp;omega
 have hb0:a9Y f []=d2B f:=rfl;have hch':f.2.2.1.2.1=((f.2.2.2.2.1.length:Nat):Int):=hch.symm;unfold a7i;rw[hget];simp only[oB,z0,cF,w1,w2,d1,d2,d3,d4,a03,cT,tN,htake,c4t (show short pre by unfold short;omega),g1,w3,g2,ss,d5,hdrop,hnew,hrd];rw[show(d2B f).2.2.1.2.1=((f.2.2.2.2.1.length:Nat):Int)from hch']
 erw[hloop]
 simp only[oB,hleft,d8,cF,ha1,a0v,ha2,z0,hm,bT,w2,hfl]
theorem c7d{f:a1I}(hf:frP f){L:List Int}(hL:L.length≤5600000){R:List Int}(hR:R.length≤1000):a9o (a3j f L++R)=some (f.2.2.1,f.1,f.2.1,(0:Int)):=by
 have hpl:=c2P hf hL;have hxe:a3j f L++R=a1R f (a4G L).length++(a4G L++([a3F (a5V f L) / 256,a3F (a5V f L)%256]++R)):=by simp[a3j,a5V]
 have hget:=c4v hf (body:=(a4G L).length) (by omega) (R:=a4G L++([a3F (a5V f L) / 256,a3F (a5V f L)%256]++R)) (by
  rw[←hxe];simp only[a3j,lN,lC,a16];omega)
 rw[←hxe]at hget;unfold a9o;rw[hget];rfl
end Go.Ab
namespace Go.Ab
open IntKind(wrap)
theorem b5X(x:Int):b0q x=some (a0b x):=by
 unfold b0q a0b
 by_cases h:-1073741824≤x<;>simp[h]
def a3l(c:List (List Int)):Prop:=1≤c.length∧c.length≤8∧(c.headD []).length≤4096∧c.all (fun r=>decide (r.length=(c.headD []).length)&&r.all a0b)=true
instance (c:List (List Int)):Decidable (a3l c):=by unfold a3l;infer_instance
theorem b3Z{α:Type}{l:List α}{d:α}(h:0<l.length):l[0]=l.headD d:=by
 cases l with
 |nil=>simp at h
 |cons a l=>rfl
theorem c5x(c:List (List Int)):a8y c=some (decide (a3l c)):=by
 unfold a8y
 by_cases h1:((c.length:Nat):Int)<1
 have:¬ a3l c:=fun h=>by have:=h.1;omega
 simp[h1,this]
 by_cases h2:((c.length:Nat):Int) > 8
 have:¬ a3l c:=fun h=>by have:=h.2.1;omega
 simp[h1,h2,this];have hc:0<c.length:=by omega
 have hg:a0q c 0=some (c.headD []):=by rw[show(0:Int)=((0:Nat):Int)from rfl,a0c hc,b3Z (d:=[]) hc]
 have d1:decide (((c.length:Nat):Int)<1)=false:=by simpa using h1
 have d2:decide (((c.length:Nat):Int) > 8)=false:=by simpa using h2
 simp only[d1,d2,cF,hg,oB]
 by_cases h3:(((c.headD []).length:Nat):Int) > 4096
 rw[decide_eq_true h3,decide_eq_false (show ¬ a3l c from fun h=>by have:=h.2.2.1;omega)];rfl;have d3:decide ((((c.headD []).length:Nat):Int) > 4096)=false:=by simpa using h3
 simp only[d3,cF];have inner:∀(i:Nat)(r:List Int),short r→a0h a5q (c,c,(c.length:Int),(i:Int),r,(r.length:Int),(0:Int),())=some (bif r.all a0b then Sum.inl (c,c,(c.length:Int),(i:Int),())else Sum.inr (false,())):=fun i r hr=>by
  have:=a1K (f:=a5q) r (fun j=>(c,c,(c.length:Int),(i:Int),r,(r.length:Int),(j:Int),())) a0b (bt:=Sum.inl (c,c,(c.length:Int),(i:Int),())) (bf:=Sum.inr (false,()))
   (fun j h hp=>by simp only[a5q,dlt h,cT,a0c h,oB,b5X,hp,bT,cF,a0d (a47 h hr)])
   (fun j h hp=>by simp only[a5q,dlt h,cT,a0c h,oB,b5X,hp,a18])
   (by simp only[a5q,dge,cF])
  exact this
 have hall:=a1K (f:=a5r) c (fun i=>(c,c,(c.length:Int),(i:Int),())) (fun r=>decide (r.length=(c.headD []).length)&&r.all a0b) (bt:=Sum.inl ()) (bf:=Sum.inr (false,()))
  (fun i h hp=>by
   simp only[bA,dT]at hp;have e:((((c[i]).length:Nat):Int) != (((c.headD []).length:Nat):Int))=false:=by rw[hp.1];exact bne_self_eq_false _
   have hi:=inner i c[i] (by unfold short;omega);rw[hp.2,cT]at hi;simp only[a5r,dlt h,cT,a0c h,oB,hg,e,cF,hi,a0d (show i<1000000 by omega)])
  (fun i h hp=>by
   by_cases hl:(c[i]).length=(c.headD []).length
   have e:((((c[i]).length:Nat):Int) != (((c.headD []).length:Nat):Int))=false:=by rw[hl];exact bne_self_eq_false _
   have hi:=inner i c[i] (by unfold short;omega);rw[decide_eq_true hl,a41]at hp;rw[hp,cF]at hi;simp only[a5r,dlt h,cT,a0c h,oB,hg,e,cF,hi];have e:((((c[i]).length:Nat):Int) != (((c.headD []).length:Nat):Int))=true:=by simp only[bne_iff_ne,ne_eq,b18];exact hl
   simp only[a5r,dlt h,cT,a0c h,oB,hg,e])
  (by simp only[a5r,dge,cF])
 simp only[nZ]at hall;rw[hall];have e1:1≤c.length:=by omega
 have e2:c.length≤8:=by omega
 have e3:(c.headD []).length≤4096:=by omega
 by_cases hA:c.all (fun r=>decide (r.length=(c.headD []).length)&&r.all a0b)=true
 rw[hA,decide_eq_true (show a3l c from⟨e1,e2,e3,hA⟩)];rfl;rw[a74.2 hA,decide_eq_false (show ¬ a3l c from fun h=>hA h.2.2.2)];rfl
def a4u(c:List (List Int))(n:Nat):Prop:=∀r∈c,r.length=n∧r.all a0b=true
theorem d0I{c:List (List Int)}(h:a3l c):a4u c (c.headD []).length:=fun r hr=>by
 have:=lA.1 h.2.2.2 r hr
 simpa using this
theorem c2Q{c:List (List Int)}{n:Nat}(h:a4u c n)(h1:1≤c.length)(h8:c.length≤8)(hn:n≤4096):a3l c:=by
 have hd:(c.headD []).length=n:=by
  rw[←b3Z (d:=[]) (show 0<c.length by omega)];exact(h _ (a06 _)).1
 refine⟨h1,h8,by omega,lA.2 fun r hr=>?_⟩
 have:=h r hr
 rw[decide_eq_true (show r.length=(c.headD []).length from by rw[hd];exact this.1),this.2];rfl
theorem c6A{c:List (List Int)}{n:Nat}(h:a4u c n)(hn:n≤5000)(h8:c.length≤100):a8f c=some c:=by
 have:=a2t (f:=a7I) (β:=List (List Int)×Unit) c (fun i (a:List (List Int))=>(c,(c.length:Int),(i:Int),a,())) (fun a x=>.inl (a++[x])) (fun i a=>a.length=i) (fun a=>(a,()))
  (fun i hi a ha=>⟨fun a' ha'=>by
   simp only[Sum.inl.injEq]at ha';subst ha';have hr:=(h _ (a06 hi)).1;have hs:∀y:List Int,List.set ([([]:List Int)]:List (List Int)) 0 y=[y]:=fun _=>rfl;refine⟨?_,by simp[ha]⟩;simp only[a7I,dlt hi,cT,a0c hi,oB,a9s (show short c[i]by unfold short;omega),hs];rw[a1t (by simp;omega),cT,a0d (show i<1000000 by omega)];rfl,fun b hb=>by cases hb⟩)
  (fun a ha=>by simp only[a7I,dge,cF]) (a:=[]) rfl
 rw[b5W (fun x:List Int=>[x])]at this;unfold a8f;simp only[nZ]at this;rw[this];simp[b0e]
def a7T(sign g:Int)(x y:Int):Int:=y+sign*(g*x / 256)
def b1i(sign g:Int)(xs ys:List Int):List Int:=List.zipWith (a7T sign g) xs ys
theorem d5z(sign g:Int){xs ys:List Int}(h:xs.length=ys.length):(b1i sign g xs ys).length=ys.length:=by simp[b1i,h]
theorem d5A{sign g x y:Int}(hs:sign=1∨sign=-1)(hg:-1024≤g∧g≤1024)(hx:a0b x=true)(hy:a0b y=true):
  wrap .i64 (y+wrap .i64 (sign*a0D .i64 (wrap .i64 (g*x)) 8))=a7T sign g x y:=by
 have hx:=a2h.1 hx;have hy:=a2h.1 hy;have h1:-1099511627776≤g*x∧g*x≤1099511627776:=by
  have h1:g.natAbs≤1024:=by omega
  have h2:x.natAbs≤1073741824:=by omega
  have:=a88 h1 h2
  rw[←Int.natAbs_mul]at this;omega
 rw[a0g (n:=g*x) (by omega)];have h2:a0D .i64 (g*x) 8=g*x / 256:=by
  unfold a0D;show(g*x).fdiv (2^8)=_;rw[a39 _ (by omega)];rfl
 rw[h2];unfold a7T;rcases hs with rfl|rfl;rw[a0g (n:=1*(g*x / 256)) (by omega),a0g (by omega)];rw[a0g (n:=-1*(g*x / 256)) (by omega),a0g (by omega)]
end Go.Ab
namespace Go.Ab
open IntKind(wrap)
theorem a6N{α:Type}(c:List α){a b:Nat}(h:a≠b)(y d:α):(c.set b y).getD a d=c.getD a d:=by
 rw[lD,lD,a67 (Ne.symm h)]
theorem a8G{α:Type}(c:List α){b:Nat}(h:b<c.length)(y d:α):(c.set b y).getD b d=y:=by
 rw[lD,a63 h];rfl
theorem d6o{α:Type}(p:List α)(x:α)(s:List α)(d:α):(p++x::s).getD p.length d=x:=by
 rw[lD];simp
theorem d7a{α:Type}(p:List α)(x y:α)(s:List α):(p++x::s).set p.length y=p++y::s:=by simp
theorem c4y{c:List (List Int)}{s:a0V}{sign:Int}(hsg:sign=1∨sign=-1)(hg:-1024≤s.2.2.1∧s.2.2.1≤1024)(a0:0≤s.1)(b0:0≤s.2.1)(hab:s.1.toNat≠s.2.1.toNat)(hb:s.2.1.toNat<c.length)(hb':s.2.1<(c.length:Int))
  {xs:List Int}(hxs:c.getD s.1.toNat []=xs)(hn:xs.length≤5000):∀(sx suf px pre:List Int),px++sx=xs→px.length=pre.length→sx.length=suf.length→sx.all a0b=true→suf.all a0b=true→
  if(b1i sign s.2.2.1 sx suf).all a0b=true then
   a0h a4D (sign,(xs.length:Int),(pre.length:Int),c.set s.2.1.toNat (pre++suf),s,((s.1.toNat:Nat):Int),())=some (.inl (c.set s.2.1.toNat (pre++b1i sign s.2.2.1 sx suf),()))
  else ∃c',a0h a4D (sign,(xs.length:Int),(pre.length:Int),c.set s.2.1.toNat (pre++suf),s,((s.1.toNat:Nat):Int),())=some (.inr (false,c',()))
 | [],suf,px,pre,hx,hp,hl,_,_=>by
  have e:suf=[]:=a59.1 hl.symm;subst e;have e2:pre.length=xs.length:=by rw[←hx,←hp];simp
  rw[if_pos (by rfl),e2];exact a0o (by simp only[a4D,dge,cF];rfl)
 |x::sx,[],px,pre,_,_,hl,_,_=>by simp at hl
 |x::sx,y::suf,px,pre,hx,hp,hl,hwx,hwy=>by
  simp only[a07,bA]at hwx hwy;have hlt:pre.length<xs.length:=by rw[←hx,←hp];simp
  have h1:(c.set s.2.1.toNat (pre++y::suf)).getD (a29 ((s.1.toNat:Nat):Int)) []=xs:=by rw[tN,a6N _ hab];exact hxs
  have h2:(c.set s.2.1.toNat (pre++y::suf)).getD s.2.1.toNat []=pre++y::suf:=a8G _ hb _ _;have h3:b19 xs (a29 (pre.length:Int)) 0=x:=by rw[tN,←hp,←hx];exact d6o _ _ _ _
  have h4:b19 (pre++y::suf) (a29 (pre.length:Int)) 0=y:=by rw[tN];exact d6o _ _ _ _
  have d0:decide ((0:Int)≤(pre.length:Int))=true:=by simp
  have d1:decide ((pre.length:Int)<(xs.length:Int))=true:=by simp;omega
  have d2:decide ((0:Int)≤s.2.1)=true:=by simpa using b0
  have d3:decide (s.2.1<(((c.set s.2.1.toNat (pre++y::suf)).length:Nat):Int))=true:=by rw[List.length_set];simpa using hb'
  have d4:decide ((pre.length:Int)<(((pre++y::suf).length:Nat):Int))=true:=by simp;omega
  have hv:=d5A hsg hg hwx.1 hwy.1;have hw:wrap .i64 ((pre.length:Int)+1)=((pre.length+1:Nat):Int):=a0d (by omega);have hz:b1i sign s.2.2.1 (x::sx) (y::suf)=a7T sign s.2.2.1 x y::b1i sign s.2.2.1 sx suf:=rfl;have hset:List.set (c.set s.2.1.toNat (pre++y::suf)) s.2.1.toNat (List.set (pre++y::suf) (a29 (pre.length:Int)) (a7T sign s.2.2.1 x y))=c.set s.2.1.toNat ((pre++[a7T sign s.2.2.1 x y])++suf):=by
   rw[tN,List.set_set,d7a];simp
  have hround:a4D (sign,(xs.length:Int),(pre.length:Int),c.set s.2.1.toNat (pre++y::suf),s,((s.1.toNat:Nat):Int),()) =
    bif !(a0b (a7T sign s.2.2.1 x y))then some (.inr (Sum.inr (false,c.set s.2.1.toNat (pre++y::suf),())))
    else some (.inl (sign,(xs.length:Int),((pre.length+1:Nat):Int),c.set s.2.1.toNat ((pre++[a7T sign s.2.2.1 x y])++suf),s,((s.1.toNat:Nat):Int),())):=by
   simp only[a4D,d1,cT,h1,h2,d0,a03,d2,d3,d4,h3,h4,b5X,hv,oB,hw];cases hwv:a0b (a7T sign s.2.2.1 x y);rfl;simp only[bT,cF];rw[hset,tN]
  cases hwv:a0b (a7T sign s.2.2.1 x y)with
  |false=>
   rw[hz,if_neg (by simp[hwv])];rw[hwv]at hround;exact⟨_,a0o hround⟩
  |true=>
   rw[hwv]at hround;have ih:=c4y hsg hg a0 b0 hab hb hb' hxs hn sx suf (px++[x]) (pre++[a7T sign s.2.2.1 x y]) (by simpa using hx) (by simp[hp]) (by simpa using hl) hwx.2 hwy.2;rw[a0p hround,hz];simp only[a07,hwv,a41];rw[show((pre++[a7T sign s.2.2.1 x y]).length)=pre.length+1 from by simp]at ih;split;rename_i hA;rw[if_pos hA]at ih;rw[ih]
   simp
   rename_i hA;rw[if_neg hA]at ih;exact ih
def a4H(sign:Int)(s:a0V)(c:List (List Int)):Option (List (List Int)):=
 let r:=b1i sign s.2.2.1 (c.getD s.1.toNat []) (c.getD s.2.1.toNat [])
 if r.all a0b=true then some (c.set s.2.1.toNat r)else none
theorem a7C{c:List (List Int)}{n:Nat}(h:a4u c n){i:Nat}(hi:i<c.length):(c.getD i []).length=n∧(c.getD i []).all a0b=true:=by
 rw[lD,lG hi];exact h _ (a06 hi)
theorem c9h{c:List (List Int)}{n:Nat}(hc:a4u c n)(hn:n≤5000){s:a0V}(hs:a2q (c.length:Int) s=true){sign:Int}(hsg:sign=1∨sign=-1):
  ∃b c',a9k (c,s,sign)=some (b,c')∧match a4H sign s c with|some r=>b=true∧c'=r|none=>b=false:=by
 obtain⟨a1,a2,a3,a4,a5,a6,a7⟩:=a3Q.1 hs;have hx:=a7C hc (i:=s.1.toNat) (by omega);have hy:=a7C hc (i:=s.2.1.toNat) (by omega);have hb:s.2.1.toNat<c.length:=by omega
 have hset:c.set s.2.1.toNat (c.getD s.2.1.toNat [])=c:=by
  apply b01;intro i
  by_cases hi:s.2.1.toNat=i
  subst hi;rw[a63 hb,lD,lG hb];rfl;rw[a67 hi]
 have:=c4y hsg ⟨a6,a7⟩ a1 a3 (by omega) hb a4 (rfl:c.getD s.1.toNat []=_) (by omega) (c.getD s.1.toNat []) (c.getD s.2.1.toNat []) [] [] rfl rfl (by omega) hx.2 hy.2
 rw[a05,hset]at this;simp only[a16,nZ,a05,a09]at this;have d1:decide ((0:Int)≤s.1)=true:=by simpa using a1
 have d2:decide (s.1<(c.length:Int))=true:=by simpa using a2
 unfold a9k a4H;simp only[d1,d2,a03,cT]
 by_cases hA:(b1i sign s.2.2.1 (c.getD s.1.toNat []) (c.getD s.2.1.toNat [])).all a0b=true
 rw[if_pos hA]at this⊢;refine⟨true,_,?_,rfl,rfl⟩
 erw[this]
 rfl;rw[if_neg hA]at this⊢;obtain⟨c',h⟩:=this;refine⟨false,c',?_,rfl⟩
 erw[h]
 rfl
theorem b4P{c c':List (List Int)}{n:Nat}(hc:a4u c n){s:a0V}(hs:a2q (c.length:Int) s=true){sign:Int}(h:a4H sign s c=some c'):a4u c' n∧c'.length=c.length:=by
 obtain⟨a1,a2,a3,a4,a5,a6,a7⟩:=a3Q.1 hs;have hx:=a7C hc (i:=s.1.toNat) (by omega);have hy:=a7C hc (i:=s.2.1.toNat) (by omega);unfold a4H at h;simp only at h
 split at h
 rename_i hA;cases h;refine⟨fun r hr=>?_,by simp⟩;rcases List.mem_or_eq_of_mem_set hr with hr|rfl;exact hc r hr;exact⟨by rw[d5z _ _ (by omega)];exact hy.1,hA⟩;cases h
theorem c9i(g:Int):∀xs ys:List Int,xs.length=ys.length→b1i (-1) g xs (b1i 1 g xs ys)=ys
 | [],[],_=>rfl
 |x::xs,y::ys,h=>by
  have ih:=c9i g xs ys (by simpa using h);show a7T (-1) g x (a7T 1 g x y)::b1i (-1) g xs (b1i 1 g xs ys)=_;rw[ih];unfold a7T;congr 1;omega
 | [],_::_,h=>by simp at h
 |_::_,[],h=>by simp at h
theorem d4h{c c':List (List Int)}{n:Nat}(hc:a4u c n){s:a0V}(hs:a2q (c.length:Int) s=true)(h:a4H 1 s c=some c'):a4H (-1) s c'=some c:=by
 obtain⟨a1,a2,a3,a4,a5,a6,a7⟩:=a3Q.1 hs;have hx:=a7C hc (i:=s.1.toNat) (by omega);have hy:=a7C hc (i:=s.2.1.toNat) (by omega);have hb:s.2.1.toNat<c.length:=by omega
 unfold a4H at h;simp only at h
 split at h
 cases h;unfold a4H;simp only;rw[a6N _ (show s.1.toNat≠s.2.1.toNat by omega),a8G _ hb,c9i _ _ _ (by omega),if_pos hy.2,List.set_set];congr 1;apply b01;intro i
 by_cases hi:s.2.1.toNat=i
 subst hi;rw[a63 hb,lD,lG hb];rfl;rw[a67 hi];cases h
def doO:List a0V→List (List Int)→Option (List (List Int))
 | [],c=>some c
 |s::l,c=>(a4H 1 s c).bind (doO l)
def b2p:List a0V→List (List Int)→Option (List (List Int))
 | [],c=>some c
 |s::l,c=>(b2p l c).bind (a4H (-1) s)
theorem b2V{n:Nat}{N:Nat}:∀(l:List a0V){c c':List (List Int)},a4u c n→c.length=N→l.all (a2q (N:Int))=true→doO l c=some c'→a4u c' n∧c'.length=N
 | [],c,c',hc,hl,_,h=>by cases h;exact⟨hc,hl⟩
 |s::l,c,c',hc,hl,hs,h=>by
  simp only[a07,bA]at hs;simp only[doO,a25]at h;obtain⟨d,h1,h2⟩:=h;obtain⟨k1,k2⟩:=b4P hc (by rw[hl];exact hs.1) h1;exact b2V l k1 (by omega) hs.2 h2
theorem d0J{n:Nat}{N:Nat}:∀(l:List a0V){c c':List (List Int)},a4u c n→c.length=N→l.all (a2q (N:Int))=true→doO l c=some c'→b2p l c'=some c
 | [],c,c',_,_,_,h=>by cases h;rfl
 |s::l,c,c',hc,hl,hs,h=>by
  simp only[a07,bA]at hs;simp only[doO,a25]at h;obtain⟨d,h1,h2⟩:=h;obtain⟨k1,k2⟩:=b4P hc (by rw[hl];exact hs.1) h1;simp only[b2p];rw[d0J l k1 (by omega) hs.2 h2];exact d4h hc (by rw[hl];exact hs.1) h1
end Go.Ab
namespace Go.Ab
def c2R:Option (List (List Int))→List (List Int)×Int
 |some r=>(r,0)
 |none=>([],6)
theorem d0K{n N:Nat}(hn:n≤5000){l:List a0V}(hl:l.length≤16)(hN:l.all (a2q (N:Int))=true):∀(k i:Nat)(c:List (List Int)),i+k=l.length→a4u c n→c.length=N→
  a0h a9p (l,(l.length:Int),(i:Int),c,())=some (match doO (l.drop i) c with|some r=>Sum.inl (r,())|none=>Sum.inr ([],6,()))
 |0,i,c,h,_,_=>by
  obtain rfl:i=l.length:=by omega
  rw[a45];exact a0o (by simp only[a9p,dge,cF];rfl)
 |k+1,i,c,h,hc,hcl=>by
  have hi:i<l.length:=by omega
  rw[a02 hi];have hs:a2q (c.length:Int) l[i]=true:=by rw[hcl];exact lA.1 hN _ (a06 hi)
  obtain⟨b,c',h1,h2⟩:=c9h hc hn hs (sign:=1) (.inl rfl);simp only[doO];cases hst:a4H 1 l[i] c with
  |none=>
   rw[hst]at h2;simp only at h2;subst h2;exact a0o (by simp only[a9p,dlt hi,cT,a0c hi,oB,h1,a18];rfl)
  |some r=>
   rw[hst]at h2;obtain⟨rfl,rfl⟩:=h2;obtain⟨k1,k2⟩:=b4P hc hs hst;rw[a0p (s':=(l,(l.length:Int),((i+1:Nat):Int),c',())) (by
    simp only[a9p,dlt hi,cT,a0c hi,oB,h1,bT,cF,a0d (show i<1000000 by omega)])]
   rw[d0K hn hl hN k (i+1) c' (by omega) k1 (by omega)];rfl
theorem c7p(c:List (List Int))(l:List a0V):b3T (c,l)=some (if a3l c∧a5U l (c.length:Int)then c2R (doO l c)else([],1)):=by
 unfold b3T;simp only[c5x,oB]
 by_cases hq:a3l c
 have hN:=d0I hq;simp only[hq,decide_true,bT,cF,b7r,oB,true_and]
 by_cases hm:a5U l (c.length:Int)
 simp only[hm,decide_true,bT,cF,if_true];rw[c6A hN (by have:=hq.2.2.1;omega) (by have:=hq.2.1;omega)]
 have:=d0K (N:=c.length) (by have:=hq.2.2.1;omega:(c.headD []).length≤5000) hm.2.2.1 hm.2.2.2 l.length 0 c (by omega) hN rfl
 simp only[nZ,a26,a09]at this;simp only[oB]
 erw[this]
 cases doO l c<;>rfl;simp only[hm,decide_false,a18,cT,if_false];simp only[hq,decide_false,a18,cT,oB,false_and,if_false]
theorem c4z(s:a0V):∀(l:List a0V)(c:List (List Int)),b2p (l++[s]) c=(a4H (-1) s c).bind (b2p l)
 | [],c=>by
  show a4H (-1) s c=_;cases a4H (-1) s c<;>rfl
 |t::l,c=>by
  simp only[a78,b2p,c4z s l];cases a4H (-1) s c<;>rfl
theorem c6B{n N:Nat}(hn:n≤5000){l:List a0V}(hN:l.all (a2q (N:Int))=true)(z:List (List Int))(e:Int):∀(k:Nat)(c:List (List Int)),k≤l.length→a4u c n→c.length=N→
  match b2p (l.take k) c with
  |some r=>a6l a4h l k (l,z,e,c,())=some (.inl (l,z,e,r,()))
  |none=>∃d,a6l a4h l k (l,z,e,c,())=some (.inr (.ret,l,[],6,d,()))
 |0,c,_,_,_=>rfl
 |k+1,c,hk,hc,hcl=>by
  have hi:k<l.length:=by omega
  have hs:a2q (c.length:Int) l[k]=true:=by rw[hcl];exact lA.1 hN _ (a06 hi)
  obtain⟨b,c',h1,h2⟩:=c9h hc hn hs (sign:=-1) (.inr rfl);rw[a44 hi,c4z];cases hst:a4H (-1) l[k] c with
  |none=>
   rw[hst]at h2;simp only at h2;subst h2;refine⟨c',?_⟩;simp only[a6l,lG hi,a4h,h1,oB,a18,cT]
  |some r=>
   rw[hst]at h2;obtain⟨rfl,rfl⟩:=h2;obtain⟨k1,k2⟩:=b4P hc hs hst;have ih:=c6B hn hN z e k c' (by omega) k1 (by omega);have hb:a6l a4h l (k+1) (l,z,e,c,())=a6l a4h l k (l,z,e,c',()):=by
    simp only[a6l,lG hi,a4h,h1,oB,bT,cF]
   rw[hb];exact ih
theorem d7b(c:List (List Int))(l:List a0V):b3h (c,l)=some (if a3l c∧a5U l (c.length:Int)then c2R (b2p l c)else([],1)):=by
 unfold b3h;simp only[c5x,oB]
 by_cases hq:a3l c
 ·have hN:=d0I hq;simp only[hq,decide_true,bT,cF,b7r,oB,true_and]
  by_cases hm:a5U l (c.length:Int)
  ·simp only[hm,decide_true,bT,cF,if_true];rw[c6A hN (by have:=hq.2.2.1;omega) (by have:=hq.2.1;omega)]
   have:=c6B (N:=c.length) (by have:=hq.2.2.1;omega:(c.headD []).length≤5000) hm.2.2.2 [] 0 l.length c (a32 _) hN rfl
   rw[a23]at this;simp only[oB,a1t (show l.length<2147483648 by have:=hm.2.2.1;omega),cT];cases hu:b2p l c with
   |some r=>
    rw[hu]at this;simp only at this
    erw[this]
    rfl
   |none=>
    rw[hu]at this;obtain⟨d,hd⟩:=this
    erw[hd]
    rfl
  simp only[hm,decide_false,a18,cT,if_false]
 simp only[hq,decide_false,a18,cT,oB,false_and,if_false]
def a1V(b:a1L):Nat:=(b.2.1.headD []).length
theorem a9v(b:a1L):a6I b=some ((a1V b:Nat):Int):=by
 unfold a6I a1V;obtain⟨d,c,u⟩:=b;cases c with
 |nil=>rfl
 |cons r c=>
  have:((((r::c).length:Nat):Int)==0)=false:=by simp;omega
  simp only[this,cF];rfl
def a3G(b:a1L):Prop:=4≤b.1∧b.1≤24∧1≤b.2.1.length∧b.2.1.length≤8∧1≤a1V b∧a1V b≤4096∧b.2.1.all (fun r=>decide (r.length=a1V b)&&r.all fun x=>a1U x b.1)=true
instance (b:a1L):Decidable (a3G b):=by unfold a3G;infer_instance
theorem c9j{x w:Int}(h:4≤w∧w≤24):a4K (x,w)=some (a1U x w):=by
 have:=a7t (x:=x) (w:=w.toNat) (by omega)
 rwa [a22 (by omega)]at this
theorem b5Y(b:a1L):a8z b=some (decide (a3G b)):=by
 unfold a8z a7Y
 by_cases h1:4≤b.1
 rotate_left;rw[decide_eq_false (show ¬ a3G b from fun h=>h1 h.1),decide_eq_false h1];rfl
 by_cases h2:b.1≤24
 rotate_left;rw[decide_eq_false (show ¬ a3G b from fun h=>h2 h.2.1),decide_eq_true h1,decide_eq_false h2];rfl
 by_cases h3:((b.2.1.length:Nat):Int)<1
 rw[decide_eq_false (show ¬ a3G b from fun h=>by have:=h.2.2.1;omega),decide_eq_true h1,decide_eq_true h2,decide_eq_true h3];rfl
 by_cases h4:((b.2.1.length:Nat):Int) > 8
 rw[decide_eq_false (show ¬ a3G b from fun h=>by have:=h.2.2.2.1;omega),decide_eq_true h1,decide_eq_true h2,decide_eq_false h3,decide_eq_true h4];rfl;have d3:decide (((b.2.1.length:Nat):Int)<1)=false:=by simpa using h3
 have d4:decide (((b.2.1.length:Nat):Int) > 8)=false:=by simpa using h4
 simp only[decide_eq_true h1,decide_eq_true h2,d3,d4,cT,cF,oB,bT,a9v]
 by_cases h5:((a1V b:Nat):Int)<1
 rw[decide_eq_false (show ¬ a3G b from fun h=>by have:=h.2.2.2.2.1;omega),decide_eq_true h5];rfl
 by_cases h6:((a1V b:Nat):Int) > 4096
 rw[decide_eq_false (show ¬ a3G b from fun h=>by have:=h.2.2.2.2.2.1;omega),decide_eq_false h5,decide_eq_true h6];rfl;have d5:decide (((a1V b:Nat):Int)<1)=false:=by simpa using h5
 have d6:decide (((a1V b:Nat):Int) > 4096)=false:=by simpa using h6
 simp only[d5,d6,cF,oB];have inner:∀(i:Nat)(r:List Int),short r→a0h a5s (b.2.1,(b.2.1.length:Int),(i:Int),r,(r.length:Int),(0:Int),b,())=some (bif r.all (fun x=>a1U x b.1)then Sum.inl (b.2.1,(b.2.1.length:Int),(i:Int),b,())else Sum.inr (false,())):=fun i r hr=>by
  have:=a1K (f:=a5s) r (fun j=>(b.2.1,(b.2.1.length:Int),(i:Int),r,(r.length:Int),(j:Int),b,())) (fun x=>a1U x b.1) (bt:=Sum.inl (b.2.1,(b.2.1.length:Int),(i:Int),b,())) (bf:=Sum.inr (false,()))
   (fun j h hp=>by simp only[a5s,dlt h,cT,a0c h,oB,c9j ⟨h1,h2⟩,hp,bT,cF,a0d (a47 h hr)])
   (fun j h hp=>by simp only[a5s,dlt h,cT,a0c h,oB,c9j ⟨h1,h2⟩,hp,a18])
   (by simp only[a5s,dge,cF])
  exact this
 have hall:=a1K (f:=a5t) b.2.1 (fun i=>(b.2.1,(b.2.1.length:Int),(i:Int),b,())) (fun r=>decide (r.length=a1V b)&&r.all fun x=>a1U x b.1) (bt:=Sum.inl ()) (bf:=Sum.inr (false,()))
  (fun i h hp=>by
   simp only[bA,dT]at hp;have e:((((b.2.1[i]).length:Nat):Int) != ((a1V b:Nat):Int))=false:=by rw[hp.1];exact bne_self_eq_false _
   have hi:=inner i b.2.1[i] (by unfold short;omega);rw[hp.2,cT]at hi;simp only[a5t,dlt h,cT,a0c h,oB,a9v,e,cF,hi,a0d (show i<1000000 by omega)])
  (fun i h hp=>by
   by_cases hl:(b.2.1[i]).length=a1V b
   have e:((((b.2.1[i]).length:Nat):Int) != ((a1V b:Nat):Int))=false:=by rw[hl];exact bne_self_eq_false _
   have hi:=inner i b.2.1[i] (by unfold short;omega);rw[decide_eq_true hl,a41]at hp;rw[hp,cF]at hi;simp only[a5t,dlt h,cT,a0c h,oB,a9v,e,cF,hi];have e:((((b.2.1[i]).length:Nat):Int) != ((a1V b:Nat):Int))=true:=by simp only[bne_iff_ne,ne_eq,b18];exact hl
   simp only[a5t,dlt h,cT,a0c h,oB,a9v,e])
  (by simp only[a5t,dge,cF])
 simp only[nZ]at hall;rw[hall]
 by_cases hA:b.2.1.all (fun r=>decide (r.length=a1V b)&&r.all fun x=>a1U x b.1)=true
 rw[hA,decide_eq_true (show a3G b from⟨h1,h2,by omega,by omega,by omega,by omega,hA⟩)];rfl;rw[a74.2 hA,decide_eq_false (show ¬ a3G b from fun h=>hA h.2.2.2.2.2.2)];rfl
end Go.Ab
namespace Go.Ab
def a5J{α β:Type}(g:α→Option β):List α→Option (List β)
 | []=>some []
 |a::l=>(g a).bind fun b=>(a5J g l).bind fun r=>some (b::r)
theorem c2S{α β:Type}{g:α→Option β}:∀{l:List α}{r:List β},a5J g l=some r→r.length=l.length
 | [],r,h=>by cases h;rfl
 |a::l,r,h=>by
  simp only[a5J,a25]at h;obtain⟨b,-,r',h2,h3⟩:=h;cases h3;simp[c2S h2]
theorem c6C{α β:Type}{g:α→Option β}:∀{l:List α}{r:List β},a5J g l=some r→∀a∈l,(g a).isSome=true
 | [],r,h,a,ha=>by cases ha
 |a::l,r,h,x,hx=>by
  simp only[a5J,a25]at h;obtain⟨b,h1,r',h2,h3⟩:=h;rcases mC.1 hx with rfl|hx;rw[h1];rfl;exact c6C h2 x hx
def b0w(f:a1I):Option a1L:=
 if frP f∧((f.2.2.2.2.1.length:Nat):Int)=f.2.2.1.2.1 then
  (a5J (fun s=>a2M s f.2.1) f.2.2.2.2.1).bind fun rs=>
   if a3l rs∧a5U f.2.2.2.1 (rs.length:Int)then
    (b2p f.2.2.2.1 rs).bind fun ch=>if a3G (f.2.2.1.2.2.1,ch,())then some (f.2.2.1.2.2.1,ch,())else none
   else none
 else none
def b8l:a1L:=(0,[],())
def d7Y:Option a1L→a1L×Int
 |some b=>(b,0)
 |none=>(b8l,1)
theorem c2n(f:a1I)(all:List Sub)(h8:all.length≤8):∀(rest done:List Sub)(rows:List (List Int)),done++rest=all→rows.length=done.length→(∀s∈rest,SmallS s)→
  a0h a5A (all,(all.length:Int),(done.length:Int),rows,b8l,f,())=some (match a5J (fun s=>a2M s f.2.1) rest with|some rs=>Sum.inl (rows++rs,b8l,f,())|none=>Sum.inr (1,b8l,()))
 | [],done,rows,hd,hr,_=>by
  have e:done=all:=by simpa using hd
  subst e;rw[a0o (b:=Sum.inl (rows,b8l,f,())) (by simp only[a5A,dge,cF])];simp[a5J]
 |s::rest,done,rows,hd,hr,h=>by
  have hs:=h s (by simp);have hlt:done.length<all.length:=by rw[←hd];simp
  have hg:a0q all (done.length:Int)=some s:=by rw[a0c hlt];subst hd;simp
  have hrow:=c3R hs f.2.1;simp only[a5J];cases ho:a2M s f.2.1 with
  |none=>
   rw[ho]at hrow;have b1:((1:Int) != 0)=true:=rfl;exact a0o (by simp only[a5A,dlt hlt,cT,hg,oB,hrow,b1];rfl)
  |some r=>
   rw[ho]at hrow;have b0:((0:Int) != 0)=false:=rfl;rw[a0p (s':=(all,(all.length:Int),(((done++[s]).length:Nat):Int),rows++[r],b8l,f,())) (by
    simp only[a5A,dlt hlt,cT,hg,oB,hrow,b0,cF,a1t (show rows.length+1<2147483648 by omega),a0d (show done.length<1000000 by omega)]
    simp)]
   rw[c2n f all h8 rest (done++[s]) (rows++[r]) (by simpa using hd) (by simp[hr]) (fun t ht=>h t (by simp[ht]))];simp only[oB];cases a5J (fun s=>a2M s f.2.1) rest<;>simp
theorem b9i{f:a1I}(hS:∀s∈f.2.2.2.2.1,SmallS s):a3O f=some (d7Y (b0w f)):=by
 unfold a3O b0w;simp only[b8k,oB]
 by_cases hf:frP f
 rotate_left;simp only[hf,decide_false,a18,cT,oB,false_and,if_false];rfl
 by_cases hl:((f.2.2.2.2.1.length:Nat):Int)=f.2.2.1.2.1
 rotate_left;have e:(((f.2.2.2.2.1.length:Nat):Int) != f.2.2.1.2.1)=true:=by simpa using hl
 simp only[hf,decide_true,bT,cF,oB,e,cT,hl,and_false,if_false];rfl;have e:(((f.2.2.2.2.1.length:Nat):Int) != f.2.2.1.2.1)=false:=by simpa using hl
 have h8:f.2.2.2.2.1.length≤8:=by have:=hf.1.2.2.2.1;omega
 have d0:decide ((0:Int)≤((f.2.2.2.2.1.length:Nat):Int))=true:=by simp
 have hloop:=c2n f f.2.2.2.2.1 h8 f.2.2.2.2.1 [] [] rfl rfl hS;rw[a16]at hloop;rw[if_pos ⟨hf,hl⟩];simp only[hf,decide_true,bT,cF,oB,e,d0,tN,a1t (show f.2.2.2.2.1.length<2147483648 by omega),a03,cT]
 erw[hloop]
 cases hm:a5J (fun s=>a2M s f.2.1) f.2.2.2.2.1 with
 |none=>rfl
 |some rs=>
  simp only[oB,a05,d7b]
  by_cases hq:a3l rs∧a5U f.2.2.2.1 (rs.length:Int)
  ·simp only[if_pos hq];cases hu:b2p f.2.2.2.1 rs with
   |none=>rfl
   |some ch=>
    have b0:((0:Int) != 0)=false:=rfl;simp only[c2R,b0,cF,b5Y,oB]
    by_cases hb:a3G (f.2.2.1.2.2.1,ch,())
    simp only[hb,decide_true,bT,cF,if_true];rfl;simp only[hb,decide_false,a18,cT,if_false];rfl
  simp only[if_neg hq];rfl
theorem d7Z{f:a1I}(hS:∀s∈f.2.2.2.2.1,SmallS s):a5f f=some (b0w f).isSome:=by
 unfold a5f;rw[b9i hS];cases b0w f<;>rfl
theorem c9k{f:a1I}{b:a1L}(h:b0w f=some b):frP f∧((f.2.2.2.2.1.length:Nat):Int)=f.2.2.1.2.1∧∀s∈f.2.2.2.2.1,(a2M s f.2.1).isSome=true:=by
 unfold b0w at h
 split at h
 rename_i hc;simp only[a25]at h;obtain⟨rs,h1,-⟩:=h;exact⟨hc.1,hc.2,c6C h1⟩;cases h
theorem b9j{f:a1I}{b:a1L}(hS:∀s∈f.2.2.2.2.1,SmallS s)(h:b0w f=some b):∃L,L.length≤5600000∧some ((L.length:Nat):Int)=f.2.2.2.2.1.foldr (fun s a=>a.bind fun a=>(a3z (s,f.2.1)).bind fun c=>some (c+a)) (some 0)∧
  a5g f=some (a3j f L,0)∧(∀R:List Int,R.length≤1000→a7i (a3j f L++R)=some (f,((a3j f L).length:Int),(0:Int)))∧
  (∀R:List Int,R.length≤1000→a9o (a3j f L++R)=some (f.2.2.1,f.1,f.2.1,(0:Int))):=by
 obtain⟨h1,h2,h3⟩:=c9k h;have hm:a5f f=some true:=by rw[d7Z hS,h];rfl
 have h8:f.2.2.2.2.1.length≤8:=by have:=h1.1.2.2.2.1;omega
 obtain⟨zs,k1,k2,k3,k4,k5⟩:=c9g hm h1 h8 (fun s hs=>⟨hS s hs,h3 s hs⟩);exact⟨a0s zs,k3,k4,k5,fun R hR=>c7c hm h1 h2 k1 k2 k3 hR,fun R hR=>c7d h1 k3 hR⟩
end Go.Ab
namespace Go.Ab
set_option maxRecDepth 100000 in
theorem d7c:b7g ()=some true:=by kernel_rfl
end Go.Ab
