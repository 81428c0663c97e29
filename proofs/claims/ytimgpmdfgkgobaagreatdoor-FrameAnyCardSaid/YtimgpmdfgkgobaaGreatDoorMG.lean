/- Part of the proof: QK, QM, QN, QO, QP, QQ, QR, QRA, QRB, QRC, QRD, QRE, QRF, QRG, QRH, QRI, QRJ, QS, QT, QU, QUA, QUB, QUC, QUD, QUE, QUF, QUG, QUH, QUI, QUJ, QUK, QUL, QUM, QV, QW, QX, QY, QZA, QZB, QZC, QZD, QZE, QZF, QZG, QZH, QZI, QZJ, QZK, QZL, QZM, QZN, R. Conditions: as each statement tells. -/
import Derived.KernelRfl
import Derived.Test.YtimgpmdfgkgobaaGreatDoorRows
import Derived.ProofKit
import Derived.LaidMore
import Derived.LaidLaws
import Derived.LaidHandle
import Derived.LaidByTextLater
import Derived.OpenShut
import Derived.Handed
import Derived.Test.YtimgpmdfgkgobaaGreatDoorMF
noncomputable section
set_option linter.unusedSimpArgs false
set_option linter.unusedVariables false
open BitVec renaming ofInt→a02,toNat_ofInt→a28,ofInt_natCast→a29,toNat_ofNat→a32,toNat_and→a50,toNat_or→a65
open Bool renaming and_self→a05,not_false→a19,or_eq_true→a26,true_and→a31,not_eq_true'→a34,false_and→a57,eq_false_iff→a69
open Int renaming eq_ofNat_of_zero_le→a01,cast_ofNat_Int→a16,toNat_of_nonneg→a22,natCast_dvd_natCast→a33,tmod_eq_emod_of_nonneg→a38,toNat→a39,tmod→a40,tdiv_eq_ediv_of_nonneg→a43,fdiv_eq_ediv_of_nonneg→a60,tdiv→a63,dvd_mul_of_dvd_left→a67,natCast_mul→a79,dvd_add_left→a84,mul_comm→a85,natCast_inj→a88,mul_nonneg→a91,natCast_nonneg→a99,dvd_zero→b04,bmod_add_bmod→b05,emod_eq_of_lt→b07,natCast_pow→b26,natCast_add→b28
open List renaming replicate→a00,drop_eq_getElem_cons→a03,nil_append→a04,getElem_mem→a06,length_take→a07,length_drop→a08,all_cons→a09,drop_zero→a18,length_nil→a20,append_eq→a21,drop_length→a23,getElem?_append_right→a24,take_length→a25,append_nil→a35,length_eq_zero_iff→a41,length_singleton→a42,length→a45,mem_of_mem_take→a47,mem_of_mem_drop→a48,take_succ_eq_append_getElem→a49,singleton_append→a56,sum_cons→a61,getElem?_append_left→a62,flatMap_cons→a70,getElem?_set_self→a71,eq_nil_or_concat→a72,concat_eq_append→a73,map_cons→a74,cons_append→a75,getElem?_eq_none→a76,getElem?_set_ne→a78,mem_cons_self→a83,take_of_length_le→a87,mem_cons_of_mem→a92,getElem?_drop→a97,getElem?_take→a98,mem_replicate→b01,map_nil→b03,take→b09,ext_getElem?→b17,mem_flatMap→b22,not_mem_nil→b23,length_set→b24,foldl_cons→b25,take_zero→b29,getD→b30,drop→b31
open Nat renaming pow_le_pow_right→a17,mod_eq_of_lt→a30,two_pow_pos→a36,le_refl→a44,mul_le_mul_right→a46,lt_trans→a51,and_two_pow_sub_one_eq_mod→a52,lt_of_le_of_lt→a53,div_le_self→a54,mod_lt→a55,two_pow_add_eq_or_of_lt→a58,pow_succ→a59,min_eq_left→a64,add_zero→a66,dvd_iff_mod_eq_zero→a68,div_lt_iff_lt_mul→a77,pow_dvd_pow→a80,mul_comm→a81,testBit_two_pow_mul_add→a82,add_sub_cancel_left→a86,mul_one→a89,mul_le_mul→a90,mul_assoc→a93,testBit_two_pow→a94,one_le_two_pow→a95,lt_of_lt_of_le→a96,and_one_is_mod→b00,le_of_lt→b02,or_lt_two_pow→b06,add_mod_right→b08,mul_add→b18,le_of_not_lt→b19,lt_of_not_le→b20,div_eq_of_lt→b21,div_add_mod→b27
open Option renaming bind_eq_some_iff→a27,map_eq_some_iff→a37
namespace Go.Ab
open IntKind(wrap)
@[reducible] def Wr:Type:=(List Int)×(Int×Unit)
def c4u(w:Wr)(b:Int):Wr:=
 let bs:=if w.2.1%8=0 then w.1++[0]else w.1
 (bs.set (w.2.1 / 8).toNat (bits .u8 .or (bs.getD (w.2.1 / 8).toNat 0) (a0y .u8 b (7-w.2.1%8))),w.2.1+1,())
def wL(L:List Int):Wr:=L.foldl c4u ([],0,())
theorem c4v(L:List Int)(b:Int):wL (L++[b])=c4u (wL L) b:=by simp[wL]
theorem c3i:∀(n:Nat)(L:List Int),L.length=n→(wL L).2.1=L.length∧(wL L).1.length=(L.length+7) / 8
 |0,L,h=>by
  rw[a41.1 h];exact⟨rfl,rfl⟩
 |n+1,L,h=>by
  obtain⟨L',b,rfl⟩:∃L' b,L=L'++[b]:=by
   rcases a72 L with rfl|⟨L',b,e⟩;simp at h;exact⟨L',b,by rw[e,a73]⟩
  obtain⟨h1,h2⟩:=c3i n L' (by simpa using h);rw[c4v];simp only[c4u,b24,lN,a42,h1];refine⟨by omega,?_⟩
  by_cases h:(L'.length:Int)%8=0
  rw[if_pos h];simp;omega;rw[if_neg h];omega
theorem a6a(L:List Int):(wL L).2.1=L.length∧(wL L).1.length=(L.length+7) / 8:=c3i _ L rfl
theorem c3j{L:List Int}(hL:L.length<1000000000)(b:Int):a2A (wL L,b)=some (wL (L++[b])):=by
 obtain⟨h1,h2⟩:=a6a L;have ht:a40 ((L.length:Nat):Int) 8=((L.length:Nat):Int)%8:=a38 (by omega);have hd:a63 ((L.length:Nat):Int) 8=((L.length:Nat):Int) / 8:=a43 (by omega);have e1:wrap .i64 (((L.length:Nat):Int) / 8)=((L.length:Nat):Int) / 8:=a0g (by omega);have e2:wrap .i64 (7-((L.length:Nat):Int)%8)=7-((L.length:Nat):Int)%8:=a0g (by omega);have e3:wrap .i64 (((L.length:Nat):Int)+1)=((L.length:Nat):Int)+1:=a0g (by omega);have g0:decide ((0:Int)≤((L.length:Nat):Int) / 8)=true:=by simp;omega
 have g1:decide (7-((L.length:Nat):Int)%8<0)=false:=by simp;omega
 rw[c4v];generalize wL L=wr at h1 h2⊢;obtain⟨bs,n,u⟩:=wr;have h1:n=((L.length:Nat):Int):=h1;have h2:bs.length=(L.length+7) / 8:=h2;subst h1;unfold a2A c4u
 by_cases h:((L.length:Nat):Int)%8=0
 have hb:(((L.length:Nat):Int)%8==0)=true:=by simp[h]
 have hl:lim (bs.length+1)=true:=a1y (by omega);have hlt:decide (((L.length:Nat):Int) / 8<(((bs++[0]).length:Nat):Int))=true:=by simp;omega
 simp only[hb,cT,hl,oB,hd,e1,e2,e3,ht,g0,g1,a21,hlt,a05,cF,if_pos h];have hb:(((L.length:Nat):Int)%8==0)=false:=by simp only[beq_eq_false_iff_ne,ne_eq];exact h
 have hlt:decide (((L.length:Nat):Int) / 8<((bs.length:Nat):Int))=true:=by simp;omega
 simp only[hb,cF,oB,hd,e1,e2,e3,ht,g0,g1,hlt,a05,cT,if_neg h]
def a6U(v:Int)(i:Nat):Int:=wrap .u8 (bits .u64 .and (a0F .u64 v (i:Int)) 1)
def pb(v:Int):Nat→List Int
 |0=>[]
 |i+1=>a6U v i::pb v i
theorem b5E(v:Int):∀n,(pb v n).length=n
 |0=>rfl
 |n+1=>by simp[pb,b5E v n]
def a0z(v:Int)(n:Nat)(L:List Int):List Int:=bif a0F .u64 v (n:Int) != 0 then L else L++pb v n
theorem a0D(v:Int)(n:Nat)(L:List Int):L.length≤(a0z v n L).length∧(a0z v n L).length≤L.length+n:=by
 unfold a0z;cases (a0F .u64 v (n:Int) != 0)<;>simp[b5E]
def a8B(v:Int)(n:Nat):Int:=bif a0F .u64 v (n:Int) != 0 then 1 else 0
theorem c7x{v:Int}:∀(n:Nat)(L:List Int),L.length+n<1000000000→a0j a4w (v,(n:Int)-1,wL L,())=some (wL (L++pb v n),())
 |0,L,_=>by rw[a0q (b:=(wL L,())) (by simp[a4w])];simp[pb]
 |n+1,L,h=>by
  have e:((n+1:Nat):Int)-1=(n:Int):=by omega
  have e1:wrap .i64 ((n:Int)-1)=(n:Int)-1:=a0g (by omega);have h1:decide ((n:Int)≥0)=true:=by simp
  have h2:decide ((n:Int)<0)=false:=by simp
  rw[e,a0t (s':=(v,(n:Int)-1,wL (L++[a6U v n]),())) (by
   simp only[a4w,h1,h2,cT,cF,show wrap .u8 (bits .u64 .and (a0F .u64 v (n:Int)) 1)=a6U v n from rfl,c3j (show L.length<1000000000 by omega),oB,e1])]
  rw[c7x n (L++[a6U v n]) (by simp;omega),pb]
  simp
theorem a3J{L:List Int}{v:Int}{n:Nat}(hn:n≤63)(hL:L.length<999999000):a0l (wL L,v,(n:Int))=some (a8B v n,wL (a0z v n L)):=by
 unfold a0l a8B a0z;have h1:decide ((n:Int)<0)=false:=by simp
 have h2:decide ((n:Int) > 64)=false:=by simp;omega
 have e1:wrap .i64 ((n:Int)-1)=(n:Int)-1:=a0g (by omega);simp only[h1,h2,cF,oB];cases (a0F .u64 v (n:Int) != 0)with
 |true=>rfl
 |false=>simp only[cF,e1,c7x n L (by omega),oB]
def unL(n:Nat)(L:List Int):List Int:=L++a00 n 0++[1]
theorem c7y{L:List Int}{n:Nat}(hn:n≤4096)(hL:L.length<999990000):a2J (wL L,(n:Int))=some (0,wL (unL n L)):=by
 unfold a2J unL;have h1:decide ((n:Int)<0)=false:=by simp
 have h2:decide ((n:Int) > 4096)=false:=by simp;omega
 simp only[h1,h2,cF,oB]
 have:=a3W (f:=a3S) (fun i=>((n:Int),(i:Int),wL (L++a00 i 0),())) n (b:=(wL (L++a00 n 0),())) (fun i hi=>by
   have ea:L++a00 i (0:Int)++[0]=L++a00 (i+1) 0:=by rw[aA,←List.replicate_succ']
   simp only[a3S,dlt hi,cT,c3j (show(L++a00 i (0:Int)).length<1000000000 by simp;omega),oB,ea,a0h (show i<1000000 by omega)])
  (by simp[a3S])
 simp only[nZ,List.replicate_zero,a35]at this;simp only[this,oB,c3j (show(L++a00 n (0:Int)).length<1000000000 by simp;omega)]
theorem b4b(n:Nat)(L:List Int):(unL n L).length=L.length+n+1:=by simp[unL];omega
def a0N(x:Int)(n:Nat):Int:=bits .u64 .and (wrap .u64 x) (wrap .u64 ((a0y .u64 1 (n:Int))-1))
def a2U(n:Nat)(l:List Int)(L:List Int):List Int:=l.foldl (fun L x=>a0z (a0N x n) n L) L
theorem a6B(n:Nat):∀(l L:List Int),L.length≤(a2U n l L).length∧(a2U n l L).length≤L.length+n*l.length
 | [],L=>by simp[a2U]
 |x::l,L=>by
  have h1:=a0D (a0N x n) n L;have h2:=a6B n l (a0z (a0N x n) n L);have e:a2U n (x::l) L=a2U n l (a0z (a0N x n) n L):=rfl;rw[e,lC,b18,a89];omega
theorem b5c{L:List Int}{x:Int}{n:Nat}(hn:n≤63)(hL:L.length<999999000):a3m (wL L,x,(n:Int))=some (wL (a0z (a0N x n) n L)):=by
 unfold a3m;have h1:decide ((n:Int)<0)=false:=by simp
 simp only[h1,cF,show bits .u64 .and (wrap .u64 x) (wrap .u64 ((a0y .u64 1 (n:Int))-1))=a0N x n from rfl,a3J hn hL,oB]
end Go.Ab
namespace Go.Ab
open IntKind(wrap)
def a2b(x w:Int):Bool:=decide (1≤w)&&(decide (w≤31)&&(decide (a0y .i64 (-1) (w-1)≤x)&&decide (x≤wrap .i64 (a0y .i64 1 (w-1)-1))))
theorem b2b{x:Int}{w:Nat}(hw:w≤32):a4i (x,(w:Int))=some (a2b x w):=by
 unfold a4i a2b b4I b3u
 by_cases h1:1≤(w:Int)
 by_cases h2:(w:Int)≤31
 have g1:decide ((w:Int)<1)=false:=by simp;omega
 have g2:decide ((w:Int) > 31)=false:=by simp;omega
 have e:wrap .i64 ((w:Int)-1)=(w:Int)-1:=a0g (by omega);have g3:decide ((w:Int)-1<0)=false:=by simp;omega
 have h1':decide ((w:Int)≥1)=true:=by simp;omega
 simp only[h1',h1,h2,g1,g2,g3,e,decide_true,cT,cF,oB,a31]
 by_cases h3:a0y .i64 (-1) ((w:Int)-1)≤x<;>simp[h3]
 have h1':decide ((w:Int)≥1)=true:=by simp;omega
 simp only[h1',h1,h2,decide_true,decide_false,cT,cF,a31,a57];have h1':decide ((w:Int)≥1)=false:=by simp;omega
 simp only[h1',h1,decide_false,cF,a57]
theorem c8M{x:Int}{w:Nat}(hw:w≤32):b3h (x,(w:Int))=some (a2b x w):=by
 unfold b3h a2b c1V b9Q
 by_cases h1:1≤(w:Int)
 by_cases h2:(w:Int)≤31
 have g1:decide ((w:Int)<1)=false:=by simp;omega
 have g2:decide ((w:Int) > 31)=false:=by simp;omega
 have e:wrap .i64 ((w:Int)-1)=(w:Int)-1:=a0g (by omega);have eu:wrap .u64 ((w:Int)-1)=(w:Int)-1:=a0E (by omega);have g3:decide ((w:Int)-1<0)=false:=by simp;omega
 have h1':decide ((w:Int)≥1)=true:=by simp;omega
 simp only[h1',h1,h2,g1,g2,g3,e,eu,decide_true,cT,cF,oB,a31]
 by_cases h3:a0y .i64 (-1) ((w:Int)-1)≤x<;>simp[h3]
 have h1':decide ((w:Int)≥1)=true:=by simp;omega
 simp only[h1',h1,h2,decide_true,decide_false,cT,cF,a31,a57];have h1':decide ((w:Int)≥1)=false:=by simp;omega
 simp only[h1',h1,decide_false,cF,a57]
def a2h(x:Int):Nat→Nat→Nat
 |0,w=>w
 |k+1,w=>bif (x != 0)&&!a2b x w then a2h x k (w+1)else w
theorem c1Z(x:Int):∀(k w:Nat),a2h x k w≤w+k
 |0,w=>a44 _
 |k+1,w=>by
  simp only[a2h];cases (x != 0)&&!a2b x w with
  |true=>have:=c1Z x k (w+1);simp only[cT];omega
  |false=>simp only[cF];omega
def a0n(l:List Int):Nat:=l.foldl (fun w x=>a2h x (32-w) w) 0
theorem b8B:∀(l:List Int)(w:Nat),w≤32→l.foldl (fun w x=>a2h x (32-w) w) w≤32
 | [],w,h=>h
 |x::l,w,h=>b8B l _ (show a2h x (32-w) w≤32 by have:=c1Z x (32-w) w;omega)
theorem a6H(l:List Int):a0n l≤32:=b8B l 0 (by omega)
theorem c5p{x:Int}{l:List Int}{n i:Int}:∀(k w:Nat),w+k=32→a0j a3u ((w:Int),x,l,n,i,())=some (((a2h x k w:Nat):Int),l,n,i,())
 |0,w,h=>by
  obtain rfl:w=32:=by omega
  exact a0q (by cases hx:(x != 0)<;>simp[a3u,hx,a2h])
 |k+1,w,h=>by
  have h1:decide ((w:Int)<32)=true:=by simp;omega
  simp only[a2h];cases hx:(x != 0)with
  |false=>exact a0q (by simp only[a3u,hx,cF,a57])
  |true=>
   cases hf:a2b x w with
   |true=>exact a0q (by simp only[a3u,hx,h1,b2b (show w≤32 by omega),hf,oB,cT,cF,bT,Bool.and_false])
   |false=>
    rw[a0t (s':=(((w+1:Nat):Int),x,l,n,i,())) (by simp only[a3u,hx,h1,b2b (show w≤32 by omega),hf,oB,cT,a19,a0h (show w<1000000 by omega)])];exact c5p k (w+1) (by omega)
theorem a2H{l:List Int}(hs:short l):a1E l=some ((a0n l:Nat):Int):=by
 have hs:l.length<1000000:=hs
 have:=a3c (f:=a6d) l (fun i (w:Nat)=>((w:Int),l,(l.length:Int),(i:Int),())) (fun w x=>(.inl (a2h x (32-w) w):Nat ⊕ (Int×Unit))) (fun _ w=>w≤32) (fun w=>((w:Int),()))
  (fun i h w hw=>⟨fun a' ha=>by
   simp only[Sum.inl.injEq]at ha;subst ha;refine⟨?_,by have:=c1Z l[i] (32-w) w;omega⟩;simp only[a6d,dlt h,cT,a0c h,oB,c5p (32-w) w (by omega),a0h (show i<1000000 by omega)],fun b hb=>(by cases hb)⟩)
  (fun w _=>by simp[a6d]) (a:=0) (by omega)
 simp only[nZ]at this;unfold a1E;rw[this];have key:∀(l:List Int)(w:Nat),a3p (fun w x=>(.inl (a2h x (32-w) w):Nat ⊕ (Int×Unit))) l w=.inl (l.foldl (fun w x=>a2h x (32-w) w) w):=by
  intro l
  induction l with
  |nil=>intro w;rfl
  |cons x l ih=>intro w;simp only[a3p,b25,ih]
 rw[key];rfl
theorem b1v(x:Int):a7E x=some (a0b x):=by
 unfold a7E a0b
 by_cases h:-1073741824≤x<;>simp[h]
def a0v(x:Int):Nat:=if 0≤x then(2*x).toNat else(-2*x-1).toNat
theorem b2c{x:Int}(h:a0b x=true):a0v x<2147483648:=by
 have:=a2o.1 h
 unfold a0v
 split<;>omega
theorem b1w{x:Int}(h:a0b x=true):a9C x=some ((a0v x:Nat):Int):=by
 have hx:=a2o.1 h;unfold a9C a0v;simp only[b1v,h,oB,bT,cF]
 by_cases h0:0≤x
 have h0':decide (x≥0)=true:=by simp;omega
 simp only[h0',cT,if_pos h0];rw[a0g (n:=2*x) (by omega),a0E (by omega)];congr 1;omega;have h0':decide (x≥0)=false:=by simp;omega
 simp only[h0',cF,if_neg h0];rw[a0g (n:=-2*x) (by omega),a0g (n:=-2*x-1) (by omega),a0E (by omega)];congr 1;omega
theorem a8C{N o:Nat}(h:o≤64):a0F .u64 (N:Int) (o:Int)=((N / 2^o:Nat):Int):=c7u h
theorem b3j{N o:Nat}(h:o≤64)(hs:N*2^o<9223372036854775808):a0y .u64 (N:Int) (o:Int)=((N*2^o:Nat):Int):=by
 unfold a0y;show wrap .u64 ((N:Int)*2^(min (o:Int).toNat 64))=_;rw[tN,a64 h];have e:(N:Int)*2^o=((N*2^o:Nat):Int):=by rw[a79,b26];rfl
 rw[e];exact a0E (by omega)
theorem d3D{y k:Nat}(hy:y<18446744073709551616)(hk:k≤62):bits .u64 .and (y:Int) (wrap .u64 (a0y .u64 1 (k:Int)-1))=((y%2^k:Nat):Int):=by
 have hp:2^k≤2^62:=a17 (by decide) hk;have hp1:1≤2^k:=a95;have hp2:(2:Nat)^62=4611686018427387904:=by decide
 have e0:a0y .u64 1 (k:Int)=((2^k:Nat):Int):=by have:=b3j (N:=1) (o:=k) (by omega) (by omega);simpa using this
 have e1:wrap .u64 (((2^k:Nat):Int)-1)=((2^k-1:Nat):Int):=by rw[a0E (by omega)];omega
 rw[e0,e1];show wrap .u64 (((a02 64 (y:Int)) &&& (a02 64 ((2^k-1:Nat):Int))).toNat:Int)=_;rw[a29,a29,a50,a32,a32,a30 hy,a30 (by omega),a52]
 have:y%2^k<2^k:=a55 _ (by omega)
 exact a0E (by omega)
theorem b5d{q:Nat}(h:q<2147483648):wrap .i64 (q:Int)=(q:Int):=a0g (by omega)
def b0d(k:Nat)(x:Int)(L:List Int):List Int:=
 if a0v x / 2^k<32 then a0z ((a0v x%2^k:Nat):Int) k (unL (a0v x / 2^k) L)else a0z ((a0v x:Nat):Int) 32 (unL 32 L)
def a7s(k:Nat)(l:List Int)(L:List Int):List Int:=l.foldl (fun L x=>b0d k x L) L
theorem b9U{k:Nat}(hk:k≤25)(x:Int)(L:List Int):L.length≤(b0d k x L).length∧(b0d k x L).length≤L.length+100:=by
 unfold b0d;split;rename_i hq;have h1:=a0D ((a0v x%2^k:Nat):Int) k (unL (a0v x / 2^k) L);have h2:=b4b (a0v x / 2^k) L;generalize unL (a0v x / 2^k) L=M at h1 h2⊢;generalize a0v x / 2^k=q at hq h2;omega;have h1:=a0D ((a0v x:Nat):Int) 32 (unL 32 L);have h2:=b4b 32 L;omega
theorem b8C{k:Nat}(hk:k≤25):∀(l L:List Int),L.length≤(a7s k l L).length∧(a7s k l L).length≤L.length+100*l.length
 | [],L=>by simp[a7s]
 |x::l,L=>by
  have h1:=b9U hk x L;have h2:=b8C hk l (b0d k x L);have e:a7s k (x::l) L=a7s k l (b0d k x L):=rfl;rw[e,lC];omega
theorem a9r{k:Nat}(hk:k≤25):a2m (k:Int)=some true:=by
 unfold a2m;have h1:decide ((0:Int)≤(k:Int))=true:=by simp
 have h2:decide ((k:Int)≤25)=true:=by simp;omega
 simp only[h1,h2,cT]
theorem c8N{k:Nat}{l L:List Int}(hk:k≤25)(hl:l.length<10000)(hw:l.all a0b=true)(hL:L.length<900000000):b3Q (wL L,(k:Int),l)=some (0,wL (a7s k l L)):=by
 have h0:=a1l (f:=a9V) l (fun i=>((k:Int),l,l,(l.length:Int),(i:Int),wL L,())) (fun _=>true) (bt:=Sum.inl ((k:Int),l,wL L,())) (bf:=Sum.inl ((k:Int),l,wL L,()))
  (fun i h _=>by
   have:=lA.1 hw _ (a06 h)
   simp only[a9V,dlt h,cT,a0c h,oB,b1v,this,bT,cF,a0h (show i<1000000 by omega)])
  (fun i h hp=>by simp at hp) (by simp[a9V])
 have key:∀(j i:Nat)(L':List Int),i+j=l.length→L'.length+100*j<999990000→a0j a7m ((k:Int),l,(l.length:Int),(i:Int),wL L',())=some (wL (a7s k (l.drop i) L'),()):=by
  intro j
  induction j with
  |zero=>
   intro i L' hi _;obtain rfl:i=l.length:=by omega
   rw[a23];exact a0q (by simp[a7m,a7s])
  |succ j ih=>
   intro i L' hi hb;have hlt:i<l.length:=by omega
   have hwi:=lA.1 hw _ (a06 hlt);have hy:=b2c hwi;have hrl:=b9U hk l[i] L';have hk0:decide ((k:Int)<0)=false:=by simp
   have eq:a0F .u64 ((a0v l[i]:Nat):Int) (k:Int)=((a0v l[i] / 2^k:Nat):Int):=a8C (by omega);have hql:=a54 (a0v l[i]) (2^k);have hmod:=b27 (a0v l[i]) (2^k);have emul:a0y .u64 ((a0v l[i] / 2^k:Nat):Int) (k:Int)=((a0v l[i] / 2^k*2^k:Nat):Int):=b3j (by omega) (by rw[a81];omega);have em:wrap .u64 (((a0v l[i]:Nat):Int)-((a0v l[i] / 2^k*2^k:Nat):Int))=((a0v l[i]%2^k:Nat):Int):=by
    rw[a81 (a0v l[i] / 2^k)];rw[a0E (by omega)];omega
   have ew:wrap .i64 ((a0v l[i] / 2^k:Nat):Int)=((a0v l[i] / 2^k:Nat):Int):=b5d (a53 hql hy);rw[a03 hlt,a0t (s':=((k:Int),l,(l.length:Int),((i+1:Nat):Int),wL (b0d k l[i] L'),())) (by
    by_cases hq:a0v l[i] / 2^k<32
    have hd:decide (((a0v l[i] / 2^k:Nat):Int)<32)=true:=decide_eq_true (by omega);have hu:(unL (a0v l[i] / 2^k) L').length<999999000:=by
     rw[b4b];exact a96 (Nat.add_lt_add_right (Nat.add_lt_add_left hq _) 1) (by omega)
    have hun:=c7y (L:=L') (n:=a0v l[i] / 2^k) (b02 (a51 hq (by decide))) (by omega);have hp:=a3J (L:=unL (a0v l[i] / 2^k) L') (v:=((a0v l[i]%2^k:Nat):Int)) (n:=k) (by omega) hu;simp only[a7m,dlt hlt,cT,a0c hlt,oB,b1w hwi,hk0,cF,eq,hd,ew,hun,emul,em,hp,b0d,if_pos hq,a0h (show i<1000000 by omega)];have hd:decide (((a0v l[i] / 2^k:Nat):Int)<32)=false:=decide_eq_false (by omega);have hu:=b4b 32 L';have hun:a2J (wL L',(32:Int))=some (0,wL (unL 32 L')):=c7y (L:=L') (n:=32) (by omega) (by omega);have hp:a0l (wL (unL 32 L'),((a0v l[i]:Nat):Int),(32:Int))=some (a8B ((a0v l[i]:Nat):Int) 32,wL (a0z ((a0v l[i]:Nat):Int) 32 (unL 32 L'))):=a3J (L:=unL 32 L') (v:=((a0v l[i]:Nat):Int)) (n:=32) (by omega) (by omega);simp only[a7m,dlt hlt,cT,a0c hlt,oB,b1w hwi,hk0,cF,eq,hd,hun,hp,b0d,if_neg hq,a0h (show i<1000000 by omega)])]
   exact ih (i+1) _ (by omega) (by omega)
 have h1:=key l.length 0 L (by omega) (by omega);simp only[nZ,a18]at h0 h1;unfold b3Q;simp only[a9r hk,oB,bT,cF,h0];cases l.all (fun _=>true)<;>simp only[cT,cF,h1,oB]
end Go.Ab
namespace Go.Ab
open IntKind(wrap)
def a1p(zn:List Nat):List Int:=zn.map fun(a:Nat)=>(a:Int)
theorem c5Z(n M:Nat):(a00 n M).sum=n*M:=by
 induction n with
 |zero=>simp
 |succ n ih=>rw[List.replicate_succ,a61,ih,Nat.succ_mul,Nat.add_comm]
theorem b6t{o n warm:Int}(h:(a1z o n warm).length≠0):∃zn:List Nat,a1z o n warm=a1p zn∧(zn.sum:Int)=n-warm∧zn.length≤256:=by
 unfold a1z at h⊢;cases hr:(a5Z n warm&&(decide (0≤o)&&decide (o≤8)))with
 |false=>rw[hr]at h;simp at h
 |true=>
  rw[hr]at h;simp only[cT]at h⊢;simp only[a5Z,bA,dT]at hr;unfold b7d at h⊢
  split at h
  rename_i hc;rw[if_pos hc];obtain⟨O,rfl⟩:=a01 hr.2.1;obtain⟨N,rfl⟩:=a01 (show 0≤n by omega);obtain⟨w,rfl⟩:=a01 (show 0≤warm by omega);simp only[tN]at hc⊢;have hp:=d6l (o:=O) (by omega);have hm:=b27 N (2^O);rw[hc.1,a66]at hm;have hw:w≤N / 2^O:=by have:=hc.2;omega
  generalize N / 2^O=M at hc hw hm⊢;generalize 2^O=P at hp hm⊢;refine⟨(M-w)::a00 (P-1) M,?_,?_,?_⟩;simp only[a1p,a74,List.map_replicate];congr 1;omega;rw[a61,c5Z];obtain⟨q,rfl⟩:∃q,P=q+1:=⟨P-1,by omega⟩;rw[Nat.add_sub_cancel];rw[Nat.succ_mul]at hm;omega
  simp;omega
  exact absurd rfl h
def b2O(k:Int)(part L:List Int):List Int:=
 if k=31 then a2U (a0n part) part (a0z ((a0n part:Nat):Int) 5 (a0z (wrap .u64 k) 5 L))else a7s k.toNat part (a0z (wrap .u64 k) 5 L)
def a6C:List Nat→List Int→List Int→List Int→List Int
 |z::zs,k::ks,l,L=>a6C zs ks (l.drop z) (b2O k (l.take z) L)
 |_,_,_,L=>L
theorem b9V{k:Int}(hk:kB k=true)(part L:List Int):L.length≤(b2O k part L).length∧(b2O k part L).length≤L.length+10+100*part.length:=by
 unfold b2O;have h1:=a0D (wrap .u64 k) 5 L;split;have h2:=a0D ((a0n part:Nat):Int) 5 (a0z (wrap .u64 k) 5 L);have h3:=a6B (a0n part) part (a0z ((a0n part:Nat):Int) 5 (a0z (wrap .u64 k) 5 L));have hw:=a6H part
 have:a0n part*part.length≤32*part.length:=a46 _ hw
 omega;rename_i hne;simp only[kB,a26,bA,dT,beq_iff_eq]at hk;have h3:=b8C (k:=k.toNat) (by omega) part (a0z (wrap .u64 k) 5 L);omega
theorem a8D{zn:List Nat}{i:Nat}(h:i<zn.length):b30 (a1p zn) i 0=((zn[i]:Nat):Int):=by
 rw[b7Q (by simpa[a1p]using h)];simp[a1p]
theorem a1I(zn:List Nat):(a1p zn).length=zn.length:=by simp[a1p]
theorem b7U{zn:List Nat}{i:Nat}(h:i<zn.length):(zn.drop i).sum=zn[i]+(zn.drop (i+1)).sum:=by
 rw[a03 h,a61]
theorem c7z{part rest:List Int}{wd:Nat}{a b:Int}{z:List Int}{p:Prt}(hw:wd≤32)(hp:part.length<10000):∀(j i:Nat)(L:List Int),i+j=part.length→L.length+64*j<999990000→
  a0j a8W (rest,(wd:Int),a,b,part,(part.length:Int),(i:Int),z,wL L,p,())=some (rest,a,b,z,wL (a2U wd (part.drop i) L),p,())
 |0,i,L,hi,_=>by
  obtain rfl:i=part.length:=by omega
  rw[a23];exact a0q (by simp[a8W,a2U])
 |j+1,i,L,hi,hb=>by
  have hlt:i<part.length:=by omega
  have h2:decide ((wd:Int)<0)=false:=by simp
  have hpl:=a0D (a0N part[i] wd) wd L;rw[a03 hlt,a0t (s':=(rest,(wd:Int),a,b,part,(part.length:Int),((i+1:Nat):Int),z,wL (a0z (a0N part[i] wd) wd L),p,())) (by
   simp only[a8W,dlt hlt,cT,a0c hlt,oB,h2,cF,show bits .u64 .and (wrap .u64 part[i]) (wrap .u64 ((a0y .u64 1 (wd:Int))-1))=a0N part[i] wd from rfl,a3J (show wd≤63 by omega) (show L.length<999999000 by omega),a0h (show i<1000000 by omega)])]
  exact c7z hw hp j (i+1) _ (by omega) (by omega)
theorem b7h{zn:List Nat}{p:Prt}(hk:p.2.1.length=zn.length)(hall:p.2.1.all kB=true)(hz:zn.length≤256):∀(j i:Nat)(l L:List Int),i+j=zn.length→(zn.drop i).sum=l.length→l.all a0b=true→l.length≤5000→L.length+10*j+100*l.length<800000000→
  a0j a4Q (l,(zn.length:Int),(i:Int),a1p zn,wL L,p,())=some (wL (a6C (zn.drop i) (p.2.1.drop i) l L),())
 |0,i,l,L,hi,_,_,_,_=>by
  obtain rfl:i=zn.length:=by omega
  rw[a23];exact a0q (by simp[a4Q,a6C])
 |j+1,i,l,L,hi,hsum,hw,hl5,hb=>by
  have hlt:i<zn.length:=by omega
  have hki:i<p.2.1.length:=by omega
  have hkb:=lA.1 hall _ (a06 hki);rw[b7U hlt]at hsum;have h0:decide ((0:Int)≤(i:Int))=true:=by simp
  have h1:decide ((i:Int)<(((a1p zn).length:Nat):Int))=true:=by rw[a1I];simp;omega
  have h2:decide ((0:Int)≤((zn[i]:Nat):Int))=true:=by simp
  have h3:decide (((zn[i]:Nat):Int)≤((l.length:Nat):Int))=true:=by simp;omega
  have hpart:(l.take zn[i]).length=zn[i]:=by rw[a07];omega
  have hrest:(l.drop zn[i]).length=(zn.drop (i+1)).sum:=by rw[a08];omega
  have hwp:(l.take zn[i]).all a0b=true:=lA.2 fun x hx=>lA.1 hw x (a47 hx);have hwr:(l.drop zn[i]).all a0b=true:=lA.2 fun x hx=>lA.1 hw x (a48 hx);have hpl:=b9V hkb (l.take zn[i]) L;have hp1:=a0D (wrap .u64 p.2.1[i]) 5 L;have hput:a0l (wL L,wrap .u64 p.2.1[i],(5:Int))=some (a8B (wrap .u64 p.2.1[i]) 5,wL (a0z (wrap .u64 p.2.1[i]) 5 L)):=a3J (n:=5) (by omega) (by omega);have ed:zn.drop i=zn[i]::zn.drop (i+1):=a03 hlt;have ek:p.2.1.drop i=p.2.1[i]::p.2.1.drop (i+1):=a03 hki;rw[ed,ek,a6C];have goal:a4Q (l,(zn.length:Int),(i:Int),a1p zn,wL L,p,())=some (.inl (l.drop zn[i],(zn.length:Int),((i+1:Nat):Int),a1p zn,wL (b2O p.2.1[i] (l.take zn[i]) L),p,())):=by
   by_cases h31:p.2.1[i]=31
   have hne:(p.2.1[i] != 31)=false:=by rw[h31];rfl
   have hwd:=a6H (l.take zn[i]);have hsw:=a2H (l:=l.take zn[i]) (by unfold short;omega);have hp2:=a0D ((a0n (l.take zn[i]):Nat):Int) 5 (a0z (wrap .u64 p.2.1[i]) 5 L);have ew:wrap .u64 ((a0n (l.take zn[i]):Nat):Int)=((a0n (l.take zn[i]):Nat):Int):=a0E (by omega);have hput2:a0l (wL (a0z (wrap .u64 p.2.1[i]) 5 L),((a0n (l.take zn[i]):Nat):Int),(5:Int))=some (a8B ((a0n (l.take zn[i]):Nat):Int) 5,wL (a0z ((a0n (l.take zn[i]):Nat):Int) 5 (a0z (wrap .u64 p.2.1[i]) 5 L))):=a3J (n:=5) (by omega) (by omega);have hraw:=c7z (part:=l.take zn[i]) (rest:=l.drop zn[i]) (a:=(zn.length:Int)) (b:=(i:Int)) (z:=a1p zn) (p:=p) hwd (by omega) (l.take zn[i]).length 0 (a0z ((a0n (l.take zn[i]):Nat):Int) 5 (a0z (wrap .u64 p.2.1[i]) 5 L)) (by omega) (by omega);simp only[nZ,a18]at hraw;simp only[a4Q,dlt hlt,h0,h1,a8D hlt,h2,h3,cT,a05,tN,a0c hki,oB,hput,hne,cF,hsw,ew,hput2,a25,hraw,a0h (show i<1000000 by omega),b2O,if_pos h31];have hne:(p.2.1[i] != 31)=true:=by simp[h31]
   simp only[kB,a26,bA,dT,beq_iff_eq]at hkb;obtain⟨K,hK⟩:=a01 (show 0≤p.2.1[i]by omega);have hrice:=c8N (k:=K) (l:=l.take zn[i]) (L:=a0z (wrap .u64 p.2.1[i]) 5 L) (by omega) (by omega) hwp (by omega);rw[←hK]at hrice;have eK:K=p.2.1[i].toNat:=by rw[hK,tN]
   simp only[a4Q,dlt hlt,h0,h1,a8D hlt,h2,h3,cT,a05,tN,a0c hki,oB,hput,hne,hrice,a25,a0h (show i<1000000 by omega),b2O,if_neg h31,eK]
  rw[a0t goal];exact b7h hk hall hz j (i+1) (l.drop zn[i]) _ (by omega) hrest.symm hwr (by rw[a08];omega) (by rw[a08];omega)
end Go.Ab
namespace Go.Ab
open IntKind(wrap)
theorem c4w{k:Nat}(hk:k≤25){x:Int}(hw:a0b x=true):∃c,a7F ((k:Int),x)=some c∧0≤c∧c≤65:=by
 have hy:=b2c hw;have eq:a0F .u64 ((a0v x:Nat):Int) (k:Int)=((a0v x / 2^k:Nat):Int):=a8C (by omega);have ew:wrap .i64 ((a0v x / 2^k:Nat):Int)=((a0v x / 2^k:Nat):Int):=b5d (a53 (a54 _ _) hy);have hk0:decide ((k:Int)<0)=false:=by simp
 unfold a7F;simp only[a9r hk,b1v,hw,oB,bT,cF,b1w hw,hk0,eq,ew];generalize a0v x / 2^k=q
 by_cases hq:q<32
 have hd:decide ((q:Int)<32)=true:=decide_eq_true (by omega);refine⟨(q:Int)+1+k,?_,by omega,by omega⟩;simp only[hd,cT];rw[a0g (n:=(q:Int)+1) (by omega),a0g (by omega)];have hd:decide ((q:Int)<32)=false:=decide_eq_false (by omega);exact⟨65,by simp only[hd,cF],by omega,by omega⟩
theorem c6a{k:Nat}(hk:k≤25){l:List Int}(hw:l.all a0b=true)(hl:l.length<10000):∃c,a3R ((k:Int),l)=some c∧0≤c∧c≤65*l.length:=by
 have key:∀(j i:Nat)(c:Int),i+j=l.length→0≤c→c≤65*i→∃c',a0j a4j ((k:Int),c,l,(l.length:Int),(i:Int),())=some (c',())∧0≤c'∧c'≤65*l.length:=by
  intro j
  induction j with
  |zero=>
   intro i c hi h0 h1;obtain rfl:i=l.length:=by omega
   exact⟨c,a0q (by simp[a4j]),h0,h1⟩
  |succ j ih=>
   intro i c hi h0 h1;have hlt:i<l.length:=by omega
   obtain⟨d,hd,hd0,hd1⟩:=c4w hk (lA.1 hw _ (a06 hlt));have e:wrap .i64 (c+d)=c+d:=a0g (by omega);rw[a0t (s':=((k:Int),c+d,l,(l.length:Int),((i+1:Nat):Int),())) (by simp only[a4j,dlt hlt,cT,a0c hlt,oB,hd,e,a0h (show i<1000000 by omega)])];exact ih (i+1) _ (by omega) (by omega) (by omega)
 obtain⟨c,h1,h2,h3⟩:=key l.length 0 0 (by omega) (by omega) (by omega);simp only[nZ]at h1;exact⟨c,by unfold a3R;simp only[h1,oB],h2,h3⟩
theorem d2h{w n:Nat}(hw:w≤32)(hn:n<10000):0≤(w:Int)*(n:Int)∧(w:Int)*(n:Int)≤32*n:=by
 have h:w*n≤32*n:=a46 _ hw;have e:(w:Int)*(n:Int)=((w*n:Nat):Int):=by rw[a79]
 omega
theorem c4x{l:List Int}(hl:l.length<10000):∃c,a5X l=some c∧0≤c∧c≤5+32*l.length:=by
 have hm:=d2h (a6H l) hl;refine⟨5+((a0n l:Nat):Int)*((l.length:Nat):Int),?_,by omega,by omega⟩;unfold a5X;simp only[a2H (show short l by unfold short;omega),oB];rw[a0g (n:=((a0n l:Nat):Int)*((l.length:Nat):Int)) (by omega),a0g (by omega)]
theorem b5F{zn:List Nat}{p:Prt}(hk:p.2.1.length=zn.length)(hall:p.2.1.all kB=true)(hz:zn.length≤256):∀(j i:Nat)(l:List Int)(c:Int),i+j=zn.length→(zn.drop i).sum=l.length→l.all a0b=true→l.length≤5000→4≤c→c+10*j+65*l.length<1000000→
  ∃c',a0j a1H (l,c,(zn.length:Int),(i:Int),a1p zn,p,())=some (c',())∧4≤c'
 |0,i,l,c,hi,_,_,_,hc,_=>by
  obtain rfl:i=zn.length:=by omega
  exact⟨c,a0q (by simp[a1H]),hc⟩
 |j+1,i,l,c,hi,hsum,hw,hl5,hc,hb=>by
  have hlt:i<zn.length:=by omega
  have hki:i<p.2.1.length:=by omega
  have hkb:=lA.1 hall _ (a06 hki);rw[b7U hlt]at hsum;have h0:decide ((0:Int)≤(i:Int))=true:=by simp
  have h1:decide ((i:Int)<(((a1p zn).length:Nat):Int))=true:=by rw[a1I];simp;omega
  have h2:decide ((0:Int)≤((zn[i]:Nat):Int))=true:=by simp
  have h3:decide (((zn[i]:Nat):Int)≤((l.length:Nat):Int))=true:=by simp;omega
  have hpart:(l.take zn[i]).length=zn[i]:=by rw[a07];omega
  have hrest:(l.drop zn[i]).length=(zn.drop (i+1)).sum:=by rw[a08];omega
  have hwp:(l.take zn[i]).all a0b=true:=lA.2 fun x hx=>lA.1 hw x (a47 hx);have hwr:(l.drop zn[i]).all a0b=true:=lA.2 fun x hx=>lA.1 hw x (a48 hx);have goal:∃d,a1H (l,c,(zn.length:Int),(i:Int),a1p zn,p,())=some (.inl (l.drop zn[i],c+d,(zn.length:Int),((i+1:Nat):Int),a1p zn,p,()))∧0≤d∧d≤10+65*zn[i]:=by
   by_cases h31:p.2.1[i]=31
   have hne:(p.2.1[i]==31)=true:=by rw[h31];rfl
   obtain⟨r,hr,hr0,hr1⟩:=c4x (l:=l.take zn[i]) (by omega);have e1:wrap .i64 (5+r)=5+r:=a0g (by omega);have e2:wrap .i64 (c+(5+r))=c+(5+r):=a0g (by omega);refine⟨5+r,?_,by omega,by omega⟩;simp only[a1H,dlt hlt,h0,h1,a8D hlt,h2,h3,cT,a05,tN,a0c hki,oB,hne,hr,e1,e2,a25,a0h (show i<1000000 by omega)];have hne:(p.2.1[i]==31)=false:=by simp[h31]
   simp only[kB,a26,bA,dT,beq_iff_eq]at hkb;obtain⟨K,hK⟩:=a01 (show 0≤p.2.1[i]by omega);obtain⟨r,hr,hr0,hr1⟩:=c6a (k:=K) (by omega) hwp (by omega);rw[←hK]at hr;have e1:wrap .i64 (5+r)=5+r:=a0g (by omega);have e2:wrap .i64 (c+(5+r))=c+(5+r):=a0g (by omega);refine⟨5+r,?_,by omega,by omega⟩;simp only[a1H,dlt hlt,h0,h1,a8D hlt,h2,h3,cT,cF,a05,tN,a0c hki,oB,hne,hr,e1,e2,a25,a0h (show i<1000000 by omega)]
  obtain⟨d,hd,hd0,hd1⟩:=goal;rw[a0t hd];exact b5F hk hall hz j (i+1) (l.drop zn[i]) _ (by omega) hrest.symm hwr (by rw[a08];omega) (by omega) (by rw[a08];omega)
structure PartsOk (p:Prt) (n warm:Int) (l:List Int) (zn:List Nat):Prop where
 may:a5Q p n warm=true
 sizes:a1z p.1 n warm=a1p zn
 sum:zn.sum=l.length
 len:zn.length≤256
 ks:p.2.1.length=zn.length
 all:p.2.1.all kB=true
 wide:l.all a0b=true
 short:l.length≤5000
 row:a5Z n warm=true
 rest:(l.length:Int)=n-warm
 order:0≤p.1∧p.1≤8
theorem PartsOk.of{p:Prt}{n warm:Int}{l:List Int}(h:a5Q p n warm=true)(hl:(l.length:Int)=n-warm)(hw:l.all a0b=true)(h5:l.length≤5000):∃zn,PartsOk p n warm l zn:=by
 have h':=h;simp only[a5Q,bA,a34,beq_eq_false_iff_ne,ne_eq,beq_iff_eq]at h';obtain⟨h1,h2,h3⟩:=h';obtain⟨zn,g1,g2,g3⟩:=b6t h1;have hr:a5Z n warm=true∧0≤p.1∧p.1≤8:=by
  unfold a1z at h1;cases hr:(a5Z n warm&&(decide (0≤p.1)&&decide (p.1≤8)))with
  |false=>rw[hr]at h1;simp at h1
  |true=>simpa using hr
 exact⟨zn,h,g1,by omega,g3,by rw[←h2,g1,a1I],h3,hw,h5,hr.1,hl,hr.2⟩
theorem b2d{n warm:Int}{l:List Int}(hr:a5Z n warm=true)(hl:(l.length:Int)=n-warm)(hw:l.all a0b=true)(h5:l.length≤5000):a7l (n,warm,l)=some true:=by
 have e:wrap .i64 (n-warm)=n-warm:=by
  simp only[a5Z,bA,dT]at hr;exact a0g (by omega)
 have h1:(((l.length:Nat):Int) != n-warm)=false:=by rw[hl];simp
 have e2:b4J=a2X:=rfl;have hs:short l:=by unfold short;omega
 have ha:=a6y hs;unfold a2q at ha;unfold a7l;simp only[b4Z,hr,oB,bT,cF,e,h1,e2];rw[hw]at ha;exact ha
theorem c3k{p:Prt}{n warm:Int}{l:List Int}{zn:List Nat}(h:PartsOk p n warm l zn):∃c,a4W (p,n,warm,l)=some c∧4≤c:=by
 have hk:Go.Ab.short p.2.1:=by have:=h.ks;have:=h.len;unfold Go.Ab.short;omega
 have h5:=h.short;have hz:=h.len;obtain⟨c,h1,h2⟩:=b5F h.ks h.all h.len zn.length 0 l 4 (by omega) (by rw[a18];exact h.sum) h.wide h.short (by omega) (by omega);simp only[nZ]at h1;refine⟨c,?_,h2⟩;unfold a4W;simp only[b5a hk,h.may,b2d h.row h.rest h.wide h.short,oB,bT,cF,a2t,h.sizes,a1I,h1]
def a6I(p:Prt)(zn:List Nat)(l L:List Int):List Int:=a6C zn p.2.1 l (a0z (wrap .u64 p.1) 4 L)
theorem c7A{p:Prt}{n warm:Int}{l L:List Int}{zn:List Nat}(h:PartsOk p n warm l zn)(hL:L.length<700000000):b2z (wL L,p,n,warm,l)=some (0,wL (a6I p zn l L)):=by
 have h5:=h.short;have hz:=h.len;obtain⟨c,hc,hc4⟩:=c3k h;have hne:(c==0)=false:=by simp only[beq_eq_false_iff_ne,ne_eq];omega
 have hpl:=a0D (wrap .u64 p.1) 4 L;have hput:a0l (wL L,wrap .u64 p.1,(4:Int))=some (a8B (wrap .u64 p.1) 4,wL (a0z (wrap .u64 p.1) 4 L)):=a3J (n:=4) (by omega) (by omega);have hloop:=b7h h.ks h.all h.len zn.length 0 l (a0z (wrap .u64 p.1) 4 L) (by omega) (by rw[a18];exact h.sum) h.wide h.short (by omega);simp only[nZ,a18]at hloop;unfold b2z;simp only[hc,oB,hne,cF,hput,a2t,h.sizes,a1I,hloop,a6I]
end Go.Ab
namespace Go.Ab
open IntKind(wrap)
theorem c3l{c:List Int}{wd:Nat}(hw:wd≤32)(hc:c.length<10000):∀(j i:Nat)(L:List Int),i+j=c.length→L.length+64*j<999990000→
  a0j a6f ((wd:Int),c,(c.length:Int),(i:Int),wL L,())=some (wL (a2U wd (c.drop i) L),())
 |0,i,L,hi,_=>by
  obtain rfl:i=c.length:=by omega
  rw[a23];exact a0q (by simp[a6f,a2U])
 |j+1,i,L,hi,hb=>by
  have hlt:i<c.length:=by omega
  have hpl:=a0D (a0N c[i] wd) wd L;rw[a03 hlt,a0t (s':=((wd:Int),c,(c.length:Int),((i+1:Nat):Int),wL (a0z (a0N c[i] wd) wd L),())) (by
   simp only[a6f,dlt hlt,cT,a0c hlt,oB,b5c (show wd≤63 by omega) (show L.length<999999000 by omega),a0h (show i<1000000 by omega)])]
  exact c3l hw hc j (i+1) _ (by omega) (by omega)
theorem c5q{t:List Int}{n wd:Int}{s:Sub}(ht:t.length=3):∀(j i:Nat)(L:List Int),i+j=3→L.length+64*j<999990000→
  a0j b1f (n,wd,t,(i:Int),wL L,s,())=some (n,wd,wL (a2U 8 (t.drop i) L),s,())
 |0,i,L,hi,_=>by
  obtain rfl:i=t.length:=by omega
  rw[a23];exact a0q (by rw[ht];simp[b1f,a2U])
 |j+1,i,L,hi,hb=>by
  have hlt:i<t.length:=by omega
  have h3:decide ((i:Int)<3)=true:=by simp;omega
  have hpl:=a0D (a0N t[i] 8) 8 L;have hps:a3m (wL L,t[i],(8:Int))=some (wL (a0z (a0N t[i] 8) 8 L)):=b5c (n:=8) (by omega) (by omega);rw[a03 hlt,a0t (s':=(n,wd,t,((i+1:Nat):Int),wL (a0z (a0N t[i] 8) 8 L),s,())) (by
   simp only[b1f,h3,cT,a0c hlt,oB,hps,a0h (show i<1000000 by omega)])]
  exact c5q ht j (i+1) _ (by omega) (by omega)
theorem c5r{l:List Int}{n:Int}{wd:Nat}{s:Sub}(hw:wd≤32)(hl:l.length<10000):∀(j i:Nat)(L:List Int),i+j=l.length→L.length+64*j<999990000→
  a0j b1h (n,(wd:Int),l,(l.length:Int),(i:Int),wL L,s,())=some (n,wL (a2U wd (l.drop i) L),s,())
 |0,i,L,hi,_=>by
  obtain rfl:i=l.length:=by omega
  rw[a23];exact a0q (by simp[b1h,a2U])
 |j+1,i,L,hi,hb=>by
  have hlt:i<l.length:=by omega
  have hpl:=a0D (a0N l[i] wd) wd L;rw[a03 hlt,a0t (s':=(n,(wd:Int),l,(l.length:Int),((i+1:Nat):Int),wL (a0z (a0N l[i] wd) wd L),s,())) (by
   simp only[b1h,dlt hlt,cT,a0c hlt,oB,b5c (show wd≤63 by omega) (show L.length<999999000 by omega),a0h (show i<1000000 by omega)])]
  exact c5r hw hl j (i+1) _ (by omega) (by omega)
def b1x(s:Stg)(L:List Int):List Int:=a0z (wrap .u64 s.2.1) 4 (a0z (wrap .u64 (wrap .i64 (s.1-1))) 5 L)
def a6D(st:List Stg)(L:List Int):List Int:=st.foldl (fun L s=>b1x s L) L
theorem b8D(s:Stg)(L:List Int):(b1x s L).length≤L.length+9:=by
 have h1:=a0D (wrap .u64 (wrap .i64 (s.1-1))) 5 L;have h2:=a0D (wrap .u64 s.2.1) 4 (a0z (wrap .u64 (wrap .i64 (s.1-1))) 5 L);unfold b1x;omega
theorem b7i:∀(st:List Stg)(L:List Int),(a6D st L).length≤L.length+9*st.length
 | [],L=>by simp[a6D]
 |s::st,L=>by
  have h1:=b8D s L;have h2:=b7i st (b1x s L);have e:a6D (s::st) L=a6D st (b1x s L):=rfl;rw[e,lC];omega
theorem c1o{st:List Stg}{n wd:Int}{s:Sub}(hs:st.length<10000):∀(j i:Nat)(L:List Int),i+j=st.length→L.length+64*j<999990000→
  a0j b1g (n,wd,st,(st.length:Int),(i:Int),wL L,s,())=some (n,wd,wL (a6D (st.drop i) L),s,())
 |0,i,L,hi,_=>by
  obtain rfl:i=st.length:=by omega
  rw[a23];exact a0q (by simp[b1g,a6D])
 |j+1,i,L,hi,hb=>by
  have hlt:i<st.length:=by omega
  have hp1:=a0D (wrap .u64 (wrap .i64 (st[i].1-1))) 5 L;have hsl:=b8D st[i] L;have h1:a0l (wL L,wrap .u64 (wrap .i64 (st[i].1-1)),(5:Int))=some (a8B (wrap .u64 (wrap .i64 (st[i].1-1))) 5,wL (a0z (wrap .u64 (wrap .i64 (st[i].1-1))) 5 L)):=a3J (n:=5) (by omega) (by omega);have h2:a0l (wL (a0z (wrap .u64 (wrap .i64 (st[i].1-1))) 5 L),wrap .u64 st[i].2.1,(4:Int))=some (a8B (wrap .u64 st[i].2.1) 4,wL (b1x st[i] L)):=a3J (n:=4) (by omega) (by omega);rw[a03 hlt,a0t (s':=(n,wd,st,(st.length:Int),((i+1:Nat):Int),wL (b1x st[i] L),s,())) (by
   simp only[b1g,dlt hlt,cT,a0c hlt,oB,h1,h2,a0h (show i<1000000 by omega)])]
  exact c1o hs j (i+1) _ (by omega) (by omega)
def a9F(s:Sub)(L:List Int):List Int:=
 a2U (a0n s.2.2.2.2.2.1) s.2.2.2.2.2.1 (a0z ((a0n s.2.2.2.2.2.1:Nat):Int) 5 (a0z (wrap .u64 s.2.2.2.1) 4 (a0z (wrap .u64 (wrap .i64 (((s.2.2.2.2.2.1.length:Nat):Int)-1))) 5 L)))
theorem b8E{s:Sub}(h:s.2.2.2.2.2.1.length≤40)(L:List Int):(a9F s L).length≤L.length+2000:=by
 unfold a9F;have h1:=a0D (wrap .u64 (wrap .i64 (((s.2.2.2.2.2.1.length:Nat):Int)-1))) 5 L;have h2:=a0D (wrap .u64 s.2.2.2.1) 4 (a0z (wrap .u64 (wrap .i64 (((s.2.2.2.2.2.1.length:Nat):Int)-1))) 5 L);have h3:=a0D ((a0n s.2.2.2.2.2.1:Nat):Int) 5 (a0z (wrap .u64 s.2.2.2.1) 4 (a0z (wrap .u64 (wrap .i64 (((s.2.2.2.2.2.1.length:Nat):Int)-1))) 5 L));have h4:=a6B (a0n s.2.2.2.2.2.1) s.2.2.2.2.2.1 (a0z ((a0n s.2.2.2.2.2.1:Nat):Int) 5 (a0z (wrap .u64 s.2.2.2.1) 4 (a0z (wrap .u64 (wrap .i64 (((s.2.2.2.2.2.1.length:Nat):Int)-1))) 5 L)));have hw:=a6H s.2.2.2.2.2.1
 have:a0n s.2.2.2.2.2.1*s.2.2.2.2.2.1.length≤32*40:=a90 hw h
 omega
theorem c1p{s:Sub}(h:s.2.2.2.2.2.1.length≤40){L:List Int}(hL:L.length<900000000):a8V (wL L,s)=some (wL (a9F s L)):=by
 have h1:=a0D (wrap .u64 (wrap .i64 (((s.2.2.2.2.2.1.length:Nat):Int)-1))) 5 L;have h2:=a0D (wrap .u64 s.2.2.2.1) 4 (a0z (wrap .u64 (wrap .i64 (((s.2.2.2.2.2.1.length:Nat):Int)-1))) 5 L);have h3:=a0D ((a0n s.2.2.2.2.2.1:Nat):Int) 5 (a0z (wrap .u64 s.2.2.2.1) 4 (a0z (wrap .u64 (wrap .i64 (((s.2.2.2.2.2.1.length:Nat):Int)-1))) 5 L));have hw:=a6H s.2.2.2.2.2.1;have ew:wrap .u64 ((a0n s.2.2.2.2.2.1:Nat):Int)=((a0n s.2.2.2.2.2.1:Nat):Int):=a0E (by omega);have p1:a0l (wL L,wrap .u64 (wrap .i64 (((s.2.2.2.2.2.1.length:Nat):Int)-1)),(5:Int))=some (a8B (wrap .u64 (wrap .i64 (((s.2.2.2.2.2.1.length:Nat):Int)-1))) 5,wL (a0z (wrap .u64 (wrap .i64 (((s.2.2.2.2.2.1.length:Nat):Int)-1))) 5 L)):=a3J (n:=5) (by omega) (by omega);have p2:a0l (wL (a0z (wrap .u64 (wrap .i64 (((s.2.2.2.2.2.1.length:Nat):Int)-1))) 5 L),wrap .u64 s.2.2.2.1,(4:Int))=some (a8B (wrap .u64 s.2.2.2.1) 4,wL (a0z (wrap .u64 s.2.2.2.1) 4 (a0z (wrap .u64 (wrap .i64 (((s.2.2.2.2.2.1.length:Nat):Int)-1))) 5 L))):=a3J (n:=4) (by omega) (by omega);have p3:a0l (wL (a0z (wrap .u64 s.2.2.2.1) 4 (a0z (wrap .u64 (wrap .i64 (((s.2.2.2.2.2.1.length:Nat):Int)-1))) 5 L)),((a0n s.2.2.2.2.2.1:Nat):Int),(5:Int))=some (a8B ((a0n s.2.2.2.2.2.1:Nat):Int) 5,wL (a0z ((a0n s.2.2.2.2.2.1:Nat):Int) 5 (a0z (wrap .u64 s.2.2.2.1) 4 (a0z (wrap .u64 (wrap .i64 (((s.2.2.2.2.2.1.length:Nat):Int)-1))) 5 L)))):=a3J (n:=5) (by omega) (by omega);have hlp:=c3l (c:=s.2.2.2.2.2.1) hw (by omega) s.2.2.2.2.2.1.length 0 (a0z ((a0n s.2.2.2.2.2.1:Nat):Int) 5 (a0z (wrap .u64 s.2.2.2.1) 4 (a0z (wrap .u64 (wrap .i64 (((s.2.2.2.2.2.1.length:Nat):Int)-1))) 5 L))) (by omega) (by omega);simp only[nZ,a18]at hlp;unfold a8V;simp only[p1,p2,a2H (show short s.2.2.2.2.2.1 by unfold short;omega),ew,p3,hlp,oB,a9F]
def b5G(s:Sub)(L:List Int):List Int:=
 a0z ((a0n s.2.2.2.2.2.2.2.2.1:Nat):Int) 5 (a0z (wrap .u64 s.2.1) 5 (a0z (wrap .u64 s.1) 3 L))
def a3X(s:Sub)(L:List Int):List Int:=
 if s.1=2 then a0z (wrap .u64 s.2.2.1) 3 L
 else if s.1=3 then a9F s L
 else if s.1=4 then a9F s (a2U 8 s.2.2.2.2.2.2.1 (a0z (wrap .u64 (wrap .i64 (s.2.2.2.2.1-1))) 10 L))
 else if s.1=5 then a6D s.2.2.2.2.2.2.2.1 (a0z (wrap .u64 ((s.2.2.2.2.2.2.2.1.length:Nat):Int)) 2 L)
 else L
theorem c7B{s:Sub}(h:SmallS s)(L:List Int):(a3X s L).length≤L.length+3000:=by
 have hc:=h.coefs;have ht:=h.taps;have hst:=h.stages;unfold a3X;split
 have:=a0D (wrap .u64 s.2.2.1) 3 L;omega
 split
 have:=b8E hc L;omega
 split;have h1:=a0D (wrap .u64 (wrap .i64 (s.2.2.2.2.1-1))) 10 L;have h2:=a6B 8 s.2.2.2.2.2.2.1 (a0z (wrap .u64 (wrap .i64 (s.2.2.2.2.1-1))) 10 L);have h3:=b8E hc (a2U 8 s.2.2.2.2.2.2.1 (a0z (wrap .u64 (wrap .i64 (s.2.2.2.2.1-1))) 10 L));omega;split;have h1:=a0D (wrap .u64 ((s.2.2.2.2.2.2.2.1.length:Nat):Int)) 2 L;have h2:=b7i s.2.2.2.2.2.2.2.1 (a0z (wrap .u64 ((s.2.2.2.2.2.2.2.1.length:Nat):Int)) 2 L);omega;omega
theorem b8F:∀(zs:List Nat)(ks l L:List Int),ks.all kB=true→(a6C zs ks l L).length≤L.length+10*zs.length+100*l.length
 |z::zs,k::ks,l,L,h=>by
  simp only[a09,bA]at h;have h1:=b9V h.1 (l.take z) L;have h2:=b8F zs ks (l.drop z) (b2O k (l.take z) L) h.2;rw[a07]at h1;rw[a08]at h2;simp only[a6C,lC];omega
 | [],_,_,_,_=>by simp only[a6C];omega
 |_::_,[],_,_,_=>by simp only[a6C];omega
def a7I(s:Sub)(zn:List Nat)(L:List Int):List Int:=
 if s.1=0∨s.1=1 then a2U (a0n s.2.2.2.2.2.2.2.2.1) s.2.2.2.2.2.2.2.2.1 (a3X s (b5G s L))
 else a6I s.2.2.2.2.2.2.2.2.2.1 zn s.2.2.2.2.2.2.2.2.2.2.1 (a2U (a0n s.2.2.2.2.2.2.2.2.1) s.2.2.2.2.2.2.2.2.1 (a3X s (b5G s L)))
theorem c3m{s:Sub}(h:SmallS s){n:Int}{L:List Int}(hL:L.length<100000000):
  ∃(e:Int)(L':List Int),b0A (wL L,s,n)=some (e,wL L')∧(e=0∨L'=L)∧L'.length≤L.length+700000∧
   ((a3q s n).isSome=true→e=0∧∃zn,L'=a7I s zn L∧(s.1≠0∧s.1≠1→PartsOk s.2.2.2.2.2.2.2.2.2.1 n ((s.2.2.2.2.2.2.2.2.1.length:Nat):Int) s.2.2.2.2.2.2.2.2.2.2.1 zn))∧((a3q s n).isSome=false→e=1∧L'=L):=by
 unfold b0A;simp only[c3h h,oB];cases hs:(a3q s n).isSome with
 |false=>exact⟨1,L,rfl,.inr rfl,by omega,fun h=>(by cases h),fun _=>⟨rfl,rfl⟩⟩
 |true=>
  have hp:a1F s n:=by
   unfold a3q at hs
   split at hs
   assumption
   cases hs
  obtain⟨h1,h2,hf,-,-,-,-,hlen,hww,hrw,-,hparts⟩:=hp;have hkind:=d2f hf;have hwd:=a6H s.2.2.2.2.2.2.2.2.1;have hsw:short s.2.2.2.2.2.2.2.2.1:=by have:=h.warm;unfold short;omega
  have hwarm:=h.warm;have hrest:=h.rest;have hst:=h.stages;have ht:=h.taps;have q1:=a0D (wrap .u64 s.1) 3 L;have q2:=a0D (wrap .u64 s.2.1) 5 (a0z (wrap .u64 s.1) 3 L);have q3:=a0D ((a0n s.2.2.2.2.2.2.2.2.1:Nat):Int) 5 (a0z (wrap .u64 s.2.1) 5 (a0z (wrap .u64 s.1) 3 L));have ew:wrap .u64 ((a0n s.2.2.2.2.2.2.2.2.1:Nat):Int)=((a0n s.2.2.2.2.2.2.2.2.1:Nat):Int):=a0E (by omega);have p1:a0l (wL L,wrap .u64 s.1,(3:Int))=some (a8B (wrap .u64 s.1) 3,wL (a0z (wrap .u64 s.1) 3 L)):=a3J (n:=3) (by omega) (by omega);have p2:a0l (wL (a0z (wrap .u64 s.1) 3 L),wrap .u64 s.2.1,(5:Int))=some (a8B (wrap .u64 s.2.1) 5,wL (a0z (wrap .u64 s.2.1) 5 (a0z (wrap .u64 s.1) 3 L))):=a3J (n:=5) (by omega) (by omega);have p3:a0l (wL (a0z (wrap .u64 s.2.1) 5 (a0z (wrap .u64 s.1) 3 L)),((a0n s.2.2.2.2.2.2.2.2.1:Nat):Int),(5:Int))=some (a8B ((a0n s.2.2.2.2.2.2.2.2.1:Nat):Int) 5,wL (b5G s L)):=a3J (n:=5) (by omega) (by omega);have q4:(b5G s L).length≤L.length+13:=by unfold b5G;omega
  generalize hM:b5G s L=M at p3 q4;have q5:=c7B h M;have q6:=a6B (a0n s.2.2.2.2.2.2.2.2.1) s.2.2.2.2.2.2.2.2.1 (a3X s M);have q7:a0n s.2.2.2.2.2.2.2.2.1*s.2.2.2.2.2.2.2.2.1.length≤32*5000:=a90 hwd hwarm;have hwl:=c5r (l:=s.2.2.2.2.2.2.2.2.1) (n:=n) (s:=s) hwd (by omega) s.2.2.2.2.2.2.2.2.1.length 0 (a3X s M) (by omega) (by omega);simp only[nZ,a18]at hwl

  have hsl:=c1o (st:=s.2.2.2.2.2.2.2.1) (n:=n) (wd:=((a0n s.2.2.2.2.2.2.2.2.1:Nat):Int)) (s:=s) (by omega) s.2.2.2.2.2.2.2.1.length 0 (a0z (wrap .u64 ((s.2.2.2.2.2.2.2.1.length:Nat):Int)) 2 M) (by omega) (by have:=a0D (wrap .u64 ((s.2.2.2.2.2.2.2.1.length:Nat):Int)) 2 M;omega);have q8:=a0D (wrap .u64 (wrap .i64 (s.2.2.2.2.1-1))) 10 M;have q9:=a6B 8 s.2.2.2.2.2.2.1 (a0z (wrap .u64 (wrap .i64 (s.2.2.2.2.1-1))) 10 M);have htl:=c5q (t:=s.2.2.2.2.2.2.1) (n:=n) (wd:=((a0n s.2.2.2.2.2.2.2.2.1:Nat):Int)) (s:=s) ht 3 0 (a0z (wrap .u64 (wrap .i64 (s.2.2.2.2.1-1))) 10 M) (by omega) (by omega);simp only[nZ,a18]at hsl htl;have k2:a0l (wL M,wrap .u64 s.2.2.1,(3:Int))=some (a8B (wrap .u64 s.2.2.1) 3,wL (a0z (wrap .u64 s.2.2.1) 3 M)):=a3J (n:=3) (by omega) (by omega);have k4:a0l (wL M,wrap .u64 (wrap .i64 (s.2.2.2.2.1-1)),(10:Int))=some (a8B (wrap .u64 (wrap .i64 (s.2.2.2.2.1-1))) 10,wL (a0z (wrap .u64 (wrap .i64 (s.2.2.2.2.1-1))) 10 M)):=a3J (n:=10) (by omega) (by omega);have k5:a0l (wL M,wrap .u64 ((s.2.2.2.2.2.2.2.1.length:Nat):Int),(2:Int))=some (a8B (wrap .u64 ((s.2.2.2.2.2.2.2.1.length:Nat):Int)) 2,wL (a0z (wrap .u64 ((s.2.2.2.2.2.2.2.1.length:Nat):Int)) 2 M)):=a3J (n:=2) (by omega) (by omega);have c3:=c1p (s:=s) h.coefs (L:=M) (by omega);have c4:=c1p (s:=s) h.coefs (L:=a2U 8 s.2.2.2.2.2.2.1 (a0z (wrap .u64 (wrap .i64 (s.2.2.2.2.1-1))) 10 M)) (by omega);simp only[bT,cF,a2H hsw,oB,p1,p2,ew,p3];generalize hPM:a2U (a0n s.2.2.2.2.2.2.2.2.1) s.2.2.2.2.2.2.2.2.1 (a3X s M)=PM at hwl q6

  have tail:∀(hk01:s.1≠0∧s.1≠1),∃zn,PartsOk s.2.2.2.2.2.2.2.2.2.1 n ((s.2.2.2.2.2.2.2.2.1.length:Nat):Int) s.2.2.2.2.2.2.2.2.2.2.1 zn:=fun hk01=>by
   obtain⟨g1,g2⟩:=hparts hk01;rw[←hlen]at g1 g2;exact PartsOk.of g2 g1 hrw (by omega)
  rcases hkind with k|k|k|k|k|k;have kl:a3X s M=M:=by unfold a3X;simp[k]
  rw[kl]at hwl;refine⟨0,PM,?_,.inl rfl,by omega,fun _=>⟨rfl,[],by unfold a7I;rw[if_pos (by omega),hM,hPM],fun h=>absurd k (by omega)⟩,fun h=>by cases h⟩;simp only[k,show((0:Int)==2)=false from rfl,show((0:Int)==4)=false from rfl,show((0:Int)==3)=false from rfl,show((0:Int)==5)=false from rfl,cF,oB,hwl,a6G]
  simp
  have kl:a3X s M=M:=by unfold a3X;simp[k]
  rw[kl]at hwl;refine⟨0,PM,?_,.inl rfl,by omega,fun _=>⟨rfl,[],by unfold a7I;rw[if_pos (by omega),hM,hPM],fun h=>absurd k (by omega)⟩,fun h=>by cases h⟩;simp only[k,show((1:Int)==2)=false from rfl,show((1:Int)==4)=false from rfl,show((1:Int)==3)=false from rfl,show((1:Int)==5)=false from rfl,cF,oB,hwl,a6G]
  simp
  all_goals
   obtain⟨zn,hz⟩:=tail (by omega);have t1:=c7A (L:=PM) hz (by omega);have t3:(a6I s.2.2.2.2.2.2.2.2.2.1 zn s.2.2.2.2.2.2.2.2.2.2.1 PM).length≤L.length+700000:=by
    have z1:=a0D (wrap .u64 s.2.2.2.2.2.2.2.2.2.1.1) 4 PM;have z2:=b8F zn s.2.2.2.2.2.2.2.2.2.1.2.1 s.2.2.2.2.2.2.2.2.2.2.1 (a0z (wrap .u64 s.2.2.2.2.2.2.2.2.2.1.1) 4 PM) hz.all;have z3:=hz.len;unfold a6I;omega
   refine⟨0,a6I s.2.2.2.2.2.2.2.2.2.1 zn s.2.2.2.2.2.2.2.2.2.2.1 PM,?_,.inl rfl,t3,fun _=>⟨rfl,zn,by unfold a7I;rw[if_neg (by omega),hM,hPM],fun _=>hz⟩,fun h=>by cases h⟩
  have kl:a3X s M=a0z (wrap .u64 s.2.2.1) 3 M:=by unfold a3X;simp[k]
  rw[kl]at hwl;simp only[k,show((2:Int)==2)=true from rfl,cT,k2,oB,hwl,a6G];simp[t1];have kl:a3X s M=a9F s M:=by unfold a3X;simp[k]
  rw[kl]at hwl;simp only[k,show((3:Int)==2)=false from rfl,show((3:Int)==4)=false from rfl,show((3:Int)==3)=true from rfl,cT,cF,c3,oB,hwl,a6G];simp[t1];have kl:a3X s M=a9F s (a2U 8 s.2.2.2.2.2.2.1 (a0z (wrap .u64 (wrap .i64 (s.2.2.2.2.1-1))) 10 M)):=by unfold a3X;simp[k]
  rw[kl]at hwl;simp only[k,show((4:Int)==2)=false from rfl,show((4:Int)==4)=true from rfl,cT,cF,k4,htl,c4,oB,hwl,a6G];simp[t1];have kl:a3X s M=a6D s.2.2.2.2.2.2.2.1 (a0z (wrap .u64 ((s.2.2.2.2.2.2.2.1.length:Nat):Int)) 2 M):=by unfold a3X;simp[k]
  rw[kl]at hwl;simp only[k,show((5:Int)==2)=false from rfl,show((5:Int)==4)=false from rfl,show((5:Int)==3)=false from rfl,show((5:Int)==5)=true from rfl,cT,cF,k5,hsl,oB,hwl,a6G];simp[t1]
theorem b2P(zn:List Nat):(a1p zn).map a39=zn:=by
 unfold a1p;rw[List.map_map]
 have:a39∘(fun(a:Nat)=>(a:Int))=id:=by funext a;simp
 rw[this,List.map_id]
end Go.Ab
namespace Go.Ab
end Go.Ab
namespace Go.Ab
def c3n(s:Sub)(n:Int):Int:=
 if(a3q s n).isSome=true then(((a7I s ((a1z s.2.2.2.2.2.2.2.2.2.1.1 n ((s.2.2.2.2.2.2.2.2.1.length:Nat):Int)).map a39) []).length:Nat):Int)else 0
theorem c9n{s:Sub}{n:Int}{zn:List Nat}(hz:s.1≠0∧s.1≠1→PartsOk s.2.2.2.2.2.2.2.2.2.1 n ((s.2.2.2.2.2.2.2.2.1.length:Nat):Int) s.2.2.2.2.2.2.2.2.2.2.1 zn)(L:List Int):
  a7I s zn L=a7I s ((a1z s.2.2.2.2.2.2.2.2.2.1.1 n ((s.2.2.2.2.2.2.2.2.1.length:Nat):Int)).map a39) L:=by
 by_cases hk:s.1=0∨s.1=1
 unfold a7I;rw[if_pos hk,if_pos hk];rw[(hz (not_or.1 hk)).sizes,b2P]
theorem d5r{s:Sub}(h:SmallS s)(n:Int):a4y (s,n)=some (c3n s n):=by
 obtain⟨e,L',h1,-,-,h4,h5⟩:=c3m h (n:=n) (L:=[]) (by simp);have hw:wL []=(([]:List Int),(0:Int),()):=rfl;rw[hw]at h1;obtain⟨w1,-⟩:=a6a L';unfold a4y c3n;simp only[h1,oB,a9n];cases hs:(a3q s n).isSome with
 |false=>
  obtain⟨rfl,rfl⟩:=h5 hs;rfl
 |true=>
  obtain⟨rfl,zn,rfl,hz⟩:=h4 hs;rw[if_pos rfl,←c9n hz];simp only[w1,show((0:Int) != 0)=false from rfl,cF]
end Go.Ab
namespace Go.Ab
end Go.Ab
namespace Go.Ab
open IntKind(wrap)
def dif:List Int→List Int
 |a::b::r=>W (b-a)::dif (b::r)
 |_=>[]
theorem a5R:∀l:List Int,(dif l).length=l.length-1
 | []=>rfl
 | [_]=>rfl
 |a::b::r=>by simp[dif,a5R (b::r)]
theorem c4y:∀(l:List Int)(i:Nat)(x y:Int),l[i]?=some x→l[i+1]?=some y→(dif l)[i]?=some (W (y-x))
 |a::b::r,0,x,y,h1,h2=>by simp at h1 h2;subst h1;subst h2;rfl
 |a::b::r,i+1,x,y,h1,h2=>by
  simp only[dif,List.getElem?_cons_succ]at h1 h2⊢;exact c4y (b::r) i x y h1 h2
 | [_],0,x,y,h1,h2=>by simp at h2
 | [_],i+1,x,y,h1,h2=>by simp at h1
 | [],i,x,y,h1,h2=>by simp at h1
def a2i:Nat→List Int→List Int
 |0,l=>l
 |o+1,l=>dif (a2i o l)
theorem a7J(l:List Int):∀o,(a2i o l).length=l.length-o
 |0=>rfl
 |o+1=>by simp only[a2i,a5R,a7J l o];omega
theorem b7V{l:List Int}(h:short l)(o:Nat):short (a2i o l):=by
 have h:l.length<1000000:=h;show(a2i o l).length<1000000;rw[a7J];omega
def b1y(l:List Int)(i:Nat):List Int:=(dif l).take i++l.drop i
theorem b6u{l:List Int}{i:Nat}(h:i≤l.length-1):(b1y l i).length=l.length:=by
 simp only[b1y,lN,a07,a08,a5R];omega
theorem c5s{l:List Int}{i j:Nat}(h:i≤l.length-1)(hj:i≤j):(b1y l i).getD j 0=l.getD j 0:=by
 have e:((dif l).take i).length=i:=by rw[a07,a5R];omega
 rw[lD,lD,b1y,a24 (by omega),e,a97];congr 2;omega
theorem d3E{l:List Int}{i:Nat}(h:i<l.length-1):(b1y l i).set i (W (l.getD (i+1) 0-l.getD i 0))=b1y l (i+1):=by
 have e:((dif l).take i).length=i:=by rw[a07,a5R];omega
 have h1:l[i]?=some l[i]:=lG (by omega);have h2:l[i+1]?=some l[i+1]:=lG (by omega);have hd:=c4y l i _ _ h1 h2;have hlt:i<(dif l).length:=by rw[a5R];omega
 simp only[b1y];rw[List.set_append,if_neg (by omega),e,Nat.sub_self,a03 (show i<l.length by omega),List.set_cons_zero,a49 hlt,aA];have e2:(dif l)[i]=W (l.getD (i+1) 0-l.getD i 0):=by
  rw[lG hlt]at hd;rw[Option.some.inj hd,lD,lD,h1,h2];rfl
 rw[e2];rfl
theorem d0S{l:List Int}{o k:Int}(hs:short l)(h:1≤l.length):a0j a5N ((0:Int),o,k,l,())=some (o,k,b1y l (l.length-1),()):=by
 have hs:l.length<1000000:=hs;have h0:b1y l 0=l:=by simp[b1y]
 have:=a3W (f:=a5N) (fun i:Nat=>((i:Int),o,k,b1y l i,())) (l.length-1) (b:=(o,k,b1y l (l.length-1),()))
  (fun i hi=>by
   have w1:wrap .i64 ((i:Int)+1)=((i+1:Nat):Int):=a0h (by omega);have hl:=b6u (l:=l) (i:=i) (by omega);have d0:decide (((i+1:Nat):Int)<((l.length:Nat):Int))=true:=by simp;omega
   have d1:decide ((0:Int)≤((i+1:Nat):Int))=true:=by simp;omega
   have d2:decide ((0:Int)≤(i:Int))=true:=by simp
   have d3:decide ((i:Int)<((l.length:Nat):Int))=true:=by simp;omega
   have n1:a39 ((i+1:Nat):Int)=i+1:=by omega
   have n2:a39 (i:Int)=i:=by omega
   have st:=d3E (l:=l) (i:=i) (by omega);have g1:=c5s (l:=l) (i:=i) (j:=i+1) (by omega) (by omega);have g2:=c5s (l:=l) (i:=i) (j:=i) (by omega) (by omega);simp only[W]at st;simp only[a5N,w1,hl,d0,d1,d2,d3,n1,n2,g1,g2,st,a05,cT])
  (by
   have hl:=b6u (l:=l) (i:=l.length-1) (by omega);have w1:wrap .i64 (((l.length-1:Nat):Int)+1)=((l.length:Nat):Int):=by rw[a0g (by omega)];omega
   have d0:decide (((l.length:Nat):Int)<((l.length:Nat):Int))=false:=by simp
   simp only[a5N,w1,hl,d0,cF])
 simp only[nZ,a16,h0]at this;exact this
theorem d2i{l:List Int}:(b1y l (l.length-1)).take (l.length-1)=dif l:=by
 have e:(dif l).take (l.length-1)=dif l:=a87 (by rw[a5R];omega);rw[b1y,e,List.take_append_of_le_length (by rw[a5R];omega),e]
theorem c6b{l:List Int}{o:Nat}(ho:o≤4)(hn:o≤l.length)(hs:short l)(hw:l.all a0b=true):
  a8w (l,(o:Int))=some (bif (a2i o l).all a0b then(a2i o l,0)else([],6)):=by
 have hs':l.length<1000000:=hs;have loop:=a3W (f:=a7Z) (fun k:Nat=>((o:Int),(k:Int),a2i k l,())) o (b:=(a2i o l,()))
  (fun k hk=>by
   have hk1:1≤(a2i k l).length:=by rw[a7J];omega
   have hks:(a2i k l).length<1000000:=b7V hs k;have d0:decide ((k:Int)<(o:Int))=true:=by simp;omega
   have hm:=b6u (l:=a2i k l) (i:=(a2i k l).length-1) (by omega);have w1:wrap .i64 ((((a2i k l).length:Nat):Int)-1)=(((a2i k l).length-1:Nat):Int):=by rw[a0g (by omega)];omega
   have w2:wrap .i64 ((k:Int)+1)=((k+1:Nat):Int):=a0h (by omega);have d1:decide ((0:Int)≤(((a2i k l).length-1:Nat):Int))=true:=by simp
   have d2:decide ((((a2i k l).length-1:Nat):Int)≤(((a2i k l).length:Nat):Int))=true:=by simp
   have d3:decide ((a2i k l).length-1≤(a2i k l).length)=true:=by simp
   have n1:a39 (((a2i k l).length-1:Nat):Int)=(a2i k l).length-1:=by omega
   simp only[a7Z,d0,cT,d0S (b7V hs k) hk1,oB,hm,w1,w2,d1,d2,d3,n1,a05,d2i,a2i])
  (by
   have d0:decide ((o:Int)<(o:Int))=false:=by simp
   simp only[a7Z,d0,cF])
 have c1:decide ((o:Int)<0)=false:=by simp
 have c2:decide ((o:Int) > 4)=false:=by simp;omega
 have c3:decide (((l.length:Nat):Int)<(o:Int))=false:=by simp;omega
 have c4:lim l.length=true:=a1y (by omega);simp only[nZ,a16]at loop;have e0:a2i 0 l=l:=rfl;rw[e0]at loop;unfold a8w;simp only[c1,c2,c3,c4,cF,cT,oB,a7r hs,hw,bT,loop,a7r (b7V hs o)];cases (a2i o l).all a0b<;>rfl
def ex:Nat→(Nat→Int)→Nat→Int
 |0,f,i=>f i
 |o+1,f,i=>ex o f (i+1)-ex o f i
theorem c2a{l:List Int}(hw:l.all a0b=true):∀(o i:Nat),i+o<l.length→(a2i o l)[i]?=some (W (ex o (fun j=>l.getD j 0) i))
 |0,i,h=>by
  have h:i<l.length:=by omega
  have e:l.getD i 0=l[i]:=by simp[lD,h]
  simp only[a2i,ex,e];rw[lG h,b9R (lA.1 hw _ (a06 h))]
 |o+1,i,h=>by
  have h1:=c2a hw o i (by omega);have h2:=c2a hw o (i+1) (by omega);simp only[a2i,ex];rw[c4y _ i _ _ h1 h2];simp only[W,a8z,Int.sub_bmod_bmod,Int.bmod_sub_bmod]
theorem d2j{l:List Int}(hw:l.all a0b=true){o j:Nat}(ho:o≤4)(h:o+j<l.length):W (W (ex o (fun j=>l.getD j 0) j)+a5b o (l.take (o+j)))=l.getD (o+j) 0:=by
 have hwide:a0b (l.getD (o+j) 0)=true:=by
  have e:l.getD (o+j) 0=l[o+j]:=by simp[lD,h]
  rw[e];exact lA.1 hw _ (a06 h)
 have at_eq:∀i:Nat,1≤i→i≤o→atB (l.take (o+j)) i=l.getD (o+j-i) 0:=fun i h1 h2=>by
  simp only[atB,a07,a64 (b02 h),lD,a98];rw[if_pos (by omega)]
 have key:ex o (fun j=>l.getD j 0) j+a5b o (l.take (o+j))=l.getD (o+j) 0:=by
  have h5:o=0∨o=1∨o=2∨o=3∨o=4:=by omega
  rcases h5 with rfl|rfl|rfl|rfl|rfl;simp[ex,a5b];simp only[ex,a5b,at_eq 1 (by omega) (by omega)];have e1:1+j-1=j:=by omega
  have e2:j+1=1+j:=by omega
  rw[e1,e2];omega;simp only[ex,a5b,at_eq 1 (by omega) (by omega),at_eq 2 (by omega) (by omega)];have e1:2+j-1=j+1:=by omega
  have e2:2+j-2=j:=by omega
  have e3:j+1+1=2+j:=by omega
  rw[e1,e2,e3];omega;simp only[ex,a5b,at_eq 1 (by omega) (by omega),at_eq 2 (by omega) (by omega),at_eq 3 (by omega) (by omega)];have e1:3+j-1=j+1+1:=by omega
  have e2:3+j-2=j+1:=by omega
  have e3:3+j-3=j:=by omega
  have e4:j+1+1+1=3+j:=by omega
  rw[e1,e2,e3,e4];omega;simp only[ex,a5b,at_eq 1 (by omega) (by omega),at_eq 2 (by omega) (by omega),at_eq 3 (by omega) (by omega),at_eq 4 (by omega) (by omega)];have e1:4+j-1=j+1+1+1:=by omega
  have e2:4+j-2=j+1+1:=by omega
  have e3:4+j-3=j+1:=by omega
  have e4:4+j-4=j:=by omega
  have e5:j+1+1+1+1=4+j:=by omega
  rw[e1,e2,e3,e4,e5];omega
 have:W (W (ex o (fun j=>l.getD j 0) j)+a5b o (l.take (o+j)))=W (ex o (fun j=>l.getD j 0) j+a5b o (l.take (o+j))):=by
  simp only[W,a8z,b05]
 rw[this,key,b9R hwide]
theorem c7C{l:List Int}(hw:l.all a0b=true){o:Nat}(ho:o≤4):∀(k j:Nat),o+j+k=l.length→a4z (a5b o) ((a2i o l).drop j) (l.take (o+j))=some l
 |0,j,h=>by
  rw[List.drop_of_length_le (by rw[a7J];omega),a87 (by omega)];rfl
 |k+1,j,h=>by
  have hlt:j<(a2i o l).length:=by rw[a7J];omega
  have hg:=c2a hw o j (by omega);rw[lG hlt]at hg;have e:=Option.some.inj hg;have e2:l.getD (o+j) 0=l[o+j]:=by simp[lD,show o+j<l.length by omega]
  have st:=d2j hw ho (show o+j<l.length by omega);rw[e2]at st;rw[a03 hlt,e];simp only[a4z,st,lA.1 hw _ (a06 (show o+j<l.length by omega)),cT];have et:l.take (o+j)++[l[o+j]]=l.take (o+(j+1)):=by
   rw[show o+(j+1)=(o+j)+1 by omega]
   simp
  rw[et];exact c7C hw ho k (j+1) (by omega)
end Go.Ab
namespace Go.Ab
open IntKind(wrap)
theorem c8O(y:Int):0≤wrap .u64 y∧wrap .u64 y<18446744073709551616:=by
 simp only[wrap,IntKind.bits,IntKind.signed]
 simp
 omega
def b2Q(n:Int)(x:Int):Bool:=a0b x&&!(a40 x (a0y .i64 1 n) != 0)
def b7W{β:Type}(n:Int)(bad:β)(out:List Int)(x:Int):List Int ⊕ β:=bif b2Q n x then .inl (out++[a0F .i64 x n])else .inr bad
def b1z(n:Int)(l:List Int):Option (List Int):=bif l.all (b2Q n)then some (l.map fun x=>a0F .i64 x n)else none
theorem b8G{β:Type}(n:Int)(bad:β)(fin:List Int→β):∀(l out:List Int),b0p fin (a3p (b7W n bad) l out)=match b1z n l with|some r=>fin (out++r)|none=>bad
 | [],out=>by simp[a3p,b0p,b1z]
 |x::l,out=>by
  simp only[a3p,b7W,b1z,a09];cases hx:b2Q n x with
  |true=>
   simp only[cT,a31];rw[b8G n bad fin l _];simp only[b1z];cases l.all (b2Q n)with
   |true=>simp
   |false=>rfl
  |false=>rfl
theorem c7D{o:Nat}(h:o≤30):a0y .i64 1 (o:Int)=((2^o:Nat):Int):=by
 have h2:2^o≤2^30:=a17 (by omega) h
 have:=c1X (N:=1) (o:=o) (by omega) (by omega)
 simpa using this
theorem c4z{l:List Int}{o:Nat}(h1:o≤30)(hr:l.length<100000):a7o (l,(o:Int))=some (a3e (b1z (o:Int) l)):=by
 have hsr:short l:=by unfold short;omega
 have g1:¬ (o:Int)<0:=by omega
 have g2:¬ (o:Int) > 30:=by omega
 have g3:(a0y .i64 (1:Int) (o:Int)==0)=false:=by
  rw[c7D h1]
  have:0<2^o:=a36 o
  simp only[beq_eq_false_iff_ne,ne_eq];omega
 unfold a7o;simp only[g1,g2,decide_false,cF,oB]
 have:=a3c (f:=a6T) l (fun i out=>((o:Int),l,(l.length:Int),(i:Int),out,())) (b7W (o:Int) (Sum.inr ((6:Int),([]:List Int),())))
  (fun i out=>out.length=i) (fun out=>Sum.inl (out,()))
  (fun i h out hI=>by
   have hlt:i<1000000:=by omega
   simp only[a6T,dlt h,cT,a0c h,oB,b7b,b7W,b2Q,g1,g3,decide_false,cF];cases hb:a0b l[i]with
   |true=>
    cases hb2:(a40 l[i] (a0y .i64 1 (o:Int)) != 0)with
    |false=>
     simp only[cT,bT,cF,oB,g1,decide_false,a1u (show out.length+1<1000000 by omega),a0h hlt,a05,a19,hb2];refine⟨fun a' ha=>?_,fun b hb=>(by cases hb)⟩;simp only[Sum.inl.injEq]at ha;subst ha;exact⟨rfl,by simp;omega⟩
    |true=>
     refine⟨fun a' ha=>(by simp at ha),fun b hb=>?_⟩;simp only[a31,bT,cF,Sum.inr.injEq]at hb;subst hb;simp[hb2]
   |false=>
    refine⟨fun a' ha=>(by simp at ha),fun b hb=>?_⟩;simp only[a57,cF,Sum.inr.injEq]at hb;subst hb;rfl)
  (fun out _=>by simp[a6T]) (a:=[]) rfl
 simp only[nZ,b8G,a04]at this;rw[this];cases b1z (o:Int) l<;>rfl
theorem c2b{o:Nat}(h:o≤30){x:Int}(hx:b2Q (o:Int) x=true):a0b (a0F .i64 x (o:Int))=true∧a0y .i64 (a0F .i64 x (o:Int)) (o:Int)=x∧a0b x=true:=by
 simp only[b2Q,c7D h,bA,a34,bne_eq_false_iff_eq]at hx;obtain⟨hw,hm⟩:=hx;obtain⟨c,rfl⟩:=Int.dvd_of_tmod_eq_zero hm;have hw':=a2o.1 hw;have e:min (a39 (o:Int)) (IntKind.bits .i64)=o:=by simp only[tN,IntKind.bits];omega
 have hp:(0:Int)<2^o:=Int.pow_pos (by omega);have ep:((2^o:Nat):Int)=2^o:=by simp
 rw[ep]at hw' hw⊢;have e1:a0F .i64 (2^o*c) (o:Int)=c:=by
  unfold a0F;rw[e];exact Int.mul_fdiv_cancel_left _ (by omega)
 rw[e1];refine⟨a2o.2 ?_,?_,hw⟩;generalize (2:Int)^o=p at hp hw';have hs:p*c=(p-1)*c+c:=by rw[Int.sub_mul];omega
 by_cases hc:0≤c
 have:=a91 (show 0≤p-1 by omega) hc
 omega
 have:=a91 (show 0≤p-1 by omega) (show 0≤-c by omega)
 rw[Int.mul_neg]at this;omega;unfold a0y;rw[e,a85];exact a0g (by omega)
theorem d5s{o:Nat}(h:o≤30){l d:List Int}(hd:b1z (o:Int) l=some d):d.all a0b=true∧d.length=l.length∧upO (o:Int) d=some l:=by
 unfold b1z at hd;cases ha:l.all (b2Q (o:Int))with
 |false=>rw[ha]at hd;cases hd
 |true=>
  rw[ha]at hd;simp only[cT,sj]at hd;subst hd;have hall:=lA.1 ha;refine⟨?_,by simp,?_⟩;simp only[List.all_map];exact lA.2 fun x hx=>(c2b h (hall x hx)).1;have e1:(l.map fun x=>a0F .i64 x (o:Int)).all (fun x=>a0b x&&a0b (a0y .i64 x (o:Int)))=true:=by
   simp only[List.all_map];refine lA.2 fun x hx=>?_
   obtain⟨h1,h2,h3⟩:=c2b h (hall x hx);simp only[Function.comp,h1,h2,h3,a05]
  unfold upO;rw[e1];simp only[cT,sj,List.map_map];have em:l.map ((fun x=>a0y .i64 x (o:Int))∘fun x=>a0F .i64 x (o:Int))=l.map id:=List.map_congr_left (fun x hx=>(c2b h (hall x hx)).2.1);rw[em,List.map_id]
end Go.Ab
namespace Go.Ab
theorem d0T{n warm:Int}(h:a5Z n warm=true):(a1z 0 n warm).length≠0:=by
 have h':=h;simp only[a5Z,bA,dT]at h';unfold a1z b7d;have e:((n.toNat / 2^(0:Int).toNat:Nat):Int)=n:=by simp;omega
 have e2:n.toNat%2^(0:Int).toNat=0:=by simp;omega
 simp only[h,e,e2];simp[h'.2.2.2]
end Go.Ab
namespace Go.Ab
open IntKind(wrap)
def a6V(k:Nat)(x:Int):Nat:=if a0v x / 2^k<32 then a0v x / 2^k+1+k else 65
theorem c7E{k:Nat}(hk:k≤25)(x:Int):a6V k x≤65:=by
 unfold a6V;split;rename_i h;generalize a0v x / 2^k=q at h;omega;omega
theorem c7F{k:Nat}(hk:k≤25){x:Int}(hw:a0b x=true):a7F ((k:Int),x)=some ((a6V k x:Nat):Int):=by
 have hy:=b2c hw;have eq:a0F .u64 ((a0v x:Nat):Int) (k:Int)=((a0v x / 2^k:Nat):Int):=a8C (by omega);have ew:wrap .i64 ((a0v x / 2^k:Nat):Int)=((a0v x / 2^k:Nat):Int):=b5d (a53 (a54 _ _) hy);have hk0:decide ((k:Int)<0)=false:=by simp
 unfold a7F a6V;simp only[a9r hk,b1v,hw,oB,bT,cF,b1w hw,hk0,eq,ew];generalize a0v x / 2^k=q
 by_cases hq:q<32
 have hd:decide ((q:Int)<32)=true:=decide_eq_true (by omega);simp only[hd,cT,if_pos hq];rw[a0g (n:=(q:Int)+1) (by omega),a0g (by omega)];rfl;have hd:decide ((q:Int)<32)=false:=decide_eq_false (by omega);simp only[hd,cF,if_neg hq];rfl
theorem c7G{f:Int→Nat}{M:Nat}(h:∀x,f x≤M):∀l:List Int,(l.map f).sum≤M*l.length
 | []=>by simp
 |x::l=>by
  have:=h x
  have:=c7G h l
  rw[a74,a61,lC,b18,a89];omega
theorem c7H{f:Int→Nat}{l:List Int}{i:Nat}(h:i<l.length):((l.take (i+1)).map f).sum=((l.take i).map f).sum+f l[i]:=by
 rw[a49 h,pA,List.sum_append];simp only[a74,b03,a61,List.sum_nil,a66]
theorem c1q{k:Nat}(hk:k≤25){l:List Int}(hw:l.all a0b=true)(hl:l.length<10000):a3R ((k:Int),l)=some (((l.map (a6V k)).sum:Nat):Int):=by
 have:=a3W (f:=a4j) (fun i:Nat=>((k:Int),((((l.take i).map (a6V k)).sum:Nat):Int),l,(l.length:Int),(i:Int),())) l.length (b:=((((l.map (a6V k)).sum:Nat):Int),()))
  (fun i hi=>by
   have hc:=c7F hk (lA.1 hw _ (a06 hi));have h1:=c7G (c7E hk) (l.take (i+1));rw[c7H hi]at h1;rw[a07]at h1;have e:wrap .i64 (((((l.take i).map (a6V k)).sum:Nat):Int)+((a6V k l[i]:Nat):Int))=((((l.take (i+1)).map (a6V k)).sum:Nat):Int):=by
    rw[c7H hi,a0g (by omega)];omega
   simp only[a4j,dlt hi,cT,a0c hi,oB,hc,e,a0h (show i<1000000 by omega)])
  (by simp only[a4j,dge,cF,a25])
 unfold a3R;have e0:(((l.take 0).map (a6V k)).sum:Nat)=0:=rfl;simp only[e0,nZ]at this;simp only[this,oB]
theorem d6m{x:Int}(h:a0b x=true):a2b x ((31:Nat):Int)=true:=by
 have:=a2o.1 h
 have e1:a0y .i64 (-1) (((31:Nat):Int)-1)=-1073741824:=by decide
 have e2:wrap .i64 (a0y .i64 1 (((31:Nat):Int)-1)-1)=1073741823:=by decide
 unfold a2b;rw[e1,e2];simp only[bA,dT];omega
theorem c3o{x:Int}(h:a0b x=true):∀(k w:Nat),w+k=32→1≤k→a2h x k w≤31
 |k+1,w,hk,_=>by
  simp only[a2h]
  by_cases h31:w=31
  subst h31;rw[d6m h]
  simp
  ·cases (x != 0)&&!a2b x w with
   |true=>exact c3o h k (w+1) (by omega) (by omega)
   |false=>simp only[cF];omega
theorem b5H:∀(l:List Int)(w:Nat),l.all a0b=true→w≤31→l.foldl (fun w x=>a2h x (32-w) w) w≤31
 | [],w,_,h=>h
 |x::l,w,hl,h=>by
  simp only[a09,bA]at hl;exact b5H l _ hl.2 (c3o hl.1 (32-w) w (by omega) (by omega))
theorem a4D{l:List Int}(h:l.all a0b=true):a0n l≤31:=b5H l 0 h (by omega)
theorem b5e{l:List Int}(hl:l.length<10000):a5X l=some (((5+a0n l*l.length:Nat)):Int):=by
 have hw:=a6H l;have hm:a0n l*l.length≤32*l.length:=a46 _ hw;unfold a5X;simp only[a2H (show short l by unfold short;omega),oB];have e:((a0n l:Nat):Int)*((l.length:Nat):Int)=((a0n l*l.length:Nat):Int):=by simp
 rw[e,a0g (n:=((a0n l*l.length:Nat):Int)) (by omega),a0g (by omega)];congr 1
def b5I(k:Int)(part:List Int):Nat:=5+(if k=31 then 5+a0n part*part.length else(part.map (a6V k.toNat)).sum)
def a9G:List Nat→List Int→List Int→Nat
 |z::zs,k::ks,l=>b5I k (l.take z)+a9G zs ks (l.drop z)
 |_,_,_=>0
theorem a4E{q:Nat}(h:q<2147483648):wrap .u64 (q:Int)=(q:Int):=a0E (by omega)
theorem d3F{k:Int}(hk:kB k=true)(part:List Int):b5I k part≤10+65*part.length:=by
 simp only[kB,a26,bA,dT,beq_iff_eq]at hk;unfold b5I;split;have hm:a0n part*part.length≤32*part.length:=a46 _ (a6H part);omega
 have:=c7G (c7E (k:=k.toNat) (by omega)) part
 omega
theorem b5f{zn:List Nat}{p:Prt}(hk:p.2.1.length=zn.length)(hall:p.2.1.all kB=true)(hz:zn.length≤256):∀(j i:Nat)(l:List Int)(c:Nat),i+j=zn.length→(zn.drop i).sum=l.length→l.all a0b=true→l.length≤5000→c+10*j+65*l.length<1000000→
  a0j a1H (l,(c:Int),(zn.length:Int),(i:Int),a1p zn,p,())=some (((c+a9G (zn.drop i) (p.2.1.drop i) l:Nat):Int),())
 |0,i,l,c,hi,_,_,_,_=>by
  obtain rfl:i=zn.length:=by omega
  rw[a23];exact a0q (by simp[a1H,a9G])
 |j+1,i,l,c,hi,hsum,hw,hl5,hb=>by
  have hlt:i<zn.length:=by omega
  have hki:i<p.2.1.length:=by omega
  have hkb:=lA.1 hall _ (a06 hki);rw[b7U hlt]at hsum;have h0:decide ((0:Int)≤(i:Int))=true:=by simp
  have h1:decide ((i:Int)<(((a1p zn).length:Nat):Int))=true:=by rw[a1I];simp;omega
  have h2:decide ((0:Int)≤((zn[i]:Nat):Int))=true:=by simp
  have h3:decide (((zn[i]:Nat):Int)≤((l.length:Nat):Int))=true:=by simp;omega
  have hpart:(l.take zn[i]).length=zn[i]:=by rw[a07];omega
  have hrest:(l.drop zn[i]).length=(zn.drop (i+1)).sum:=by rw[a08];omega
  have hwp:(l.take zn[i]).all a0b=true:=lA.2 fun x hx=>lA.1 hw x (a47 hx);have hwr:(l.drop zn[i]).all a0b=true:=lA.2 fun x hx=>lA.1 hw x (a48 hx);have hle:=d3F hkb (l.take zn[i]);rw[hpart]at hle;have goal:a1H (l,(c:Int),(zn.length:Int),(i:Int),a1p zn,p,())=some (.inl (l.drop zn[i],((c+b5I p.2.1[i] (l.take zn[i]):Nat):Int),(zn.length:Int),((i+1:Nat):Int),a1p zn,p,())):=by
   by_cases h31:p.2.1[i]=31
   have hne:(p.2.1[i]==31)=true:=by rw[h31];rfl
   have hr:=b5e (l:=l.take zn[i]) (by omega);have ec:b5I p.2.1[i] (l.take zn[i])=5+(5+a0n (l.take zn[i])*(l.take zn[i]).length):=by unfold b5I;rw[if_pos h31]
   rw[ec]at hle⊢;generalize 5+a0n (l.take zn[i])*(l.take zn[i]).length=r at hr hle⊢;have e1:wrap .i64 (5+(r:Int))=5+(r:Int):=a0g (by omega);have e2:wrap .i64 ((c:Int)+(5+(r:Int)))=((c+(5+r):Nat):Int):=by rw[a0g (by omega)];omega
   simp only[a1H,dlt hlt,h0,h1,a8D hlt,h2,h3,cT,a05,tN,a0c hki,oB,hne,hr,e1,e2,a25,a0h (show i<1000000 by omega)];have hne:(p.2.1[i]==31)=false:=by simp[h31]
   have hkb':=hkb;simp only[kB,a26,bA,dT,beq_iff_eq]at hkb';obtain⟨K,hK⟩:=a01 (show 0≤p.2.1[i]by omega);have hr:=c1q (k:=K) (by omega) hwp (by omega);have ec:b5I p.2.1[i] (l.take zn[i])=5+((l.take zn[i]).map (a6V K)).sum:=by unfold b5I;rw[if_neg h31,hK];rfl
   rw[←hK]at hr;rw[ec]at hle⊢;generalize ((l.take zn[i]).map (a6V K)).sum=r at hr hle⊢;have e1:wrap .i64 (5+(r:Int))=5+(r:Int):=a0g (by omega);have e2:wrap .i64 ((c:Int)+(5+(r:Int)))=((c+(5+r):Nat):Int):=by rw[a0g (by omega)];omega
   simp only[a1H,dlt hlt,h0,h1,a8D hlt,h2,h3,cT,cF,a05,tN,a0c hki,oB,hne,hr,e1,e2,a25,a0h (show i<1000000 by omega)]
  rw[a0t goal,b5f hk hall hz j (i+1) (l.drop zn[i]) _ (by omega) hrest.symm hwr (by rw[a08];omega) (by rw[a08];omega)];rw[a03 hlt,a03 hki];simp only[a9G];congr 3;omega
theorem c6c{p:Prt}{n warm:Int}{l:List Int}{zn:List Nat}(h:PartsOk p n warm l zn):a4W (p,n,warm,l)=some ((4+a9G zn p.2.1 l:Nat):Int):=by
 have hk:Go.Ab.short p.2.1:=by have:=h.ks;have:=h.len;unfold Go.Ab.short;omega
 have h5:=h.short;have hz:=h.len;have h1:=b5f h.ks h.all h.len zn.length 0 l 4 (by omega) (by rw[a18];exact h.sum) h.wide h.short (by omega);simp only[nZ,a16,a18]at h1;unfold a4W;simp only[b5a hk,h.may,b2d h.row h.rest h.wide h.short,oB,bT,cF,a2t,h.sizes,a1I,h1]
end Go.Ab
namespace Go.Ab
def b5J(o:Int):Sub:=((0:Int),(0:Int),o,(0:Int),(0:Int),([]:List Int),a00 3 (0:Int),([]:List Stg),([]:List Int),((0:Int),([]:List Int),()),([]:List Int),())
end Go.Ab
namespace Go.Ab
end Go.Ab
namespace Go.Ab
end Go.Ab
namespace Go.Ab
end Go.Ab
namespace Go.Ab
end Go.Ab
namespace Go.Ab
open IntKind(wrap)
def a8b(g:List Int→Int):List Int→List Int→List Int
 | [],_=>[]
 |x::r,done=>W (x-g done)::a8b g r (done++[x])
theorem b5g(g:List Int→Int):∀r done,(a8b g r done).length=r.length
 | [],_=>rfl
 |x::r,done=>by simp[a8b,b5g g r]
theorem d2k{x g:Int}(h:a0b x=true):W (W (x-g)+g)=x:=by
 have:=b9R h
 simp only[W,a8z,b05]at *;rw[show x-g+g=x from by omega];exact this
theorem b7X(g:List Int→Int):∀(r done:List Int),r.all a0b=true→a4z g (a8b g r done) done=some (done++r)
 | [],done,_=>by simp[a8b,a4z]
 |x::r,done,h=>by
  rw[a09,bA]at h;simp only[a8b,a4z,d2k h.1,h.1,cT,b7X g r (done++[x]) h.2,aA,a56]
def b2R(g:List Int→Int)(r done:List Int):Option (List Int):=bif (a8b g r done).all a0b then some (a8b g r done)else none
def b5K{β:Type}(g:List Int→Int)(bad:β)(a:List Int×List Int)(x:Int):(List Int×List Int) ⊕ β:=
 bif a0b (W (x-g a.1))then .inl (a.1++[x],a.2++[W (x-g a.1)])else .inr bad
theorem b7Y{β:Type}(g:List Int→Int)(bad:β)(fin:List Int×List Int→β):∀(r done acc:List Int),
  b0p fin (a3p (b5K g bad) r (done,acc))=match b2R g r done with|some e=>fin (done++r,acc++e)|none=>bad
 | [],done,acc=>by simp[a3p,b0p,b2R,a8b]
 |x::r,done,acc=>by
  simp only[a3p,b5K];cases h:a0b (W (x-g done))with
  |true=>
   simp only[cT];rw[b7Y g bad fin r];simp only[b2R,a8b,a09,h,a31];cases (a8b g r (done++[x])).all a0b<;>simp
  |false=>simp[b0p,b2R,a8b,h]
theorem c3p{g:List Int→Int}{r done e:List Int}(h:b2R g r done=some e):e=a8b g r done∧e.all a0b=true:=by
 unfold b2R at h;cases hc:(a8b g r done).all a0b with
 |true=>simp only[hc,cT,sj]at h;subst h;exact⟨rfl,hc⟩
 |false=>simp[hc]at h
theorem c5t{l:List Int}{i:Nat}(h:i<l.length):l.take i++[l[i]]=l.take (i+1):=by rw[List.take_append_getElem h]
theorem b2e{l:List Int}{p:Int→Bool}(h:l.all p=true)(i:Nat):(l.take i).all p=true:=by
 rw[lA]at h⊢;exact fun x hx=>h x (a47 hx)
theorem c7I{l:List Int}{p:Int→Bool}(h:l.all p=true)(i:Nat):(l.drop i).all p=true:=by
 rw[lA]at h⊢;exact fun x hx=>h x (a48 hx)
theorem c5u{σ β:Type}{f:σ→Option (σ ⊕ β)}(l:List Int)(k:Nat)(hk:k≤l.length)(S:Nat→List Int→σ)(g:List Int×List Int→Int→(List Int×List Int) ⊕ β)(fin:List Int→β)
  (hstep:∀i (h:i<l.length) acc,k≤i→acc.length=i-k→(∀a',g (l.take i,acc) l[i]=.inl a'→f (S i acc)=some (.inl (S (i+1) a'.2))∧a'.1=l.take (i+1)∧a'.2.length=i+1-k)∧(∀b,g (l.take i,acc) l[i]=.inr b→f (S i acc)=some (.inr b)))
  (hexit:∀acc,acc.length=l.length-k→f (S l.length acc)=some (.inr (fin acc))):a0j f (S k [])=some (b0p (fun a=>fin a.2) (a3p g (l.drop k) (l.take k,[]))):=by
 have h:=a3c (f:=f) (l.drop k) (fun i a=>S (k+i) a.2) g (fun i a=>a.1=l.take (k+i)∧a.2.length=i) (fun a=>fin a.2)
  (fun i hi a ha=>by
   obtain⟨a1,acc⟩:=a;obtain⟨h1,h2⟩:=ha;simp only at h1 h2;subst h1;rw[a08]at hi;have hlt:k+i<l.length:=by omega
   have e:(l.drop k)[i]'(by rw[a08];exact hi)=l[k+i]:=by rw[List.getElem_drop]
   rw[e];obtain⟨g1,g2⟩:=hstep (k+i) hlt acc (by omega) (by omega);refine⟨fun a' ha'=>?_,g2⟩;obtain⟨q1,q2,q3⟩:=g1 a' ha';exact⟨q1,q2,by omega⟩)
  (fun a ha=>by
   rw[a08]at ha⊢;rw[show k+(l.length-k)=l.length from by omega];exact hexit a.2 ha.2) (a:=(l.take k,[])) ⟨by simp,rfl⟩
 exact h
def b5L(l c:List Int)(s:Int):Option (List Int):=bif l.all a0b then b2R (b1Z c s) (l.drop c.length) (l.take c.length)else none
theorem b7j{l c:List Int}{s:Int}(hl:a9p c s=true)(hc:c.length≤l.length)(hr:l.length<100000):
  a7p (l,c,s)=some (a3e (b5L l c s)):=by
 have hs:short l:=by unfold short;omega
 have hcs:short c:=by unfold short;omega
 have h0:0≤s:=by simp only[a9p,bA,dT]at hl;omega
 have e1:decide (((l.length:Nat):Int)<((c.length:Nat):Int))=false:=by simp;omega
 unfold a7p b5L;simp only[b0b hcs,hl,oB,bT,cF,e1,a9o hs];cases hw:l.all a0b with
 |false=>rfl
 |true=>
  have e2:wrap .i64 (((l.length:Nat):Int)-((c.length:Nat):Int))=((l.length-c.length:Nat):Int):=by rw[a0g (by omega)];omega
  have e3:decide ((0:Int)≤((l.length-c.length:Nat):Int))=true:=by simp
  have e4:lim (l.length-c.length)=true:=a1u (by omega);simp only[bT,cF,cT,e2,e3,tN,e4,a05]
  have:=c5u (f:=a5a) l c.length hc (fun i acc=>(l,c,s,(i:Int),acc,())) (b5K (b1Z c s) (.inr ((6:Int),([]:List Int),()))) (fun acc=>.inl (acc,()))
   (fun i hi acc hki hacc=>by
    have ht:short (l.take i):=by unfold short;rw[a07];omega
    have h1:decide ((0:Int)≤(i:Int))=true:=by simp
    have h2:decide ((i:Int)≤((l.length:Nat):Int))=true:=by simp;omega
    have h3:lim (acc.length+1)=true:=a1u (by omega);constructor
    ·intro a' ha';unfold b5K at ha';cases hq:a0b (W (l[i]-b1Z c s (l.take i)))with
     |false=>simp[hq]at ha'
     |true=>
      simp only[hq,cT,Sum.inl.injEq]at ha';subst ha';refine⟨?_,c5t hi,by simp;omega⟩;simp only[a5a,dlt hi,cT,a0c hi,oB,h1,h2,a05,tN,b7P ht hcs h0,a6z,hq,bT,cF,h3,a0h (a51 hi hs),a21]
    ·intro b hb;unfold b5K at hb;cases hq:a0b (W (l[i]-b1Z c s (l.take i)))with
     |true=>simp[hq]at hb
     |false=>
      simp only[hq,cF,Sum.inr.injEq]at hb;subst hb;simp only[a5a,dlt hi,cT,a0c hi,oB,h1,h2,a05,tN,b7P ht hcs h0,a6z,hq,a19])
   (fun acc hacc=>by simp[a5a])
  rw[this,b7Y];cases b2R (b1Z c s) (l.drop c.length) (l.take c.length)<;>rfl
theorem b7Z{l c r:List Int}{s:Int}(h:b5L l c s=some r):b4W (l.take c.length) r c s=some l∧r.all a0b=true∧r.length=l.length-c.length:=by
 unfold b5L at h;cases hw:l.all a0b with
 |false=>simp[hw]at h
 |true=>
  simp only[hw,cT]at h;obtain⟨e,hr⟩:=c3p h;refine⟨?_,hr,by rw[e,b5g,a08]⟩;simp only[b4W,b2e hw,hr,a05,cT];rw[e,b7X _ _ _ (c7I hw _),List.take_append_drop]
def b7k(l:List Int)(lag:Int)(t:List Int):Option (List Int):=bif l.all a0b then b2R (b0c lag t) l []else none
theorem c7J{l t:List Int}{lag:Int}(hl:b2L lag t=true)(ht:t.length=3)(hr:l.length<100000):
  a7H (l,lag,t)=some (a3e (b7k l lag t)):=by
 have hs:short l:=by unfold short;omega
 obtain⟨h1,h2⟩:2≤lag∧lag≤1024:=by simp only[b2L,bA,dT]at hl;omega
 unfold a7H b7k;simp only[b6r ht,hl,oB,bT,cF,b5z hs];cases hw:l.all a0b with
 |false=>rfl
 |true=>
  have e3:decide ((0:Int)≤((l.length:Nat):Int))=true:=by simp
  have e4:lim l.length=true:=a1u (by omega);simp only[bT,cF,cT,e3,tN,e4,a05]
  have:=c5u (f:=a6v) l 0 (Nat.zero_le _) (fun i acc=>(l,lag,l,(l.length:Int),(i:Int),acc,t,())) (b5K (b0c lag t) (.inr ((6:Int),([]:List Int),()))) (fun acc=>.inl (acc,()))
   (fun i hi acc hki hacc=>by
    have h3:lim (acc.length+1)=true:=a1u (by omega);have hp:=b5B (lag:=lag) (t:=t) (b02 hi) hs ht h1 h2;constructor
    ·intro a' ha';unfold b5K at ha';cases hq:a0b (W (l[i]-b0c lag t (l.take i)))with
     |false=>simp[hq]at ha'
     |true=>
      simp only[hq,cT,Sum.inl.injEq]at ha';subst ha';refine⟨?_,c5t hi,by simp;omega⟩;simp only[a6v,dlt hi,cT,a0c hi,oB,hp,a8y,hq,bT,cF,h3,a0h (a51 hi hs),a21]
    ·intro b hb;unfold b5K at hb;cases hq:a0b (W (l[i]-b0c lag t (l.take i)))with
     |true=>simp[hq]at hb
     |false=>
      simp only[hq,cF,Sum.inr.injEq]at hb;subst hb;simp only[a6v,dlt hi,cT,a0c hi,oB,hp,a8y,hq,a19])
   (fun acc hacc=>by simp[a6v])
  simp only[nZ]at this;rw[this,b7Y,a18,b29];cases b2R (b0c lag t) l []<;>rfl
theorem b9W{l t r:List Int}{lag:Int}(h:b7k l lag t=some r):b3Y r lag t=some l∧r.all a0b=true∧r.length=l.length:=by
 unfold b7k at h;cases hw:l.all a0b with
 |false=>simp[hw]at h
 |true=>
  simp only[hw,cT]at h;obtain⟨e,hr⟩:=c3p h;refine⟨?_,hr,by rw[e,b5g]⟩;simp only[b3Y,hr,cT];rw[e,b7X _ _ _ hw,a04]
end Go.Ab
namespace Go.Ab
def rsG:List Int→Fil→List Int
 | [],_=>[]
 |x::r,f=>W (x-a1h f)::rsG r (b3Z f x)
theorem b8a:∀r f,(rsG r f).length=r.length
 | [],_=>rfl
 |x::r,f=>by simp[rsG,b8a r]
def rsO:List Int→List Int→Fil→Option (List Int)
 | [],done,_=>some done
 |x::r,done,f=>bif a0b (W (x-a1h f))then rsO r (done++[W (x-a1h f)]) (b3Z f x)else none
theorem d2l:∀(r done:List Int)(f:Fil),rsO r done f=bif (rsG r f).all a0b then some (done++rsG r f)else none
 | [],done,f=>by simp[rsO,rsG]
 |x::r,done,f=>by
  simp only[rsO,rsG,a09];cases a0b (W (x-a1h f))with
  |false=>rfl
  |true=>simp only[cT,a31,d2l r,aA,a56]
theorem c9o:∀(r z:List Int)(f:Fil),r.all a0b=true→stO (rsG r f) z f=some (z++r)
 | [],z,f,_=>by simp[rsG,stO]
 |x::r,z,f,h=>by
  rw[a09,bA]at h;have e:W (a1h f+W (x-a1h f))=x:=by rw[Int.add_comm];exact d2k h.1
  simp only[rsG,stO,e,h.1,cT,c9o r _ _ h.2,aA,a56]
theorem b5M{row:List Int}{a:List Stg}{b c:Int}(hs:short row):∀(k i:Nat)(done:List Int)(f:Fil),i+k=row.length→done.length=i→FilOk f→
  a0j a5O (a,b,c,(row.length:Int),(i:Int),done++row.drop i,f,())=some (match rsO (row.drop i) done f with
   |some r=>.inl (a,b,c,r,())
   |none=>.inr ((6:Int),([]:List Int),()))
 |0,i,done,f,h,hd,hf=>by
  obtain rfl:i=row.length:=by omega
  rw[a23,a35];exact a0q (b:=Sum.inl (a,b,c,done,())) (by simp[a5O])
 |k+1,i,done,f,h,hd,hf=>by
  have hi:i<row.length:=by omega
  have hs':row.length<1000000:=hs;have h0:decide ((0:Int)≤(i:Int))=true:=by simp
  have hl:(done++row.drop i).length=row.length:=by simp;omega
  have h1:decide ((i:Int)<(((done++row.drop i).length:Nat):Int))=true:=by rw[hl];simp;omega
  have hst:rsO (row.drop i) done f=bif a0b (W (row[i]-a1h f))then rsO (row.drop (i+1)) (done++[W (row[i]-a1h f)]) (b3Z f row[i])else none:=by
   rw[a03 hi];rfl
  rw[hst];cases hw:a0b (W (row[i]-a1h f))with
  |true=>
   rw[a0t (s':=(a,b,c,(row.length:Int),((i+1:Nat):Int),(done++[W (row[i]-a1h f)])++row.drop (i+1),b3Z f row[i],())) (by
    simp only[a5O,dlt hi,h0,h1,cT,a05,a6A hf,oB,tN,b5C hd hi,a5u,hw,bT,cF,b8z hf,c7t hd hi,a0h (show i<1000000 by omega)])]
   exact b5M hs k (i+1) _ _ (by omega) (by simp;omega) (c7s hf _)
  |false=>
   exact a0q (by
    simp only[a5O,dlt hi,h0,h1,cT,a05,a6A hf,oB,tN,b5C hd hi,a5u,hw,a19];rfl)
def lRO:List Stg→List Int→Option (List Int)
 | [],row=>some row
 |s::r,row=>match rsO row [] (b1u s)with
  |some row'=>lRO r row'
  |none=>none
theorem c7K{row d:List Int}{f:Fil}(h:rsO row [] f=some d):d=rsG row f∧d.all a0b=true:=by
 rw[d2l]at h;cases hc:(rsG row f).all a0b with
 |true=>simp only[hc,cT,a04,sj]at h;subst h;exact⟨rfl,hc⟩
 |false=>simp[hc]at h
theorem c5v:∀(a b:List Stg)(row:List Int),lO (a++b) row=match lO a row with|some r=>lO b r|none=>none
 | [],b,row=>rfl
 |s::a,b,row=>by
  simp only[a75,lO];split;exact c5v a b _;rfl
theorem c7L:∀(st:List Stg)(row d:List Int),row.all a0b=true→lRO st row=some d→lO st.reverse d=some row∧d.all a0b=true∧d.length=row.length
 | [],row,d,hw,h=>by
  simp only[lRO,sj]at h;subst h;exact⟨rfl,hw,rfl⟩
 |s::st,row,d,hw,h=>by
  simp only[lRO]at h
  split at h
  rename_i row' hr;obtain⟨e,hw'⟩:=c7K hr;obtain⟨h1,h2,h3⟩:=c7L st row' d hw' h;refine⟨?_,h2,by rw[h3,e,b8a]⟩;rw[List.reverse_cons,c5v,h1];simp only[lO];rw[e,c9o row [] _ hw,a04];cases h
theorem b3E{st:List Stg}(hst:∀s∈st,stageB s=true)(hl:st.length≤3):∀(j k:Nat)(row:List Int),k+j=st.length→short row→
  a0j a5P (st,(st.length:Int),(k:Int),row,())=some (match lRO (st.drop k) row with
   |some r=>.inl (r,())
   |none=>.inr ((6:Int),([]:List Int),()))
 |0,k,row,h,hs=>by
  obtain rfl:k=st.length:=by omega
  rw[a23];exact a0q (by simp[a5P,lRO])
 |j+1,k,row,h,hs=>by
  have hk:k<st.length:=by omega
  have hstage:=hst _ (a06 hk);have h1:=b5M (a:=st) (b:=(st.length:Int)) (c:=(k:Int)) hs row.length 0 [] (b1u st[k]) (by omega) rfl (c9m hstage);simp only[nZ,a18,a04]at h1;have hne:((0:Int) != 0)=false:=rfl;rw[a03 hk];simp only[lRO];cases hr:rsO row [] (b1u st[k])with
  |some r=>
   rw[hr]at h1;rw[a0t (s':=(st,(st.length:Int),((k+1:Nat):Int),r,())) (by simp only[a5P,dlt hk,cT,a0c hk,oB,b4Y hstage,hne,cF,h1,a0h (show k<1000000 by omega)])];exact b3E hst hl j (k+1) r (by omega) (by have:=(c7K hr).1;unfold short at hs⊢;rw[this,b8a];exact hs)
  |none=>
   rw[hr]at h1;exact a0q (by simp only[a5P,dlt hk,cT,a0c hk,oB,b4Y hstage,hne,cF,h1])
def b4i(l:List Int)(st:List Stg):Option (List Int):=bif l.all a0b then lRO st l else none
theorem c6d{l:List Int}{st:List Stg}(hl:a9D st=true)(hr:l.length<100000):b1q (l,st)=some (a3e (b4i l st)):=by
 have hl':=hl;simp only[a9D,bA,dT]at hl';have hss:short st:=by unfold short;omega
 have hsr:short l:=by unfold short;omega
 unfold b1q b4i;simp only[b4V hss,hl,oB,bT,cF,b4U hsr];cases hw:l.all a0b with
 |false=>rfl
 |true=>
  have:=b3E (lA.1 hl'.2) hl'.1 st.length 0 l (by omega) hsr
  simp only[nZ,a18]at this;simp only[bT,cF,cT,a8A hsr,oB,this];cases lRO st l<;>rfl
theorem c3q{l r:List Int}{st:List Stg}(h:b4i l st=some r):b3i r st=some l∧r.all a0b=true∧r.length=l.length:=by
 unfold b4i at h;cases hw:l.all a0b with
 |false=>simp[hw]at h
 |true=>
  simp only[hw,cT]at h;obtain⟨h1,h2,h3⟩:=c7L st l r hw h;exact⟨by simp only[b3i,h2,cT,h1],h2,h3⟩
end Go.Ab
namespace Go.Ab
open IntKind(wrap)
theorem p64{w:Nat}(h:w≤64):((2^w:Nat):Int) ∣ 18446744073709551616:=a33.2 (a80 2 h)
theorem d6n(n:Int):∃q,wrap .i64 n=n+18446744073709551616*q:=by
 rw[a8z,Int.bmod];split;exact⟨-(n / 18446744073709551616),by omega⟩;exact⟨-(n / 18446744073709551616)-1,by omega⟩
theorem d3G{w:Nat}(h:w≤64)(n:Int):((2^w:Nat):Int) ∣ wrap .i64 n↔((2^w:Nat):Int) ∣ n:=by
 obtain⟨q,hq⟩:=d6n n;rw[hq];exact a84 (a67 (p64 h))
theorem c5w{w:Nat}(h:w≤64)(a:Int):2^w ∣ (a02 64 a).toNat↔((2^w:Nat):Int) ∣ a:=by
 have e:(((a02 64 a).toNat:Nat):Int)=a+18446744073709551616*-(a / 18446744073709551616):=by
  rw[a28]
  have:((2^64:Nat):Int)=18446744073709551616:=rfl
  rw[this];omega
 rw[←a33,e];exact a84 (a67 (p64 h))
theorem d0U(w x y:Nat):2^w ∣ (x ||| y)↔2^w ∣ x∧2^w ∣ y:=by
 rw[a68,a68,a68,Nat.or_mod_two_pow];exact Nat.or_eq_zero_iff
theorem d6o{w:Nat}(h:w≤64)(a b:Int):((2^w:Nat):Int) ∣ bits .i64 .or a b↔((2^w:Nat):Int) ∣ a∧((2^w:Nat):Int) ∣ b:=by
 show((2^w:Nat):Int) ∣ wrap .i64 ((((a02 64 a) ||| (a02 64 b)).toNat:Nat):Int)↔_;rw[d3G h,a33,a65,d0U,c5w h,c5w h]
def orI(l:List Int)(a:Int):Int:=l.foldl (fun a x=>bits .i64 .or a x) a
theorem b7l{w:Nat}(h:w≤64):∀(l:List Int)(a:Int),((2^w:Nat):Int) ∣ orI l a↔((2^w:Nat):Int) ∣ a∧∀x∈l,((2^w:Nat):Int) ∣ x
 | [],a=>by simp[orI]
 |x::l,a=>by
  show((2^w:Nat):Int) ∣ orI l (bits .i64 .or a x)↔_;rw[b7l h l,d6o h];simp only[mC,forall_eq_or_imp,and_assoc]
theorem c7M:∀(l:List Int),(∀x∈l,x=0)→orI l 0=0
 | [],_=>rfl
 |x::l,h=>by
  have hx:=h x (a83);subst hx;show orI l (bits .i64 .or 0 0)=0;rw[show bits .i64 .or 0 0=0 from by decide];exact c7M l fun y hy=>h y (a92 _ hy)
theorem d6p{l:List Int}(hw:l.all a0b=true)(h:∃x∈l,x≠0):orI l 0≠0:=by
 intro e;obtain⟨x,hx,hne⟩:=h;have hd:=((b7l (w:=62) (by omega) l 0).1 (by rw[e];exact b04 _)).2 x hx;have hwx:=a2o.1 (lA.1 hw x hx);have e62:((2^62:Nat):Int)=4611686018427387904:=rfl;rw[e62]at hd;omega
def a9j(l:List Int)(w:Nat):Prop:=
 ((∀x∈l,x=0)∧w=0)∨((∃x∈l,x≠0)∧w≤30∧(∀x∈l,((2^w:Nat):Int) ∣ x)∧(w=30∨∃x∈l,¬ ((2^(w+1):Nat):Int) ∣ x))
theorem d0V{v w:Nat}(h:v≤w){x:Int}(hx:((2^w:Nat):Int) ∣ x):((2^v:Nat):Int) ∣ x:=
 Int.dvd_trans (a33.2 (a80 2 h)) hx
theorem a9j.unique{l:List Int}{v w:Nat}(hv:a9j l v)(hw:a9j l w):v=w:=by
 have key:∀{v w:Nat},v≤30→w≤30→(∀x∈l,((2^w:Nat):Int) ∣ x)→(v=30∨∃x∈l,¬ ((2^(v+1):Nat):Int) ∣ x)→w≤v:=by
  intro v w h30 h30' h1 h2;rcases h2 with h2|⟨x,hx,h2⟩;omega;exact b19 fun hlt=>h2 (d0V (show v+1≤w by omega) (h1 x hx))
 rcases hv with⟨h0,hv⟩|⟨⟨x,hx,hne⟩,hv1,hv2,hv3⟩;rcases hw with⟨-,hw⟩|⟨⟨x,hx,hne⟩,-⟩;omega;exact absurd (h0 x hx) hne;rcases hw with⟨h0,-⟩|⟨-,hw1,hw2,hw3⟩;exact absurd (h0 x hx) hne;exact Nat.le_antisymm (key hw1 hv1 hv2 hw3) (key hv1 hw1 hw2 hv3)
theorem c7N:∀(n N:Nat),N≤n→0<N→∃k m,N=2^k*(2*m+1)
 |0,N,h,h0=>absurd h0 (by omega)
 |n+1,N,h,h0=>by
  by_cases he:N%2=0
  obtain⟨k,m,e⟩:=c7N n (N / 2) (by omega) (by omega);refine⟨k+1,m,?_⟩;rw[a59,a81 (2^k) 2,a93,←e];omega;exact⟨0,N / 2,by omega⟩
theorem d5t{k m:Nat}(h:2^k*(2*m+1)<2^64):(2^k*(2*m+1)) &&& (2^64-2^k*(2*m+1))=2^k:=by
 have hp:1≤2^k:=a95;have hk:k<64:=by
  refine b20 fun hge=>?_
  have h1:2^64≤2^k:=a17 (by decide) hge;have h2:2^k*1≤2^k*(2*m+1):=Nat.mul_le_mul_left _ (by omega);omega
 have e:2^k*(2*m+1)=(2^k*(2*m)+(2^k-1))+1:=by rw[b18];omega
 have hx:2^k*(2*m)+(2^k-1)<2^64:=by omega
 refine Nat.eq_of_testBit_eq fun i=>?_
 have e2:(2^64-2^k*(2*m+1)).testBit i=(decide (i<64)&&!(2^k*(2*m)+(2^k-1)).testBit i):=by
  rw[e];exact Nat.testBit_two_pow_sub_succ hx i
 have e1:=a82 (2*m+1) (b:=0) (i:=k) (by omega) i;rw[a66]at e1;have e3:=a82 (2*m) (b:=2^k-1) (i:=k) (by omega) i;rw[Nat.testBit_and,e2,e1,e3,a94]
 by_cases h1:i<k
 have:¬ k=i:=by omega
 simp[h1,this]
 by_cases h2:k=i
 subst h2;simp[hk,Nat.testBit_zero];obtain⟨j,rfl⟩:∃j,i=k+(j+1):=⟨i-k-1,by omega⟩;have s1:k+(j+1)-k=j+1:=by omega
 have s2:(2*m+1) / 2=m:=by omega
 have s3:2*m / 2=m:=by omega
 simp only[h1,h2,if_false,s1,Nat.testBit_succ,s2,s3,decide_false];cases m.testBit j<;>simp
theorem d3H:∀k:Nat,k<64→b2m[(2^k*285870213051353865)%18446744073709551616 / 288230376151711744]?=some (k:Int):=by
 have h:∀k:Fin 64,b2m[(2^k.val*285870213051353865)%18446744073709551616 / 288230376151711744]?=some (k.val:Int):=by decide
 exact fun k hk=>h ⟨k,hk⟩
theorem c8P{k m:Nat}:¬ 2^(k+1) ∣ 2^k*(2*m+1):=by
 rintro⟨c,hc⟩
 rw[a59,a93]at hc
 have:=Nat.eq_of_mul_eq_mul_left (a36 k) hc
 omega
theorem d3I{N:Nat}(h0:0<N)(h:N<18446744073709551616):∃k:Nat,a1U (N:Int)=some (k:Int)∧2^k ∣ N∧¬ 2^(k+1) ∣ N:=by
 obtain⟨k,m,e⟩:=c7N N N (a44 _) h0;have h2:2^k≤N:=by rw[e];exact Nat.le_mul_of_pos_right _ (by omega)
 have hk:k<64:=by
  refine b20 fun hge=>?_
  have h1:2^64≤2^k:=a17 (by decide) hge;omega
 refine⟨k,?_,⟨_,e⟩,e▸c8P⟩;have hb:bits .u64 .and (N:Int) (wrap .u64 (0-(N:Int)))=((2^k:Nat):Int):=by
  have e1:wrap .u64 (0-(N:Int))=((18446744073709551616-N:Nat):Int):=by
   have:wrap .u64 (0-(N:Int))=(0-(N:Int))%18446744073709551616:=by simp[wrap,IntKind.bits,IntKind.signed]
   rw[this];omega
  rw[e1];show wrap .u64 (((a02 64 (N:Int)) &&& (a02 64 ((18446744073709551616-N:Nat):Int))).toNat:Int)=_;rw[a29,a29,a50,a32,a32,a30 h,a30 (by omega)]
  have:=d5t (k:=k) (m:=m) (by rw[←e];exact h)
  rw[←e]at this;rw[show(18446744073709551616:Nat)=2^64 from rfl,this];exact a0E (by omega)
 have hx:((N:Int)==0)=false:=by simp only[beq_eq_false_iff_ne,ne_eq];omega
 unfold a1U;rw[hb,hx,cF];have e2:wrap .u64 (((2^k:Nat):Int)*285870213051353865)=(((2^k*285870213051353865)%18446744073709551616:Nat):Int):=by
  have:wrap .u64 (((2^k:Nat):Int)*285870213051353865)=(((2^k:Nat):Int)*285870213051353865)%18446744073709551616:=by simp[wrap,IntKind.bits,IntKind.signed]
  rw[this];omega
 have hg:=d3H k hk;generalize (2^k*285870213051353865)%18446744073709551616=M at e2 hg;have e3:=a8C (N:=M) (o:=58) (by omega);rw[e2,show(58:Int)=((58:Nat):Int)from rfl,e3,show 2^58=288230376151711744 from rfl];generalize M / 288230376151711744=J at hg;obtain⟨hi,hv⟩:=lS.1 hg;rw[a0c hi,hv];simp only[oB,a0g (show -9223372036854775808≤(k:Int)∧(k:Int)≤9223372036854775807 by omega)]
theorem c9p{l:List Int}(hs:short l):∀(k i:Nat)(a:Int),i+k=l.length→a0j a5M (a,l,(l.length:Int),(i:Int),())=some (orI (l.drop i) a,())
 |0,i,a,h=>by
  obtain rfl:i=l.length:=by omega
  rw[a23];exact a0q (by simp[a5M,orI])
 |k+1,i,a,h=>by
  have hi:i<l.length:=by omega
  have hs':l.length<1000000:=hs;rw[a03 hi,a0t (s':=(bits .i64 .or a l[i],l,(l.length:Int),((i+1:Nat):Int),())) (by
   simp only[a5M,dlt hi,cT,a0c hi,oB,a0h (show i<1000000 by omega)])]
  exact c9p hs k (i+1) _ (by omega)
theorem c8Q{l:List Int}{r:Nat}(hr:r≤30)(h:r=30∨¬ ((2^(r+1):Nat):Int) ∣ orI l 0):r=30∨∃x∈l,¬ ((2^(r+1):Nat):Int) ∣ x:=by
 rcases h with h|h;exact .inl h;refine .inr (Classical.byContradiction fun hc=>h ((b7l (by omega) l 0).2 ⟨b04 _,fun x hx=>Classical.byContradiction fun hn=>hc ⟨x,hx,hn⟩⟩))
theorem c2c{l:List Int}(hs:short l)(hw:l.all a0b=true):∃w:Nat,a4f l=some (w:Int)∧w≤30∧a9j l w:=by
 have h1:=c9p hs l.length 0 0 (by omega);simp only[nZ,a18]at h1;unfold a4f;simp only[h1,oB]
 by_cases hz:∀x∈l,x=0
 have e:=c7M l hz;exact⟨0,by rw[e];rfl,by omega,.inl ⟨hz,rfl⟩⟩;have hx:∃x∈l,x≠0:=Classical.byContradiction fun hc=>hz fun x hx=>Classical.byContradiction fun hn=>hc ⟨x,hx,hn⟩;have hne:=d6p hw hx;have he:(orI l 0==0)=false:=by simpa using hne
 obtain⟨q,hq⟩:∃q,wrap .u64 (orI l 0)=orI l 0+18446744073709551616*q:=⟨-(orI l 0 / 18446744073709551616),by
  have:wrap .u64 (orI l 0)=orI l 0%18446744073709551616:=by simp[wrap,IntKind.bits,IntKind.signed]
  rw[this];omega⟩
 obtain⟨r1,r2⟩:=c8O (orI l 0);obtain⟨N,hN⟩:=a01 r1;have hdN:∀v,v≤64→(2^v ∣ N↔((2^v:Nat):Int) ∣ orI l 0):=fun v hv=>by
  rw[←a33,←hN,hq];exact a84 (a67 (p64 hv))
 have hN0:0<N:=by
  refine Nat.pos_of_ne_zero fun e0=>?_
  obtain⟨x,hxl,hx0⟩:=hx;have hd:=((b7l (w:=62) (by omega) l 0).1 ((hdN 62 (by omega)).1 (by rw[e0];exact Nat.dvd_zero _))).2 x hxl;have hwx:=a2o.1 (lA.1 hw x hxl);rw[show((2^62:Nat):Int)=4611686018427387904 from rfl]at hd;omega
 obtain⟨k,hk,hk1,hk2⟩:=d3I hN0 (by omega);have hk64:k≤63:=by
  refine b19 fun hgt=>?_
  have h1:2^64≤2^k:=a17 (by decide) (by omega)
  have:=Nat.le_of_dvd hN0 hk1
  omega
 simp only[he,cF,hN,hk,oB];have em:a3Z (k:Int) 30=((min k 30:Nat):Int):=by rw[c9l];omega
 refine⟨min k 30,by rw[em],by omega,.inr ⟨hx,by omega,?_,?_⟩⟩;exact((b7l (by omega) l 0).1 ((hdN _ (by omega)).1 (Nat.dvd_trans (a80 2 (by omega)) hk1))).2;refine c8Q (by omega) ?_
 by_cases hk30:30≤k
 exact .inl (by omega)
 have:min k 30=k:=by omega
 rw[this];exact .inr fun hh=>hk2 ((hdN _ (by omega)).2 hh)
theorem d5u{l:List Int}{w:Nat}(hw30:w≤30)(hw:l.all a0b=true)(h:a9j l w):b1z (w:Int) l=some (l.map fun x=>a0F .i64 x (w:Int)):=by
 have hd:∀x∈l,((2^w:Nat):Int) ∣ x:=by
  rcases h with⟨h,-⟩|⟨-,-,h,-⟩;exact fun x hx=>by rw[h x hx];exact b04 _
  exact h
 have:l.all (b2Q (w:Int))=true:=by
  rw[lA];intro x hx;obtain⟨c,hc⟩:=hd x hx;have hm:a40 x (a0y .i64 1 (w:Int))=0:=by rw[c7D hw30,hc];exact Int.mul_tmod_right _ _
  simp only[b2Q,lA.1 hw x hx,hm,a31];rfl
 simp only[b1z,this,cT]
end Go.Ab
namespace Go.Ab
open IntKind(wrap)
def b9X(k:Nat)(l:List Int):Nat:=(l.map (a6V k)).sum
def rbN(l:List Int):Nat→Nat
 |0=>0
 |i+1=>if b9X (i+1) l<b9X (rbN l i) l then i+1 else rbN l i
theorem c7O(l:List Int):∀i,rbN l i≤i
 |0=>a44 _
 |i+1=>by
  have:=c7O l i
  simp only[rbN]
  split<;>omega
theorem b8b{k:Nat}(hk:k≤25){l:List Int}(hw:l.all a0b=true)(hl:l.length<10000):a3R ((k:Int),l)=some ((b9X k l:Nat):Int):=c1q hk hw hl
theorem d3J{a b:Nat}(h:a<b):decide ((a:Int)<(b:Int))=true:=decide_eq_true (by omega)
theorem d0W{a b:Nat}(h:¬ a<b):decide ((a:Int)<(b:Int))=false:=decide_eq_false (by omega)
theorem b9Y{l:List Int}(hw:l.all a0b=true)(hl:l.length<10000):b2J l=some ((rbN l 25:Nat):Int):=by
 have:=a3W (f:=a6w) (fun i:Nat=>(l,((rbN l i:Nat):Int),((b9X (rbN l i) l:Nat):Int),((i+1:Nat):Int),())) 25 (b:=(((rbN l 25:Nat):Int),()))
  (fun i hi=>by
   have d0:decide (((i+1:Nat):Int)≤25)=true:=decide_eq_true (by omega);have w1:wrap .i64 (((i+1:Nat):Int)+1)=((i+1+1:Nat):Int):=a0h (by omega);have hs:=b8b (k:=i+1) (by omega) hw hl
   by_cases hlt:b9X (i+1) l<b9X (rbN l i) l
   simp only[a6w,d0,cT,hs,oB,w1,d3J hlt,rbN,hlt,if_true];simp only[a6w,d0,cT,cF,hs,oB,w1,d0W hlt,rbN,hlt,if_false])
  (by
   have d0:decide (((25+1:Nat):Int)≤25)=false:=decide_eq_false (by omega);simp only[a6w,d0,cF])
 have h0:=b8b (k:=0) (by omega) hw hl;have e1:((0+1:Nat):Int)=1:=rfl;have e0:rbN l 0=0:=rfl;simp only[nZ]at h0;simp only[e0,nZ,e1]at this;unfold b2J;simp only[h0,oB,this]
def b4j(l:List Int):Int:=if 5+a0n l*l.length<b9X (rbN l 25) l then 31 else((rbN l 25:Nat):Int)
theorem d0X(l:List Int):kB (b4j l)=true:=by
 have:=c7O l 25
 unfold b4j;split;rfl;simp only[kB,a26,bA,dT];omega
theorem c3r{l:List Int}(hw:l.all a0b=true)(hl:l.length<10000):a9f l=some (b4j l):=by
 have h1:=c7O l 25;have hs:=b8b (k:=rbN l 25) h1 hw hl;unfold a9f b4j
 by_cases hlt:5+a0n l*l.length<b9X (rbN l 25) l
 simp only[b9Y hw hl,b5e hl,hs,oB,d3J hlt,cT,hlt,if_true];simp only[b9Y hw hl,b5e hl,hs,oB,d0W hlt,cF,hlt,if_false]
def a3d:List Nat→List Int→List Int
 | [],_=>[]
 |z::zs,l=>b4j (l.take z)::a3d zs (l.drop z)
theorem b7m:∀zs l,(a3d zs l).length=zs.length
 | [],_=>rfl
 |z::zs,l=>by simp[a3d,b7m zs]
theorem c3s:∀zs l,(a3d zs l).all kB=true
 | [],_=>rfl
 |z::zs,l=>by simp[a3d,c3s zs,d0X]
theorem b8H{zn:List Nat}{n warm most least order:Int}{L:List Int}{a b:Prt}(hz:zn.length≤256):∀(j i:Nat)(rest ks:List Int),i+j=zn.length→(zn.drop i).sum=rest.length→rest.all a0b=true→rest.length≤5000→ks.length=i→
  a0j a8a (n,warm,most,L,least,order,rest,((zn.length:Nat):Int),(i:Int),a1p zn,a,b,(order,ks,()),())=some (n,warm,most,L,least,order,a,b,(order,ks++a3d (zn.drop i) rest,()),())
 |0,i,rest,ks,h,_,_,_,_=>by
  obtain rfl:i=zn.length:=by omega
  rw[a23];exact a0q (by simp only[a8a,dge,cF,a3d,a35])
 |j+1,i,rest,ks,h,hr,hwr,hr5,hki=>by
  have hlt:i<zn.length:=by omega
  rw[b7U hlt]at hr;have h0:decide ((0:Int)≤(i:Int))=true:=by simp
  have h1:decide ((i:Int)<(((a1p zn).length:Nat):Int))=true:=by rw[a1I];simp;omega
  have h2:decide ((0:Int)≤((zn[i]:Nat):Int))=true:=by simp
  have h3:decide (((zn[i]:Nat):Int)≤((rest.length:Nat):Int))=true:=by simp;omega
  have hk:=c3r (b2e hwr zn[i]) (by rw[a07];omega);have hlim:lim (ks.length+1)=true:=a1u (by omega);rw[a03 hlt,a0t (s':=(n,warm,most,L,least,order,rest.drop zn[i],((zn.length:Nat):Int),((i+1:Nat):Int),a1p zn,a,b,(order,ks++[b4j (rest.take zn[i])],()),())) (by
   simp only[a8a,dlt hlt,h0,h1,a8D hlt,h2,h3,cT,a05,tN,hk,oB,hlim,a25,a0h (show i<1000000 by omega),a21])]
  rw[b8H hz j (i+1) _ _ (by omega) (by rw[a08];omega) (c7I hwr _) (by rw[a08];omega) (by simp;omega)];simp only[a3d,aA,a56]
def zsN(o n warm:Int):List Nat:=(a1z o n warm).map a39
def b4c(o n warm:Int)(l:List Int):Prt:=(o,a3d (zsN o n warm) l,())
def c3t(o n warm:Int)(l:List Int):Nat:=4+a9G (zsN o n warm) (a3d (zsN o n warm) l) l
def a1M(n warm:Int)(l:List Int):Nat→Prt×Nat
 |0=>((0,[],()),0)
 |i+1=>if(a1z (i:Int) n warm).length=0 then a1M n warm l i else
   if(a1M n warm l i).2=0∨c3t (i:Int) n warm l<(a1M n warm l i).2 then(b4c (i:Int) n warm l,c3t (i:Int) n warm l)else a1M n warm l i
def b8c(n warm:Int)(l:List Int):Prt:=(a1M n warm l 7).1
theorem c9q{o:Nat}{n warm:Int}{l:List Int}(hs:(a1z (o:Int) n warm).length≠0)(hl:(l.length:Int)=n-warm)(hw:l.all a0b=true)(h5:l.length≤5000):
  ∃zn,a1z (o:Int) n warm=a1p zn∧zsN (o:Int) n warm=zn∧zn.length≤256∧zn.sum=l.length∧a5Q (b4c (o:Int) n warm l) n warm=true∧PartsOk (b4c (o:Int) n warm l) n warm l zn:=by
 obtain⟨zn,g1,g2,g3⟩:=b6t hs;have ez:zsN (o:Int) n warm=zn:=by unfold zsN;rw[g1,b2P]
 have hp:a5Q (b4c (o:Int) n warm l) n warm=true:=by
  simp only[a5Q,b4c,bA,a34,beq_eq_false_iff_ne,ne_eq,beq_iff_eq];exact⟨hs,by rw[g1,a1I,b7m,ez],c3s _ _⟩
 obtain⟨zn',hok⟩:=PartsOk.of hp hl hw h5
 have:zn'=zn:=by
  have h1:=hok.sizes;simp only[b4c]at h1;rw[g1]at h1;rw[←b2P zn,h1,b2P]
 subst this;exact⟨_,g1,ez,g3,by omega,hp,hok⟩
theorem b8d{n warm:Int}{l:List Int}(hr:a5Z n warm=true)(hl:(l.length:Int)=n-warm)(hw:l.all a0b=true)(h5:l.length≤5000):∀i,1≤i→(a1M n warm l i).2≠0∧a5Q (a1M n warm l i).1 n warm=true
 |0,h=>absurd h (by omega)
 |i+1,_=>by
  by_cases hs:(a1z (i:Int) n warm).length=0
  ·simp only[a1M,hs,if_true];cases i with
   |zero=>exact absurd hs (d0T hr)
   |succ i=>exact b8d hr hl hw h5 (i+1) (by omega)
  ·obtain⟨zn,-,-,-,-,hp,-⟩:=c9q hs hl hw h5;simp only[a1M,hs,if_false];split;exact⟨by simp only[c3t];omega,hp⟩
   ·rename_i hne;cases i with
    |zero=>exact absurd (Or.inl rfl) hne
    |succ i=>exact b8d hr hl hw h5 (i+1) (by omega)
theorem d3K{n warm:Int}{l:List Int}(hr:a5Z n warm=true)(hl:(l.length:Int)=n-warm)(hw:l.all a0b=true)(h5:l.length≤5000):a5Q (b8c n warm l) n warm=true:=
 (b8d hr hl hw h5 7 (by omega)).2
theorem c6e{n warm:Int}{l:List Int}(hr:a5Z n warm=true)(hl:(l.length:Int)=n-warm)(hw:l.all a0b=true)(h5:l.length≤5000):
  b1r (n,warm,(6:Int),l)=some (b8c n warm l,0):=by
 have:=a3W (f:=a3o) (fun i:Nat=>(n,warm,(6:Int),l,(((a1M n warm l i).2:Nat):Int),(i:Int),((0:Int),([]:List Int),()),(a1M n warm l i).1,())) 7 (b:=(((0:Int),([]:List Int),()),b8c n warm l,()))
  (fun i hi=>by
   have d0:decide ((i:Int)≤a3Z (a2K 6 0) 8)=true:=decide_eq_true (by have:a3Z (a2K 6 0) 8=6:=rfl;omega);have w1:wrap .i64 ((i:Int)+1)=((i+1:Nat):Int):=a0h (by omega)
   by_cases hs:(a1z (i:Int) n warm).length=0
   have hb:((((a1z (i:Int) n warm).length:Nat):Int)==0)=true:=by rw[hs];rfl
   have eb:a1M n warm l (i+1)=a1M n warm l i:=by simp only[a1M,hs,if_true]
   simp only[a3o,d0,cT,a2t,oB,hb,w1,eb];have hb:((((a1z (i:Int) n warm).length:Nat):Int)==0)=false:=by simp only[beq_eq_false_iff_ne,ne_eq];omega
   obtain⟨zn,g1,ez,g3,g4,-,hok⟩:=c9q hs hl hw h5;have g5:=b8H (n:=n) (warm:=warm) (most:=6) (least:=(((a1M n warm l i).2:Nat):Int)) (order:=(i:Int)) (L:=l) (a:=((0:Int),([]:List Int),())) (b:=(a1M n warm l i).1) g3 zn.length 0 l [] (by omega) (by rw[a18];exact g4) hw h5 rfl;simp only[nZ,a18,a04]at g5;have hc:=c6c hok;simp only[b4c,ez]at hc;have hb':(((zn.length:Nat):Int)==0)=false:=by rw[←a1I zn,←g1];exact hb
   have el:(((a1p zn).length:Nat):Int)=((zn.length:Nat):Int):=by rw[a1I]
   have eP:b4c (i:Int) n warm l=((i:Int),a3d zn l,()):=by simp only[b4c,ez]
   have eC:c3t (i:Int) n warm l=4+a9G zn (a3d zn l) l:=by simp only[c3t,ez]
   by_cases hz:(a1M n warm l i).2=0
   have hz':((((a1M n warm l i).2:Nat):Int)==0)=true:=by rw[hz];rfl
   have eb:a1M n warm l (i+1)=(((i:Int),a3d zn l,()),4+a9G zn (a3d zn l) l):=by simp only[a1M,hs,if_false,hz,true_or,if_true,eP,eC]
   simp only[a3o,d0,cT,a2t,oB,g1,el,hb',cF,g5,hc,w1,eb,hz'];have hz':((((a1M n warm l i).2:Nat):Int)==0)=false:=by simp only[beq_eq_false_iff_ne,ne_eq];omega
   by_cases hlt:4+a9G zn (a3d zn l) l<(a1M n warm l i).2
   have eb:a1M n warm l (i+1)=(((i:Int),a3d zn l,()),4+a9G zn (a3d zn l) l):=by simp only[a1M,hs,if_false,hz,false_or,eP,eC,hlt,if_true]
   simp only[a3o,d0,cT,a2t,oB,g1,el,hb',cF,g5,hc,w1,eb,hz',d3J hlt];have eb:a1M n warm l (i+1)=a1M n warm l i:=by simp only[a1M,hs,if_false,hz,false_or,eP,eC,hlt]
   simp only[a3o,d0,cT,a2t,oB,g1,el,hb',cF,g5,hc,w1,eb,hz',d0W hlt])
  (by
   have d0:decide (((7:Nat):Int)≤a3Z (a2K 6 0) 8)=false:=decide_eq_false (by have:a3Z (a2K 6 0) 8=6:=rfl;omega);simp only[a3o,d0,cF,b8c])
 simp only[a1M,nZ]at this;unfold b1r;simp only[b2d hr hl hw h5,oB,bT,cF,this]
end Go.Ab
namespace Go.Ab
def a0U(k:Int)(s:Sub):Sub:=
 (k,(0:Int),(if k=2 then s.2.2.1 else 0),(if k=3∨k=4 then s.2.2.2.1 else 0),(if k=4 then s.2.2.2.2.1 else 0),(if k=3∨k=4 then s.2.2.2.2.2.1 else[]),
  ((if k=4 then s.2.2.2.2.2.2.1 else a00 3 (0:Int)),(if k=5 then s.2.2.2.2.2.2.2.1 else[]),([]:List Int),((0:Int),([]:List Int),()),([]:List Int),()))
def z0:Prt:=((0:Int),([]:List Int),())
def a2v(s:Sub)(w:Nat)(wm:List Int)(p:Prt)(r:List Int):Sub:=
 (s.1,(w:Int),s.2.2.1,s.2.2.2.1,s.2.2.2.2.1,s.2.2.2.2.2.1,s.2.2.2.2.2.2.1,s.2.2.2.2.2.2.2.1,wm,p,r,())
theorem d2m{s:Sub}(h:SmallS s)(k:Int):a6s (k,s)=some (a0U k s):=by
 have hc:short s.2.2.2.2.2.1:=by have:=h.coefs;unfold short;omega
 have hst:short s.2.2.2.2.2.2.2.1:=by have:=h.stages;unfold short;omega
 obtain⟨k',w,o,sh,lag,c,t,st,wm,p,r,u⟩:=s;simp only at hc hst;unfold a6s a0U
 by_cases k2:k=2
 subst k2;rfl
 by_cases k4:k=4
 subst k4;simp[b4a hc]
 by_cases k3:k=3
 subst k3;simp[b4a hc]
 by_cases k5:k=5
 subst k5;simp[c1m hst];have e2:(k==2)=false:=by simp[k2]
 have e3:(k==3)=false:=by simp[k3]
 have e4:(k==4)=false:=by simp[k4]
 have e5:(k==5)=false:=by simp[k5]
 simp[e2,e3,e4,e5,k2,k3,k4,k5]
theorem c7P{s:Sub}(h:SmallS s)(k:Int):SmallS (a0U k s):=by
 have h1:=h.coefs;have h2:=h.taps;have h3:=h.stages;refine⟨?_,?_,?_,by simp[a0U],by simp[a0U],by simp[a0U]⟩<;>simp only[a0U]<;>split<;>first|omega|simp
theorem d0Y{s:Sub}{k n:Int}:a4k (a0U k s).1 (a0U k s) n↔a4k k s n:=by
 unfold a4k a0U;constructor
 rintro(h|h|⟨h,h1⟩|⟨h,h1⟩|⟨h,h1⟩|⟨h,h1⟩)
 exact .inl h;exact .inr (.inl h);simp only at h;subst h;simpa using h1;simp only at h;subst h;simpa using h1;simp only at h;subst h;simpa using h1;simp only at h;subst h;simpa using h1
 rintro(h|h|⟨h,h1⟩|⟨h,h1⟩|⟨h,h1⟩|⟨h,h1⟩)
 exact .inl h;exact .inr (.inl h);subst h;simpa using h1;subst h;simpa using h1;subst h;simpa using h1;subst h;simpa using h1
open Classical in
def a4l (l:List Int):Nat:=if h:∃w,a9j l w then h.choose else 0
theorem d5v{l:List Int}{w:Nat}(h:a9j l w):a4l l=w:=by
 unfold a4l;rw[dif_pos ⟨w,h⟩];exact(Classical.choose_spec (⟨w,h⟩:∃w,a9j l w)).unique h
def a3C(l:List Int):List Int:=l.map fun x=>a0F .i64 x (a4l l:Int)
theorem b6v{l:List Int}(hs:short l)(hw:l.all a0b=true):a4f l=some ((a4l l:Nat):Int)∧a4l l≤30∧a9j l (a4l l):=by
 obtain⟨w,h1,h3,h4⟩:=c2c hs hw;rw[d5v h4];exact⟨h1,h3,h4⟩
theorem c3u{l:List Int}(hs:l.length≤4096)(hw:l.all a0b=true):b1z ((a4l l:Nat):Int) l=some (a3C l)∧(a3C l).all a0b=true∧(a3C l).length=l.length∧upO ((a4l l:Nat):Int) (a3C l)=some l:=by
 obtain⟨-,h3,h4⟩:=b6v (show short l by unfold short;omega) hw;have h:=d5u h3 hw h4;exact⟨h,d5s h3 h⟩
def a5h(k:Int)(s:Sub)(d:List Int):Option (List Int×List Int):=
 if k=2 then(bif (a2i s.2.2.1.toNat d).all a0b then some (d.take s.2.2.1.toNat,a2i s.2.2.1.toNat d)else none)
 else if k=3 then(b5L d s.2.2.2.2.2.1 s.2.2.2.1).map fun r=>(d.take s.2.2.2.2.2.1.length,r)
 else if k=4 then(b7k d s.2.2.2.2.1 s.2.2.2.2.2.2.1).bind fun x=>(b5L x s.2.2.2.2.2.1 s.2.2.2.1).map fun r=>(x.take s.2.2.2.2.2.1.length,r)
 else(b4i d s.2.2.2.2.2.2.2.1).map fun r=>([],r)
theorem c7Q{k:Int}{s:Sub}{d wm r:List Int}(hk:k=2∨k=3∨k=4∨k=5)(hf:a4k k s (d.length:Int))(hw:d.all a0b=true)(h:a5h k s d=some (wm,r)):
  wm.length≤d.length∧r.length=d.length-wm.length∧r.all a0b=true∧wm.all a0b=true:=by
 have hf':=hf;simp only[a4k]at hf';rcases hk with rfl|rfl|rfl|rfl
 ·have:0≤s.2.2.1∧s.2.2.1≤(d.length:Int):=by simp at hf';omega
  simp only[a5h,if_true]at h;cases hq:(a2i s.2.2.1.toNat d).all a0b with
  |false=>simp[hq]at h
  |true=>
   simp only[hq,cT,sj,pJ]at h;obtain⟨rfl,rfl⟩:=h;refine⟨by rw[a07];omega,by rw[a7J,a07];omega,hq,b2e hw _⟩
 have:(s.2.2.2.2.2.1.length:Int)≤(d.length:Int):=by simp at hf';omega
 simp only[a5h,show ¬ (3:Int)=2 by decide,if_false,if_true,a37,pJ]at h;obtain⟨r',h1,rfl,rfl⟩:=h;obtain⟨-,h2,h3⟩:=b7Z h1;exact⟨by rw[a07];omega,by rw[h3,a07];omega,h2,b2e hw _⟩
 have:(s.2.2.2.2.2.1.length:Int)≤(d.length:Int):=by simp at hf';omega
 simp only[a5h,show ¬ (4:Int)=2 by decide,show ¬ (4:Int)=3 by decide,if_false,if_true,a27,a37,pJ]at h;obtain⟨x,h0,r',h1,rfl,rfl⟩:=h;obtain⟨-,g2,g3⟩:=b9W h0;obtain⟨-,h2,h3⟩:=b7Z h1;exact⟨by rw[a07];omega,by rw[h3,a07];omega,h2,b2e g2 _⟩;simp only[a5h,show ¬ (5:Int)=2 by decide,show ¬ (5:Int)=3 by decide,show ¬ (5:Int)=4 by decide,if_false,a37,pJ]at h;obtain⟨r',h1,rfl,rfl⟩:=h;obtain⟨-,h2,h3⟩:=c3q h1;exact⟨by simp,by simpa using h3,h2,rfl⟩
theorem d3L{k:Int}{s:Sub}{d:List Int}(hk:k=2∨k=3∨k=4∨k=5)(h:SmallS s)(hf:a4k k s (d.length:Int))(hd:d.length≤4096)(hw:d.all a0b=true)(w:Nat):
  b2I (a2v (a0U k s) w [] z0 [],d)=some (match a5h k s d with|none=>(6,a2v (a0U k s) w [] z0 [])|some (wm,r)=>(0,a2v (a0U k s) w wm z0 r)):=by
 have ht:=h.taps;have hst:=h.stages;have hsd:short d:=by unfold short;omega
 obtain⟨k',w',o,sh,lag,c,t,st,wm',p,r',u⟩:=s;simp only[a4k]at hf ht hst;unfold b2I;rcases hk with rfl|rfl|rfl|rfl
 ·obtain⟨h0,h4,hn⟩:0≤o∧o≤4∧o≤(d.length:Int):=by simp at hf;omega
  obtain⟨O,rfl⟩:=a01 h0;have hst:short (d.take O):=by unfold short;rw[a07];omega
  have e2:decide ((O:Int)≤((d.length:Nat):Int))=true:=by simp;omega
  simp only[a2v,a0U,a5h,if_true,show((2:Int)==2)=true from rfl,cT,c6b (show O≤4 by omega) (show O≤d.length by omega) hsd hw,oB,tN];cases (a2i O d).all a0b with
  |false=>rfl
  |true=>simp[b0D,a2u,show O≤d.length by omega,a8A hst]
 ·obtain⟨hl,hn⟩:a9p c sh=true∧(c.length:Int)≤(d.length:Int):=by simpa using hf
  have hst:short (d.take c.length):=by unfold short;rw[a07];omega
  have e1:decide ((0:Int)≤((c.length:Nat):Int))=true:=by simp
  have e2:decide (((c.length:Nat):Int)≤((d.length:Nat):Int))=true:=by simp;omega
  simp only[a2v,a0U,a5h,show((3:Int)==2)=false from rfl,show((3:Int)==3)=true from rfl,show ¬ (3:Int)=2 by decide,show ¬ (3:Int)=4 by decide,show ¬ (3:Int)=5 by decide,true_or,if_true,if_false,cT,cF,b7j hl (show c.length≤d.length by omega) (show d.length<100000 by omega),oB];cases b5L d c sh with
  |none=>rfl
  |some r=>simp[a3e,b0D,a2u,show c.length≤d.length by omega,a8A hst]
 ·obtain⟨hl,hn,hlg⟩:a9p c sh=true∧(c.length:Int)≤(d.length:Int)∧b2L lag t=true:=by simpa using hf
  simp only[a2v,a0U,a5h,show((4:Int)==2)=false from rfl,show((4:Int)==3)=false from rfl,show((4:Int)==4)=true from rfl,show ¬ (4:Int)=2 by decide,show ¬ (4:Int)=3 by decide,show ¬ (4:Int)=5 by decide,or_true,if_true,if_false,cT,cF,c7J hlg ht (show d.length<100000 by omega),oB];cases hx:b7k d lag t with
  |none=>rfl
  |some x=>
   obtain⟨-,g2,g3⟩:=b9W hx;have hst:short (x.take c.length):=by unfold short;rw[a07];omega
   have e1:decide ((0:Int)≤((c.length:Nat):Int))=true:=by simp
   have e2:decide (((c.length:Nat):Int)≤((x.length:Nat):Int))=true:=by simp;omega
   simp only[a3e,show((0:Int)==0)=true from rfl,cT,b7j hl (show c.length≤x.length by omega) (show x.length<100000 by omega),oB];cases b5L x c sh with
   |none=>rfl
   |some r=>simp[a3e,b0D,a2u,show c.length≤x.length by omega,a8A hst]
 ·obtain⟨hn,hlr⟩:0<st.length∧a9D st=true:=by simpa using hf
  have hst:short (d.take 0):=by simp[short]
  simp only[a2v,a0U,a5h,show((5:Int)==2)=false from rfl,show((5:Int)==3)=false from rfl,show((5:Int)==4)=false from rfl,show((5:Int)==5)=true from rfl,show ¬ (5:Int)=2 by decide,show ¬ (5:Int)=3 by decide,show ¬ (5:Int)=4 by decide,or_self,if_true,if_false,cT,cF,c6d hlr (show d.length<100000 by omega),oB];cases b4i d st with
  |none=>rfl
  |some r=>
   have e1:decide ((0:Int)≤((d.length:Nat):Int))=true:=by simp
   have hc:=a8A hst;simp only[b29]at hc;simp[a3e,b0D,a2u,e1,hc]
end Go.Ab
namespace Go.Ab
open Classical in

def a3D (k:Int) (l:List Int) (s:Sub):Sub×Int:=
 if ¬ (1≤l.length∧l.length≤4096∧a4k k s (l.length:Int))then(b5J 0,1)
 else if l.all a0b=false then(b5J 0,6)
 else if k=0 then(bif l.all (fun x=>x==l.headD 0)then(a2v (a0U 0 s) 0 [l.headD 0] z0 [],0)else(b5J 0,7))
 else if k=1 then(a2v (a0U 1 s) (a4l l) (a3C l) z0 [],0)
 else match a5h k s (a3C l)with
  |none=>(b5J 0,6)
  |some (wm,r)=>(a2v (a0U k s) (a4l l) wm (b8c (l.length:Int) (wm.length:Int) r) r,0)
theorem d0Z{l:List Int}(h:1≤l.length):a0o l 0=some (l.headD 0):=by
 cases l with
 |nil=>simp at h
 |cons a l=>rfl
theorem c7R{l:List Int}(h1:1≤l.length)(hs:short l)(a b:Sub):
  a0j a5t (l,l,(l.length:Int),(0:Int),a,b,())=some (bif l.all (fun x=>x==l.headD 0)then .inl (l,a,b,())else .inr ((7:Int),b5J 0,())):=by
 have:=a1l (f:=a5t) l (fun i=>(l,l,(l.length:Int),(i:Int),a,b,())) (fun x=>x==l.headD 0) (bt:=Sum.inl (l,a,b,())) (bf:=Sum.inr ((7:Int),b5J 0,()))
  (fun i h hp=>by
   have hne:(l[i] != l.headD 0)=false:=by simpa using hp
   simp only[a5t,dlt h,cT,a0c h,oB,d0Z h1,hne,cF,a0h (a51 h hs)])
  (fun i h hp=>by
   have hne:(l[i] != l.headD 0)=true:=by simpa using hp
   simp only[a5t,dlt h,cT,a0c h,oB,d0Z h1,hne];rfl)
  (by simp[a5t])
 simpa using this
theorem c1r{k n:Int}{s:Sub}(h:a4k k s n)(h0:k≠0)(h1:k≠1):k=2∨k=3∨k=4∨k=5:=by
 rcases h with h|h|⟨h,-⟩|⟨h,-⟩|⟨h,-⟩|⟨h,-⟩;exact absurd h h0;exact absurd h h1;exact .inl h;exact .inr (.inl h);exact .inr (.inr (.inl h));exact .inr (.inr (.inr h))
theorem d5w{s:Sub}(h:SmallS s)(k:Int){l:List Int}(hl:l.length≤100000):b1s (k,l,s)=some (a3D k l s):=by
 have hs:short l:=by unfold short;omega
 unfold b1s a3D
 by_cases h1:1≤l.length
 rotate_left;have e:decide (((l.length:Nat):Int)<1)=true:=decide_eq_true (by omega);rw[if_pos (fun hc=>h1 hc.1)];simp only[e,cT,oB];rfl;have e1:decide (((l.length:Nat):Int)<1)=false:=decide_eq_false (by omega)
 by_cases h2:l.length≤4096
 rotate_left;have e:decide (((l.length:Nat):Int) > 4096)=true:=decide_eq_true (by omega);rw[if_pos (fun hc=>h2 hc.2.1)];simp only[e1,e,cT,cF,oB];rfl;have e2:decide (((l.length:Nat):Int) > 4096)=false:=decide_eq_false (by omega)
 by_cases h3:a4k k s (l.length:Int)
 rotate_left;have e3:b5b k s (l.length:Int)=false:=by simp[b5b,h3]
 rw[if_pos (fun hc=>h3 hc.2.2)];simp only[e1,e2,b7e h,e3,cF,a19,cT,oB];rfl;have e3:b5b k s (l.length:Int)=true:=by simp[b5b,h3]
 rw[if_neg (fun hc=>hc ⟨h1,h2,h3⟩)];simp only[e1,e2,b7e h,e3,cF,bT,oB,a6y hs];cases hw:l.all a0b with
 |false=>rfl
 |true=>
  simp only[bT,cF,d2m h,oB];rw[if_neg (by decide)]
  by_cases h0:k=0
  ·subst h0;have hf:=c7R h1 hs (b5J 0) (a0U 0 s);have ez:b5J 0=((0:Int),(0:Int),(0:Int),(0:Int),(0:Int),([]:(List Int)),a00 3 (0:Int),([]:(List (Int×Int×Unit))),([]:(List Int)),((0:Int),([]:(List Int)),()),([]:(List Int)),()):=rfl;rw[←ez,if_pos rfl];simp only[show((0:Int)==0)=true from rfl,cT,hf,oB];cases l.all (fun x=>x==l.headD 0)with
   |false=>rfl
   |true=>simp only[cT,d0Z h1,oB];rfl
  ·obtain⟨w1,w3,-⟩:=b6v hs hw;obtain⟨d1,d2,d3,-⟩:=c3u h2 hw;have he0:(k==0)=false:=by simp[h0]
   rw[if_neg h0];simp only[he0,cF,w1,oB,c4z w3 (show l.length<100000 by omega),d1,a3e,show((0:Int) != 0)=false from rfl]
   by_cases hk1:k=1
   subst hk1;rfl
   ·have he1:(k==1)=false:=by simp[hk1]
    have hk:=c1r h3 h0 hk1;rw[if_neg hk1];have hsp:=d3L hk h (d:=a3C l) (by rw[d3];exact h3) (by omega) d2 (a4l l);have e4:((a0U k s).1,((a4l l:Nat):Int),(a0U k s).2.2)=a2v (a0U k s) (a4l l) [] z0 []:=rfl;simp only[he1,cF,e4,hsp,oB];cases hr:a5h k s (a3C l)with
    |none=>rfl
    |some q=>
     obtain⟨wm,r⟩:=q;obtain⟨r1,r2,r3,-⟩:=c7Q hk (by rw[d3];exact h3) d2 hr;have hrow:a5Z (l.length:Int) (wm.length:Int)=true:=by simp only[a5Z,bA,dT];omega
     have hb:=c6e hrow (l:=r) (by omega) r3 (by omega);simp only[show((0:Int) != 0)=false from rfl,cF,a2v,hb,oB]
end Go.Ab
namespace Go.Ab
theorem d2n{p:Prt}{n warm:Int}(h:a5Q p n warm=true):p.2.1.length≤256:=by
 simp only[a5Q,bA,a34,beq_eq_false_iff_ne,ne_eq,beq_iff_eq]at h;obtain⟨zn,h1,-,h3⟩:=b6t h.1;rw[←h.2.1,h1,a1I];exact h3
theorem b8e{s:Sub}(h:SmallS s){w:Nat}{wm r:List Int}{p:Prt}(h1:wm.length≤5000)(h2:r.length≤5000)(h3:p.2.1.length≤300):SmallS (a2v s w wm p r):=
 ⟨h.coefs,h.taps,h.stages,h1,h2,h3⟩
theorem d1a{k:Int}{l:List Int}{s:Sub}(h0:(a3D k l s).2=0):
  1≤l.length∧l.length≤4096∧a4k k s (l.length:Int)∧l.all a0b=true∧
   ((k=0∧l.all (fun x=>x==l.headD 0)=true∧(a3D k l s).1=a2v (a0U 0 s) 0 [l.headD 0] z0 [])∨
    (k=1∧(a3D k l s).1=a2v (a0U 1 s) (a4l l) (a3C l) z0 [])∨
     ((k=2∨k=3∨k=4∨k=5)∧∃wm r,a5h k s (a3C l)=some (wm,r)∧(a3D k l s).1=a2v (a0U k s) (a4l l) wm (b8c (l.length:Int) (wm.length:Int) r) r)):=by
 unfold a3D at h0⊢
 split at h0
 cases h0;rename_i hc;have hc:1≤l.length∧l.length≤4096∧a4k k s (l.length:Int):=Classical.byContradiction hc;refine⟨hc.1,hc.2.1,hc.2.2,?_⟩;rw[if_neg (fun h=>h hc)]
 split at h0
 cases h0;rename_i hw;have hw':l.all a0b=true:=by simpa using hw
 refine⟨hw',?_⟩;rw[if_neg hw]
 split at h0
 ·rename_i k0;rw[if_pos k0];cases hq:l.all (fun x=>x==l.headD 0)with
  |false=>rw[hq]at h0;cases h0
  |true=>exact .inl ⟨k0,rfl,rfl⟩
 rename_i k0;rw[if_neg k0]
 split at h0
 rename_i k1;rw[if_pos k1];exact .inr (.inl ⟨k1,rfl⟩);rename_i k1;rw[if_neg k1];refine .inr (.inr ⟨c1r hc.2.2 k0 k1,?_⟩);cases hr:a5h k s (a3C l)with
 |none=>rw[hr]at h0;cases h0
 |some q=>
  obtain⟨wm,r⟩:=q;exact⟨wm,r,rfl,rfl⟩
theorem b5h{s:Sub}{k:Int}{w:Nat}{wm r:List Int}{p:Prt}:b7f (a2v (a0U k s) w wm p r):=by
 unfold b7f a2v a0U;refine⟨fun h=>if_neg h,fun h=>if_neg (not_or.2 h),fun h=>if_neg h,fun h=>if_neg h,fun h=>if_neg (not_or.2 h),fun h=>if_neg h⟩
theorem c2d{s:Sub}{k n:Int}{w:Nat}{wm r:List Int}{p:Prt}(h:a4k k s n):a4k (a2v (a0U k s) w wm p r).1 (a2v (a0U k s) w wm p r) n:=d0Y.2 h
theorem d3M{l:List Int}(h:l.all (fun x=>x==l.headD 0)=true):a00 l.length (l.headD 0)=l:=by
 refine(List.eq_replicate_iff.2 ⟨rfl,fun x hx=>?_⟩).symm
 have:=lA.1 h x hx
 simpa using this
theorem d5x{k:Int}{l:List Int}{s:Sub}(hS:SmallS s)(h0:(a3D k l s).2=0):
  SmallS (a3D k l s).1∧(a3D k l s).1.1=k∧a1F (a3D k l s).1 (l.length:Int)∧a3q (a3D k l s).1 (l.length:Int)=some l:=by
 obtain⟨h1,h2,hf,hw,hc⟩:=d1a h0;have hs:short l:=by unfold short;omega
 obtain⟨-,w3,-⟩:=b6v hs hw;obtain⟨d1,d2,d3,d4⟩:=c3u h2 hw;have key:∀m:Sub,a1F m (l.length:Int)→c4t m (l.length:Int)=some l→a3q m (l.length:Int)=some l:=fun m g1 g2=>by unfold a3q;rw[if_pos g1,g2]
 have hcs:=c7P hS k;rcases hc with⟨rfl,hall,e⟩|⟨rfl,e⟩|⟨hk,wm,r,hr,e⟩
 ·rw[e];have hst:a1F (a2v (a0U 0 s) 0 [l.headD 0] z0 []) (l.length:Int):=by
   have hh:a0b (l.headD 0)=true:=by
    cases l with
    |nil=>rfl
    |cons a l=>exact lA.1 hw _ a83
   exact⟨by omega,by omega,c2d hf,b5h,Int.le_refl _,(by decide:(0:Int)≤30),fun _=>rfl,rfl,by simp only[a2v,a09,hh,List.all_nil];rfl,rfl,fun _=>⟨rfl,rfl,rfl⟩,fun h=>absurd rfl h.1⟩
  refine⟨b8e hcs (by simp) (by simp) (by simp[z0]),rfl,hst,key _ hst ?_⟩;show some (a00 (l.length:Int).toNat (l.headD 0))=some l;rw[tN,d3M hall]
 rw[e];have hst:a1F (a2v (a0U 1 s) (a4l l) (a3C l) z0 []) (l.length:Int):=
  ⟨by omega,by omega,c2d hf,b5h,a99 _,(by show((a4l l:Nat):Int)≤30;omega),fun h=>absurd h (by decide:¬ (1:Int)=0),by show(((a3C l).length:Nat):Int)=(l.length:Int);rw[d3],d2,rfl,fun _=>⟨rfl,rfl,rfl⟩,fun h=>absurd rfl h.2⟩
 refine⟨b8e hcs (by omega) (by simp) (by simp[z0]),rfl,hst,key _ hst ?_⟩;show upO ((a4l l:Nat):Int) (a3C l)=some l;exact d4
 ·rw[e];obtain⟨r1,r2,r3,r4⟩:=c7Q hk (by rw[d3];exact hf) d2 hr;have hrow:a5Z (l.length:Int) (wm.length:Int)=true:=by simp only[a5Z,bA,dT];omega
  have hp:=d3K hrow (l:=r) (by omega) r3 (by omega);generalize b8c (l.length:Int) (wm.length:Int) r=p at hp;have hks:=d2n hp

  have hwb:a2u (a2v (a0U k s) (a4l l) wm p r) (l.length:Int)=(wm.length:Int)∧backP (a2v (a0U k s) (a4l l) wm p r)=some (a3C l):=by
   simp only[a4k]at hf;rcases hk with rfl|rfl|rfl|rfl
   ·obtain⟨q0,q4,qn⟩:0≤s.2.2.1∧s.2.2.1≤4∧s.2.2.1≤(l.length:Int):=by simp at hf;omega
    simp only[a5h,if_true]at hr;cases hq:(a2i s.2.2.1.toNat (a3C l)).all a0b with
    |false=>simp[hq]at hr
    |true=>
     simp only[hq,cT,sj,pJ]at hr;obtain⟨rfl,rfl⟩:=hr;refine⟨?_,?_⟩;show s.2.2.1=_;rw[a07];omega;show c1Y ((a3C l).take s.2.2.1.toNat) (a2i s.2.2.1.toNat (a3C l)) s.2.2.1=some (a3C l);have hb:=c7C d2 (o:=s.2.2.1.toNat) (by omega) ((a3C l).length-s.2.2.1.toNat) 0 (by omega);rw[a18,a66]at hb;unfold c1Y;rw[b2e d2,hq];exact hb
   have qn:(s.2.2.2.2.2.1.length:Int)≤(l.length:Int):=by simp at hf;omega
   simp only[a5h,show ¬ (3:Int)=2 by decide,if_false,if_true,a37,pJ]at hr;obtain⟨r',g1,rfl,rfl⟩:=hr;obtain⟨g2,-,-⟩:=b7Z g1;refine⟨?_,?_⟩;show((s.2.2.2.2.2.1.length:Nat):Int)=_;rw[a07];omega;exact g2;have qn:(s.2.2.2.2.2.1.length:Int)≤(l.length:Int):=by simp at hf;omega
   simp only[a5h,show ¬ (4:Int)=2 by decide,show ¬ (4:Int)=3 by decide,if_false,if_true,a27,a37,pJ]at hr;obtain⟨x,g0,r',g1,rfl,rfl⟩:=hr;obtain⟨f1,-,f3⟩:=b9W g0;obtain⟨g2,-,-⟩:=b7Z g1;refine⟨?_,?_⟩;show((s.2.2.2.2.2.1.length:Nat):Int)=_;rw[a07];omega;show(b4W (x.take s.2.2.2.2.2.1.length) r' s.2.2.2.2.2.1 s.2.2.2.1).bind (fun l=>b3Y l s.2.2.2.2.1 s.2.2.2.2.2.2.1)=_;rw[g2];exact f1;simp only[a5h,show ¬ (5:Int)=2 by decide,show ¬ (5:Int)=3 by decide,show ¬ (5:Int)=4 by decide,if_false,a37,pJ]at hr;obtain⟨r',g1,rfl,rfl⟩:=hr;obtain⟨g2,-,-⟩:=c3q g1;exact⟨rfl,g2⟩
  have hne:¬ (k=0∨k=1):=by rcases hk with rfl|rfl|rfl|rfl<;>decide
  have hst:a1F (a2v (a0U k s) (a4l l) wm p r) (l.length:Int):=by
   unfold a1F;rw[hwb.1];exact⟨by omega,by omega,c2d hf,b5h,a99 _,(by show((a4l l:Nat):Int)≤30;omega),fun h=>absurd (.inl h) hne,rfl,r4,r3,fun h=>absurd h hne,fun _=>⟨(by show((r.length:Nat):Int)=_;omega),hp⟩⟩
  refine⟨b8e hcs (by omega) (by omega) (by omega),rfl,hst,key _ hst ?_⟩;have e0:¬ (a2v (a0U k s) (a4l l) wm p r).1=0:=fun h=>hne (.inl h);unfold c4t;rw[if_neg e0,hwb.2];exact d4
end Go.Ab
namespace Go.Ab
theorem c2e{α A β:Type}(g:A→α→A)(fin:A→β):∀(l:List α)(a:A),b0p fin (a3p (fun a x=>.inl (g a x)) l a)=fin (l.foldl g a)
 | [],_=>rfl
 |x::l,a=>c2e g fin l (g a x)
end Go.Ab
namespace Go.Ab
theorem c3v{k n:Int}{s:Sub}(h:a4k k s n):0≤k∧k≤5:=by
 rcases h with h|h|⟨h,-⟩|⟨h,-⟩|⟨h,-⟩|⟨h,-⟩<;>omega
theorem c1s{s:Sub}{n:Int}(h:(a3q s n).isSome=true):a1F s n:=by
 unfold a3q at h
 split at h
 assumption
 cases h
end Go.Ab
namespace Go.Ab
structure Shifted (l m:List Int) (n:Nat):Prop where
 len:m.length=l.length
 wl:l.all a0b=true
 wm:m.all a0b=true
 down:a3C m=a3C l
 waste:a4l m=a4l l+n
 fl:l.all (fun x=>x==l.headD 0)=false
 fm:m.all (fun x=>x==m.headD 0)=false
structure BestIs (l:List Int) (cs:List Sub) (a:Int×(Bool×Sub)):Prop where
 one:a.2.1=true→∃c∈cs,(a3D c.1 l c).2=0∧a.2.2=(a3D c.1 l c).1∧a.1=c3n a.2.2 (l.length:Int)
 least:∀c∈cs,(a3D c.1 l c).2=0→a.2.1=true∧a.1≤c3n (a3D c.1 l c).1 (l.length:Int)
end Go.Ab
namespace Go.Ab
open IntKind(wrap)
def inW(x:Int)(v:Nat):Bool:=decide (x=0) || a2b x (v:Int)
theorem d3N{x:Int}{v:Nat}:a2b x (v:Int)=true↔1≤v∧v≤31∧-((2^(v-1):Nat):Int)≤x∧x≤((2^(v-1):Nat):Int)-1:=by
 by_cases hv:1≤v∧v≤31
 have e:((v:Int)-1)=((v-1:Nat):Int):=by omega
 have hp:2^(v-1)≤2^30:=a17 (by omega) (by omega);have hp1:=a36 (v-1);have e1:a0y .i64 1 ((v-1:Nat):Int)=((2^(v-1):Nat):Int):=c7D (by omega);have e2:a0y .i64 (-1) ((v-1:Nat):Int)=-((2^(v-1):Nat):Int):=by
  have em:min (a39 ((v-1:Nat):Int)) (IntKind.bits .i64)=v-1:=by simp only[tN,IntKind.bits];omega
  unfold a0y;rw[em,show(-1:Int)*2^(v-1)=-((2^(v-1):Nat):Int)by simp];exact a0g (by omega)
 have e3:wrap .i64 (((2^(v-1):Nat):Int)-1)=((2^(v-1):Nat):Int)-1:=a0g (by omega);simp only[a2b,e,e1,e2,e3,bA,dT];constructor;intro h;exact⟨hv.1,hv.2,h.2.2.1,h.2.2.2⟩;intro h;exact⟨by omega,by omega,h.2.2.1,h.2.2.2⟩;constructor;intro h;simp only[a2b,bA,dT]at h;omega;intro h;omega
theorem c4A{x:Int}{v:Nat}:inW x v=true↔x=0∨(1≤v∧v≤31∧-((2^(v-1):Nat):Int)≤x∧x≤((2^(v-1):Nat):Int)-1):=by
 simp only[inW,a26,dT,d3N]
theorem d3O{x:Int}{v w:Nat}(h:v≤w)(hw:w≤31)(hx:inW x v=true):inW x w=true:=by
 rw[c4A]at hx⊢;rcases hx with hx|⟨h1,h2,h3,h4⟩;exact .inl hx
 have:2^(v-1)≤2^(w-1):=a17 (by omega) (by omega)
 exact .inr ⟨by omega,hw,by omega,by omega⟩
theorem d3P{x:Int}(h:a0b x=true):inW x 31=true:=by
 have:=a2o.1 h
 rw[c4A];exact .inr ⟨by omega,by omega,by rw[show((2^(31-1):Nat):Int)=1073741824 from rfl];omega,by rw[show((2^(31-1):Nat):Int)=1073741824 from rfl];omega⟩
theorem c5x{x:Int}(hx:a0b x=true):∀(k w:Nat),w+k=32→w≤31→w≤a2h x k w∧a2h x k w≤31∧inW x (a2h x k w)=true∧∀v,w≤v→inW x v=true→v≤31→a2h x k w≤v
 |0,w,h,h31=>absurd h31 (by omega)
 |k+1,w,h,h31=>by
  by_cases hin:inW x w=true
  ·have:a2h x (k+1) w=w:=by
    unfold a2h;cases hc:(x != 0)&&!a2b x (w:Int)with
    |false=>rfl
    |true=>
     simp only[bA,bne_iff_ne,ne_eq,a34]at hc;simp only[inW,a26,dT,hc.2,Bool.false_eq_true,or_false]at hin;exact absurd hin hc.1
   rw[this];exact⟨a44 _,h31,hin,fun v hv _ _=>hv⟩
  have hc:((x != 0)&&!a2b x (w:Int))=true:=by
   simp only[inW,a26,dT,not_or,Bool.not_eq_true]at hin;simp only[bA,bne_iff_ne,ne_eq,a34];exact hin
  have hne:w≠31:=fun e=>hin (by rw[e];exact d3P hx);have e:a2h x (k+1) w=a2h x k (w+1):=by
   show(bif (x != 0)&&!a2b x (w:Int)then a2h x k (w+1)else w)=_;rw[hc,cT]
  obtain⟨g1,g2,g3,g4⟩:=c5x hx k (w+1) (by omega) (by omega);rw[e];refine⟨by omega,g2,g3,fun v hv hvi h31=>g4 v ?_ hvi h31⟩;rcases Nat.lt_or_ge w v with q|q;exact q
  have:v=w:=by omega
  exact absurd (this▸hvi) hin
theorem b5N:∀(l:List Int)(w:Nat),l.all a0b=true→w≤31→
  w≤l.foldl (fun w x=>a2h x (32-w) w) w∧l.foldl (fun w x=>a2h x (32-w) w) w≤31∧(∀x∈l,inW x (l.foldl (fun w x=>a2h x (32-w) w) w)=true)∧∀v,w≤v→v≤31→(∀x∈l,inW x v=true)→l.foldl (fun w x=>a2h x (32-w) w) w≤v
 | [],w,_,h31=>⟨a44 _,h31,by simp,fun v hv _ _=>hv⟩
 |x::l,w,h,h31=>by
  rw[a09,bA]at h;obtain⟨g1,g2,g3,g4⟩:=c5x h.1 (32-w) w (by omega) h31;obtain⟨f1,f2,f3,f4⟩:=b5N l (a2h x (32-w) w) h.2 g2;simp only[b25];refine⟨by omega,f2,fun y hy=>?_,fun v hv hv31 hall=>?_⟩;rcases mC.1 hy with rfl|hy;exact d3O f1 f2 g3;exact f3 y hy;exact f4 v (g4 v hv (hall x a83) hv31) hv31 fun y hy=>hall y (a92 _ hy)
theorem d3Q{l:List Int}(h:l.all a0b=true):∀x∈l,inW x (a0n l)=true:=(b5N l 0 h (by omega)).2.2.1
end Go.Ab
namespace Go.Ab
open IntKind(wrap)
@[reducible] def Rd:Type:=(List Int)×(Int×(Int×Unit))
def a1J(L:List Int):Prop:=∀b∈L,b=0∨b=1
def b4k(bs:List Int)(i:Nat):Bool:=(bs.getD (i / 8) 0).toNat.testBit (7-i%8)
theorem or8{x y:Nat}(hx:x<256)(hy:y<256):bits .u8 .or (x:Int) (y:Int)=((x ||| y:Nat):Int):=by
 show wrap .u8 (((a02 8 (x:Int)) ||| (a02 8 (y:Int))).toNat:Int)=_;rw[a29,a29,a65,a32,a32,a30 hx,a30 hy,b1t]
 have:x ||| y<2^8:=b06 hx hy
 omega
theorem e0S{b:Int}(hb:b=0∨b=1){r:Nat}(hr:r<8):a0y .u8 b (7-(r:Int))=((b.toNat*2^(7-r):Nat):Int):=by
 have key:∀r:Fin 8,a0y .u8 0 (7-(r.1:Int))=((0*2^(7-r.1):Nat):Int)∧a0y .u8 1 (7-(r.1:Int))=((1*2^(7-r.1):Nat):Int):=by decide +kernel
 rcases hb with rfl|rfl;exact(key ⟨r,hr⟩).1;exact(key ⟨r,hr⟩).2
theorem d3R{x:Nat}(hx:x<256){r:Nat}(hr:r<8):bits .u8 .and (a0F .u8 (x:Int) (7-(r:Int))) 1=if x.testBit (7-r)then 1 else 0:=by
 have e:a0F .u8 (x:Int) (7-(r:Int))=((x / 2^(7-r):Nat):Int):=by
  show Int.fdiv (x:Int) (2^(min (7-(r:Int)).toNat 8))=_;rw[show min (7-(r:Int)).toNat 8=7-r from by omega];rw[a60 _ (Int.le_of_lt (Int.pow_pos (by decide)))]
  simp
 rw[e];have hy:x / 2^(7-r)<256:=a53 (a54 _ _) hx;show wrap .u8 (((a02 8 ((x / 2^(7-r):Nat):Int)) &&& (a02 8 1)).toNat:Int)=_;rw[a29,a50,a32,a30 hy,show(a02 8 1).toNat=1 from by decide,b00,b1t,Nat.testBit_eq_decide_div_mod_eq]
 by_cases h:x / 2^(7-r)%2=1
 simp[h]
 have:x / 2^(7-r)%2=0:=by omega
 simp[this]
theorem d1b(bs:List Int)(j:Nat):(bs++[0]).getD j 0=bs.getD j 0:=by
 simp only[lD]
 by_cases h:j<bs.length
 rw[a62 h]
 ·rw[a24 (by omega),a76 (by omega:bs.length≤j)];cases h2:j-bs.length with
  |zero=>rfl
  |succ k=>rfl
theorem d2o(L:List Int)(b:Int)(i:Nat):(L++[b]).getD i 0=if i=L.length then b else L.getD i 0:=by
 simp only[lD]
 by_cases h:i<L.length
 rw[a62 h,if_neg (by omega)];rw[a24 (by omega)]
 by_cases e:i=L.length
 subst e;simp;rw[if_neg e,a76 (by simp;omega),a76 (by omega)]
theorem c7S(bs:List Int)(k:Nat)(y:Int)(hk:k<bs.length)(j:Nat):(bs.set k y).getD j 0=if j=k then y else bs.getD j 0:=by
 simp only[lD,List.getElem?_set]
 by_cases e:k=j
 subst e;simp[hk];rw[if_neg e,if_neg (Ne.symm e)]
theorem c5y:∀(n:Nat)(L:List Int),L.length=n→a1J L→(∀j,0≤(wL L).1.getD j 0∧(wL L).1.getD j 0<256)∧∀i,b4k (wL L).1 i=decide (L.getD i 0=1)
 |0,L,h,_=>by
  rw[a41.1 h];exact⟨fun j=>by simp[wL],fun i=>by simp[b4k,wL]⟩
 |n+1,L,h,hL=>by
  obtain⟨L',b,rfl⟩:∃L' b,L=L'++[b]:=by
   rcases a72 L with rfl|⟨L',b,e⟩;simp at h;exact⟨L',b,by rw[e,a73]⟩
  have hb:b=0∨b=1:=hL b (by simp);obtain⟨i1,i2⟩:=c5y n L' (by simpa using h) fun c hc=>hL c (by simp[hc]);obtain⟨h1,h2⟩:=a6a L';rw[c4v];generalize wL L'=wr at h1 h2 i1 i2⊢;obtain⟨bs,m,u⟩:=wr;have h1:m=(L'.length:Int):=h1;have h2:bs.length=(L'.length+7) / 8:=h2;subst h1;have e8:((L'.length:Int) / 8).toNat=L'.length / 8:=by omega
  have em:(L'.length:Int)%8=((L'.length%8:Nat):Int):=by omega
  obtain⟨bs1,hbs1,g1,g2⟩:∃bs1:List Int,(if(L'.length:Int)%8=0 then bs++[0]else bs)=bs1∧L'.length / 8<bs1.length∧∀j,bs1.getD j 0=bs.getD j 0:=by
   by_cases hz:(L'.length:Int)%8=0
   exact⟨bs++[0],by rw[if_pos hz],by simp;omega,d1b bs⟩;exact⟨bs,by rw[if_neg hz],by omega,fun _=>rfl⟩
  rw[em]at hbs1;have hr:L'.length%8<8:=a55 _ (by decide);obtain⟨x,hx⟩:∃x:Nat,bs.getD (L'.length / 8) 0=(x:Int):=a01 (i1 _).1;have hx256:x<256:=by
   have h6:bs.getD (L'.length / 8) 0<256:=(i1 (L'.length / 8)).2;omega
  have hy:b.toNat*2^(7-L'.length%8)<256:=by
   have hp:2^(7-L'.length%8)≤2^7:=a17 (by decide) (by omega);rcases hb with rfl|rfl<;>simp<;>omega
  have hor:x ||| b.toNat*2^(7-L'.length%8)<2^8:=b06 hx256 hy;have hbit:(c4u (bs,(L'.length:Int),u) b).1=bs1.set (L'.length / 8) ((x ||| b.toNat*2^(7-L'.length%8):Nat):Int):=by
   unfold c4u;simp only[hbs1,e8,em];rw[g2,hx,e0S hb hr,or8 hx256 hy]
  rw[hbit];refine⟨fun j=>?_,fun i=>?_⟩;rw[c7S _ _ _ g1];split;omega;rw[g2];exact i1 j;unfold b4k;rw[c7S _ _ _ g1,d2o];have hi:=i2 i;unfold b4k at hi
  by_cases hk:i / 8=L'.length / 8
  rw[if_pos hk,tN,Nat.testBit_or];rw[hk,hx,tN]at hi;rw[hi];have hbt:(b.toNat*2^(7-L'.length%8)).testBit (7-i%8)=(decide (b=1)&&decide (i=L'.length)):=by
   rcases hb with rfl|rfl
   simp
   have e:(1:Int).toNat*2^(7-L'.length%8)=2^(7-L'.length%8):=by simp
   rw[e,a94]
   by_cases hi':i=L'.length
   subst hi';simp
   have:¬ (7-L'.length%8=7-i%8):=by omega
   simp[hi',this]
  rw[hbt]
  by_cases hi':i=L'.length
  subst hi'
  have:L'.getD L'.length 0=0:=by simp[lD]
  simp
  simp[hi'];rw[if_neg hk,g2,hi,if_neg (fun e=>hk (by rw[e]))]
theorem d5y{L:List Int}(h:a1J L):(∀j,0≤(wL L).1.getD j 0∧(wL L).1.getD j 0<256)∧∀i,b4k (wL L).1 i=decide (L.getD i 0=1):=c5y _ L rfl h
def rdr(P R:List Int):Rd:=((wL (P++R)).1,(P.length:Int),(0:Int),())
theorem c4B{L:List Int}(hL:a1J L)(hl:L.length<1000000000){i:Nat}(hi:i<L.length)(t:Int×(Int×Unit)):
  a1T (((wL L).1,t),(i:Int))=some (L.getD i 0,(wL L).1,t):=by
 obtain⟨h1,h2⟩:=d5y hL;obtain⟨-,h3⟩:=a6a L;have ht:a40 (i:Int) 8=((i%8:Nat):Int):=by rw[a38 (by omega)];omega
 have hd:a63 (i:Int) 8=((i / 8:Nat):Int):=by rw[a43 (by omega)];omega
 have e1:wrap .i64 ((i / 8:Nat):Int)=((i / 8:Nat):Int):=a0g (by omega);have e2:wrap .i64 (7-((i%8:Nat):Int))=7-((i%8:Nat):Int):=a0g (by omega);have g:decide (7-((i%8:Nat):Int)<0)=false:=by simp;omega
 have hb:i / 8<(wL L).1.length:=by omega
 have hget:(wL L).1[i / 8]=(wL L).1.getD (i / 8) 0:=by simp[lD,hb]
 unfold a1T;simp only[ht,hd,e1,e2,g,a0c hb,oB,cF];obtain⟨x,hx⟩:∃x:Nat,(wL L).1.getD (i / 8) 0=(x:Int):=a01 (h1 _).1;have hx256:x<256:=by have:=(h1 (i / 8)).2;omega
 rw[hget,hx,d3R hx256 (a55 _ (by decide))]
 have:=h2 i
 unfold b4k at this;rw[hx,tN]at this;rw[this];have hv:L.getD i 0=0∨L.getD i 0=1:=by
  have:L.getD i 0=L[i]:=by simp[lD,hi]
  rw[this];exact hL _ (a06 hi)
 rcases hv with h|h<;>rw[h]<;>rfl
theorem d2p{v:Nat}(hv:v<18446744073709551616){i:Nat}(hi:i≤64):a6U (v:Int) i=((v / 2^i%2:Nat):Int):=by
 unfold a6U;rw[a8C hi];have hy:v / 2^i<18446744073709551616:=a53 (a54 _ _) hv;show wrap .u8 (wrap .u64 (((a02 64 ((v / 2^i:Nat):Int)) &&& (a02 64 1)).toNat:Int))=_;rw[a29,a50,a32,a30 hy,show(a02 64 1).toNat=1 from by decide,b00]
 have:v / 2^i%2<2:=a55 _ (by decide)
 rw[a0E (by omega),b1t];omega
theorem a1J.app{A B:List Int}(h:a1J A)(h':a1J B):a1J (A++B):=fun b hb=>(mA.1 hb).elim (h b) (h' b)
theorem orU{a b:Nat}(ha:a<18446744073709551616)(hb:b<2)(h2:a%2=0):bits .u64 .or (a:Int) (b:Int)=((a+b:Nat):Int):=by
 show wrap .u64 (((a02 64 (a:Int) ||| a02 64 (b:Int)).toNat:Nat):Int)=_;have h1:(a02 64 (a:Int)).toNat=a:=by rw[a28];omega
 have h2':(a02 64 (b:Int)).toNat=b:=by rw[a28];omega
 rw[a65,h1,h2'];have e:a ||| b=a+b:=by
  have:=a58 (i:=1) (b:=b) (by omega) (a / 2)
  rw[show 2^1*(a / 2)=a from by omega]at this;exact this.symm
 rw[e];exact a0E (by omega)
theorem d5z(P:List Int)(b:Int)(R:List Int):(P++b::R).getD P.length 0=b:=by
 simp[lD]
theorem c7T{v:Nat}(hv:v<9223372036854775808){n:Nat}(hn:n≤62):∀(m:Nat)(P R:List Int),m≤n→a1J (P++(pb (v:Int) m++R))→(P++(pb (v:Int) m++R)).length<1000000000→
  a0j a4x (((v / 2^m:Nat):Int),(n:Int),((n-m:Nat):Int),rdr P (pb (v:Int) m++R),())=some ((v:Int),rdr (P++pb (v:Int) m) R,())
 |0,P,R,_,_,_=>by
  have hd:decide (((n:Nat):Int)<(n:Int))=false:=by simp
  rw[a0q (b:=((v:Int),rdr P R,())) (by simp[a4x,pb,rdr])];simp[pb]
 |m+1,P,R,hm,hok,hlen=>by
  have hd:decide (((n-(m+1):Nat):Int)<(n:Int))=true:=by simp;omega
  have hlk:a1T (rdr P (pb (v:Int) (m+1)++R),(P.length:Int))=some (a6U v m,rdr P (pb (v:Int) (m+1)++R)):=by
   have:=c4B hok hlen (i:=P.length) (by simp[pb]) ((P.length:Int),(0:Int),())
   rw[show(P++(pb (v:Int) (m+1)++R)).getD P.length 0=a6U v m from by simp only[pb,a75];exact d5z _ _ _]at this;exact this
  have hbit:=d2p (v:=v) (by omega) (i:=m) (by omega);have hlt:v / 2^m%2<2:=a55 _ (by decide);have hdiv:v / 2^(m+1)=v / 2^m / 2:=by rw[a59,Nat.div_div_eq_div_mul]
  have hle:v / 2^m≤v:=a54 _ _;have hsh:a0y .u64 ((v / 2^(m+1):Nat):Int) 1=((v / 2^(m+1)*2^1:Nat):Int):=b3j (o:=1) (by omega) (by rw[hdiv];omega);have hacc:bits .u64 .or ((v / 2^(m+1)*2^1:Nat):Int) (wrap .u64 (a6U (v:Int) m))=((v / 2^m:Nat):Int):=by
   rw[hbit,a0E (by omega),orU (by rw[hdiv];omega) hlt (by omega),hdiv];congr 1;omega
  have hw1:wrap .i64 (((n-(m+1):Nat):Int)+1)=((n-m:Nat):Int):=by rw[a0g (by omega)];omega
  have hw2:wrap .i64 ((P.length:Int)+1)=(((P++[a6U v m]).length:Nat):Int):=by
   rw[a0g (by simp at hlen;omega)];simp
  have hassoc:P++(pb (v:Int) (m+1)++R)=(P++[a6U v m])++(pb (v:Int) m++R):=by simp[pb]
  have hre:((rdr P (pb (v:Int) (m+1)++R)).1,(((P++[a6U v m]).length:Nat):Int),(rdr P (pb (v:Int) (m+1)++R)).2.2)=rdr (P++[a6U v m]) (pb (v:Int) m++R):=by
   unfold rdr;rw[hassoc]
  rw[a0t (s':=(((v / 2^m:Nat):Int),(n:Int),((n-m:Nat):Int),rdr (P++[a6U v m]) (pb (v:Int) m++R),())) (by
   simp only[a4x,hd,cT];rw[show(rdr P (pb (v:Int) (m+1)++R)).2.1=(P.length:Int)from rfl,hlk];simp only[oB,hsh,hacc,hw1];rw[show(rdr P (pb (v:Int) (m+1)++R)).2.1=(P.length:Int)from rfl,hw2,hre])]
  rw[c7T hv hn m _ _ (by omega) (by rw[←hassoc];exact hok) (by rw[←hassoc];exact hlen)];simp[pb]
theorem d2q{v n:Nat}(hn:n≤62)(hv:v<2^n){P R:List Int}(hok:a1J (P++(pb (v:Int) n++R)))(hlen:(P++(pb (v:Int) n++R)).length<200000000):
  a0k (rdr P (pb (v:Int) n++R),(n:Int))=some ((v:Int),rdr (P++pb (v:Int) n) R):=by
 have hv63:v<9223372036854775808:=a96 hv (Nat.le_trans (a17 (by decide) hn) (by decide));have hk:=c7T hv63 hn n P R (by omega) hok (by omega);rw[b21 hv,Nat.sub_self]at hk;simp only[nZ,a16]at hk;obtain⟨-,hbl⟩:=a6a (P++(pb (v:Int) n++R));have hpl:=b5E (v:Int) n;have hll:(P++(pb (v:Int) n++R)).length=P.length+n+R.length:=by simp[b5E];omega
 have e8:wrap .i64 ((8:Int)*(((wL (P++(pb (v:Int) n++R))).1.length:Nat):Int))=(8:Int)*(((wL (P++(pb (v:Int) n++R))).1.length:Nat):Int):=a0g (by omega);have e9:wrap .i64 ((8:Int)*(((wL (P++(pb (v:Int) n++R))).1.length:Nat):Int)-(P.length:Int))=(8:Int)*(((wL (P++(pb (v:Int) n++R))).1.length:Nat):Int)-(P.length:Int):=a0g (by omega);have d1:decide ((n:Int)<0)=false:=by simp
 have d2:decide ((n:Int) > 64)=false:=by simp;omega
 have d3:decide ((n:Int) > (8:Int)*(((wL (P++(pb (v:Int) n++R))).1.length:Nat):Int)-(P.length:Int))=false:=by
  simp only[gt_iff_lt,decide_eq_false_iff_not,Int.not_lt];omega
 unfold a0k a3b;rw[show(rdr P (pb (v:Int) n++R)).2.2.1=0 from rfl];simp only[bne_self_eq_false,cF,d1,d2,oB];rw[show(rdr P (pb (v:Int) n++R)).1=(wL (P++(pb (v:Int) n++R))).1 from rfl,show(rdr P (pb (v:Int) n++R)).2.1=(P.length:Int)from rfl,e8,e9];simp only[d3,cF,hk,oB]
end Go.Ab
namespace Go.Ab
open IntKind(wrap)
def b6w(n:Nat)(x:Int):Prop:=-((2^n:Nat):Int)≤2*x∧2*x<((2^n:Nat):Int)
theorem c5z{n:Nat}(hn:n≤62)(x:Int):∃v:Nat,a0N x n=(v:Int)∧v<2^n∧(v:Int)=x%((2^n:Nat):Int):=by
 have hw:wrap .u64 x=x%18446744073709551616:=by simp[wrap,IntKind.bits,IntKind.signed]
 obtain⟨y,hy⟩:∃y:Nat,x%18446744073709551616=(y:Int):=a01 (Int.emod_nonneg _ (by decide));have hy2:y<18446744073709551616:=by omega
 refine⟨y%2^n,?_,a55 _ (a36 n),?_⟩;unfold a0N;rw[hw,hy];exact d3D hy2 hn;rw[Int.natCast_emod,←hy];refine Int.emod_emod_of_dvd x ?_
 have:(2:Nat)^n ∣ 2^64:=a80 2 (by omega)
 exact a33.2 this
theorem d2r{n:Nat}(hn:n≤62){x:Int}(hf:b6w n x){P R:List Int}(hok:a1J (P++(pb (a0N x n) n++R)))(hlen:(P++(pb (a0N x n) n++R)).length<200000000):
  a1c (rdr P (pb (a0N x n) n++R),(n:Int))=some (x,rdr (P++pb (a0N x n) n) R):=by
 obtain⟨v,hv,hlt,hmod⟩:=c5z hn x;rw[hv]at hok hlen⊢;have hget:=d2q hn hlt hok hlen;obtain⟨hf1,hf2⟩:=hf;have h2:=a36 n;have hvx:(v:Int)=x∧0≤x∨(v:Int)=x+((2^n:Nat):Int)∧x<0:=by
  by_cases h0:0≤x
  exact .inl ⟨by rw[hmod];exact b07 h0 (by omega),h0⟩;refine .inr ⟨?_,by omega⟩;rw[hmod,←Int.add_emod_right];exact b07 (by omega) (by omega)
 unfold a1c;simp only[hget,oB];rw[show(rdr (P++pb (v:Int) n) R).2.2.1=0 from rfl];simp only[bne_self_eq_false,cF,oB];cases n with
 |zero=>
  have hx0:x=0:=by simp at hf1 hf2;omega
  subst hx0;rfl
 |succ k=>
  have hne:(((k+1:Nat):Int)==0)=false:=by simp only[beq_eq_false_iff_ne];omega
  have e1:wrap .i64 ((64:Int)-((k+1:Nat):Int))=((64-(k+1):Nat):Int):=by rw[a0g (by omega)];omega
  have d1:decide (((64-(k+1):Nat):Int)<0)=false:=by simp
  simp only[hne,cF,e1,d1];have hm:64-(k+1)+(k+1)=64:=by omega
  generalize 64-(k+1)=m at hm⊢;have hpw:2^m*2^(k+1)=18446744073709551616:=by rw[←Nat.pow_add,hm]
  have hpwI:((2^m:Nat):Int)*((2^(k+1):Nat):Int)=18446744073709551616:=by rw[←a79,hpw];rfl
  have hp:=a36 m;have sh1:a0y .u64 (v:Int) (m:Int)=(v:Int)*((2^m:Nat):Int):=by
   show wrap .u64 ((v:Int)*2^(min (m:Int).toNat 64))=_;rw[tN,a64 (by omega)];have e:(2:Int)^m=((2^m:Nat):Int):=by simp
   rw[e];refine a0E ⟨a91 (by omega) (by omega),?_⟩
   have:v*2^m<2^(k+1)*2^m:=Nat.mul_lt_mul_of_pos_right hlt hp
   rw[←a79];rw[a81 (2^(k+1)),hpw]at this;omega
  have b1:-9223372036854775808≤x*((2^m:Nat):Int):=by
   have:=Int.mul_le_mul_of_nonneg_right hf1 (show(0:Int)≤((2^m:Nat):Int)by omega)
   have e:-((2^(k+1):Nat):Int)*((2^m:Nat):Int)=-18446744073709551616:=by rw[Int.neg_mul,a85,hpwI]
   rw[e,Int.mul_assoc]at this;omega
  have b2:x*((2^m:Nat):Int)<9223372036854775808:=by
   have:=Int.mul_lt_mul_of_pos_right hf2 (show(0:Int)<((2^m:Nat):Int)by omega)
   rw[a85 ((2^(k+1):Nat):Int),hpwI,Int.mul_assoc]at this;omega
  have w1:wrap .i64 ((v:Int)*((2^m:Nat):Int))=x*((2^m:Nat):Int):=by
   rcases hvx with⟨h,-⟩|⟨h,-⟩;rw[h];exact a0g (by omega);rw[h,Int.add_mul,a85 ((2^(k+1):Nat):Int),hpwI];generalize x*((2^m:Nat):Int)=y at b1 b2⊢;have hx0:y<0∨0≤y:=by omega
   simp only[wrap,IntKind.bits,IntKind.signed]
   simp
   split<;>omega
  have s1:a0F .i64 (x*((2^m:Nat):Int)) (m:Int)=x:=by
   show Int.fdiv (x*((2^m:Nat):Int)) (2^(min (m:Int).toNat 64))=x;rw[tN,a64 (by omega)];have e:(2:Int)^m=((2^m:Nat):Int):=by simp
   rw[e,a60 _ (by omega)];exact Int.mul_ediv_cancel _ (by omega)
  rw[sh1,w1,s1]
theorem d1c(P:List Int)(n:Nat)(R:List Int){c:Nat}(hc:c<n):(P++(a00 n 0++1::R)).getD (P.length+c) 0=0:=by
 simp only[lD];rw[a24 (by omega),a86,a62 (by simpa using hc)];simp[hc]
theorem d3S(P:List Int)(n:Nat)(R:List Int):(P++(a00 n 0++1::R)).getD (P.length+n) 0=1:=by
 simp only[lD];rw[a24 (by omega),a86,a24 (by simp)]
 simp
theorem d2s{n lm:Nat}(hn:n≤lm)(hlm:lm<1000000){P R:List Int}(hok:a1J (P++(a00 n 0++1::R)))(hlen:(P++(a00 n 0++1::R)).length<200000000):
  a2f (rdr P (a00 n 0++1::R),(lm:Int))=some ((n:Int),rdr (P++(a00 n 0++[1])) R):=by
 obtain⟨-,hbl⟩:=a6a (P++(a00 n 0++1::R));have hll:(P++(a00 n 0++1::R)).length=P.length+n+1+R.length:=by simp;omega
 have e8:wrap .i64 ((8:Int)*(((wL (P++(a00 n 0++1::R))).1.length:Nat):Int))=(8:Int)*(((wL (P++(a00 n 0++1::R))).1.length:Nat):Int):=a0g (by omega);have hlk:∀c,c≤n→a1T (rdr P (a00 n 0++1::R),((P.length:Int)+(c:Int)))=some (if c=n then 1 else 0,rdr P (a00 n 0++1::R)):=fun c hc=>by
  have:=c4B hok (by omega) (i:=P.length+c) (by omega) ((P.length:Int),(0:Int),())
  rw[b28]at this;refine this.trans ?_
  by_cases e:c=n
  subst e;rw[d3S,if_pos rfl];rfl;rw[d1c P n R (by omega),if_neg e];rfl
 have hend:∀c:Nat,c≤n→(((P.length:Int)+(c:Int))==(8:Int)*(((wL (P++(a00 n 0++1::R))).1.length:Nat):Int))=false:=fun c hc=>by
  simp only[beq_eq_false_iff_ne];omega
 have hP1:wrap .i64 ((P.length:Int)+(n:Int)+1)=(((P++(a00 n 0++[1])).length:Nat):Int):=by
  rw[a0g (by omega)];simp;omega
 have hassoc:P++(a00 n 0++1::R)=(P++(a00 n 0++[1]))++R:=by simp
 have hre:((rdr P (a00 n 0++1::R)).1,(((P++(a00 n 0++[1])).length:Nat):Int),(rdr P (a00 n 0++1::R)).2.2)=rdr (P++(a00 n 0++[1])) R:=by
  unfold rdr;rw[hassoc]
 have hr1:(rdr P (a00 n 0++1::R)).1=(wL (P++(a00 n 0++1::R))).1:=rfl;have hloop:=a3W (f:=a3U) (fun c:Nat=>((lm:Int),(c:Int),(P.length:Int)+(c:Int),rdr P (a00 n 0++1::R),())) n (b:=((n:Int),rdr (P++(a00 n 0++[1])) R,()))
  (fun c hc=>by
   have d1:((0:Int)==1)=false:=rfl;have d2:(((c:Nat):Int)==(lm:Int))=false:=by simp only[beq_eq_false_iff_ne];omega
   have w1:wrap .i64 ((c:Int)+1)=((c+1:Nat):Int):=a0h (by omega);have w2:wrap .i64 ((P.length:Int)+(c:Int)+1)=(P.length:Int)+((c+1:Nat):Int):=by rw[a0g (by omega)];omega
   simp only[a3U,hr1,e8,hend c (by omega),cF,hlk c (by omega),oB,if_neg (Nat.ne_of_lt hc),d1,d2,w1,w2])
  (by
   have d1:((1:Int)==1)=true:=rfl;simp only[a3U,hr1,e8,hend n (a44 _),cF,hlk n (a44 _),oB,if_pos rfl,d1,cT,hP1];rw[←hr1,hre];rfl)
 unfold a2f;rw[show(rdr P (a00 n 0++1::R)).2.2.1=0 from rfl,show(rdr P (a00 n 0++1::R)).2.1=(P.length:Int)from rfl];have hmx:a2K (lm:Int) 0=(lm:Int):=by
  have d:decide ((0:Int) > (lm:Int))=false:=by simp
  simp only[a2K,d,cF]
 simp only[nZ,Int.add_zero,a16]at hloop;simp only[bne_self_eq_false,cF,hmx,hloop,oB]
end Go.Ab
namespace Go.Ab
open IntKind(wrap)
def OkR(P R:List Int):Prop:=a1J (P++R)∧(P++R).length<200000000
theorem OkR.shift{P A R:List Int}(h:OkR P (A++R)):OkR (P++A) R:=by
 unfold OkR at h⊢
 rwa [aA]
theorem a4c{v n:Nat}(hn:n≤62)(hv:v<2^n){P R:List Int}(h:OkR P (pb (v:Int) n++R)):a0k (rdr P (pb (v:Int) n++R),(n:Int))=some ((v:Int),rdr (P++pb (v:Int) n) R):=d2q hn hv h.1 h.2
theorem b0E{n:Nat}(hn:n≤62){x:Int}(hf:b6w n x){P R:List Int}(h:OkR P (pb (a0N x n) n++R)):a1c (rdr P (pb (a0N x n) n++R),(n:Int))=some (x,rdr (P++pb (a0N x n) n) R):=d2r hn hf h.1 h.2
def unB(n:Nat):List Int:=a00 n 0++[1]
theorem c7U{n lm:Nat}(hn:n≤lm)(hlm:lm<1000000){P R:List Int}(h:OkR P (unB n++R)):a2f (rdr P (unB n++R),(lm:Int))=some ((n:Int),rdr (P++unB n) R):=by
 have e:unB n++R=a00 n 0++1::R:=by simp[unB]
 rw[e]at h⊢;exact d2s hn hlm h.1 h.2
theorem a2p{v n:Nat}(hn:n≤63)(hv:v<2^n)(L:List Int):a0z (v:Int) n L=L++pb (v:Int) n:=by
 unfold a0z;rw[a8C (N:=v) (o:=n) (by omega),b21 hv]
 simp
def b0e(k:Nat)(x:Int):List Int:=
 if a0v x / 2^k<32 then unB (a0v x / 2^k)++pb ((a0v x%2^k:Nat):Int) k else unB 32++pb ((a0v x:Nat):Int) 32
theorem d2t{k:Nat}(hk:k≤25){x:Int}(hx:a0b x=true)(L:List Int):b0d k x L=L++b0e k x:=by
 have hlt:=b2c hx;unfold b0d b0e;split;rw[a2p (by omega) (a55 _ (a36 k))];simp[unL,unB];rw[a2p (by omega) (by omega)];simp[unL,unB]
theorem d2u{x:Int}(hx:a0b x=true):a7n ((a0v x:Nat):Int)=some x:=by
 have hlt:=b2c hx;have hw:=a2o.1 hx;have ht:a40 ((a0v x:Nat):Int) 2=((a0v x:Nat):Int)%2:=a38 (by omega);have hd:a63 ((a0v x:Nat):Int) 2=((a0v x:Nat):Int) / 2:=a43 (by omega);have d1:decide (((a0v x:Nat):Int)≥2147483648)=false:=by simp only[ge_iff_le,decide_eq_false_iff_not];omega
 unfold a7n;simp only[d1,cF,ht,hd]
 by_cases h0:0≤x
 have e:((a0v x:Nat):Int)=2*x:=by unfold a0v;rw[if_pos h0];omega
 rw[e];have d2:((2*x)%2==(0:Int))=true:=by simp only[beq_iff_eq];omega
 have e2:2*x / 2=x:=by omega
 simp only[d2,cT,e2];rw[a0E (by omega),a0g (by omega)];have e:((a0v x:Nat):Int)=-2*x-1:=by unfold a0v;rw[if_neg h0];omega
 rw[e];have d2:((-2*x-1)%2==(0:Int))=false:=by simp only[beq_eq_false_iff_ne];omega
 have e2:(-2*x-1) / 2=-x-1:=by omega
 simp only[d2,cF,e2];rw[a0E (n:=-x-1) (by omega),a0g (n:=-x-1) (by omega),a0g (n:=0-(-x-1)) (by omega),a0g (by omega)];congr 1;omega
theorem c8R{k:Nat}(hk:k≤25){x:Int}(hx:a0b x=true){P R:List Int}(h:OkR P (b0e k x++R)):b3S (rdr P (b0e k x++R),(k:Int))=some (x,(0:Int),rdr (P++b0e k x) R):=by
 have hlt:=b2c hx;have hunf:=d2u hx;unfold b3S a0w;unfold b0e at h⊢;have hz:∀A B:List Int,(rdr A B).2.2.1=0:=fun _ _=>rfl;split;rename_i hq;rw[if_pos hq,aA]at h;have h1:=c7U (n:=a0v x / 2^k) (lm:=32) (by omega) (by omega) h;have h2:=a4c (n:=k) (v:=a0v x%2^k) (by omega) (a55 _ (a36 k)) h.shift;have e1:wrap .u64 ((a0v x / 2^k:Nat):Int)=((a0v x / 2^k:Nat):Int):=a4E (by omega);have d1:decide (((a0v x / 2^k:Nat):Int)<32)=true:=by simp only[dT];omega
 have d2:decide ((k:Int)<0)=false:=by simp
 have hmul:a0v x / 2^k*2^k≤a0v x:=Nat.div_mul_le_self _ _;have hsh:a0y .u64 ((a0v x / 2^k:Nat):Int) (k:Int)=((a0v x / 2^k*2^k:Nat):Int):=b3j (by omega) (by omega);have hsum:wrap .u64 (((a0v x / 2^k*2^k:Nat):Int)+((a0v x%2^k:Nat):Int))=((a0v x:Nat):Int):=by
  rw[←b28,Nat.div_add_mod',a0E (by omega)]
 rw[aA];have h1':a2f (rdr P (unB (a0v x / 2^k)++(pb ((a0v x%2^k:Nat):Int) k++R)),(32:Int))=_:=h1;simp only[h1',oB,hz,bne_self_eq_false,cF,e1,d1,cT,h2,d2,hsh,hsum,hunf];rw[aA];rename_i hq;rw[if_neg hq,aA]at h;have h1:=c7U (n:=32) (lm:=32) (by omega) (by omega) h;have h2:=a4c (n:=32) (v:=a0v x) (by omega) (by omega) h.shift;have e1:wrap .u64 (32:Int)=32:=a0E (by omega);have d1:decide ((32:Int)<32)=false:=by simp
 have d2:decide ((k:Int)<0)=false:=by simp
 have d3:decide (((a0v x:Nat):Int)≥2147483648)=false:=by simp only[ge_iff_le,decide_eq_false_iff_not];omega
 have hsr:a0F .u64 ((a0v x:Nat):Int) (k:Int)=((a0v x / 2^k:Nat):Int):=a8C (by omega);have d4:decide (((a0v x / 2^k:Nat):Int)<32)=false:=by simp only[decide_eq_false_iff_not];omega
 rw[aA];have h1':a2f (rdr P (unB 32++(pb ((a0v x:Nat):Int) 32++R)),(32:Int))=some ((32:Int),_):=h1;have h2':a0k (rdr (P++unB 32) (pb ((a0v x:Nat):Int) 32++R),(32:Int))=_:=h2;simp only[h1',oB,hz,bne_self_eq_false,cF,e1,d1,h2',d2,d3,hsr,d4,hunf];rw[aA]
def a3K(k:Nat)(l:List Int):List Int:=l.flatMap (b0e k)
theorem c3w{k:Nat}(hk:k≤25):∀(l L:List Int),l.all a0b=true→a7s k l L=L++a3K k l
 | [],L,_=>by simp[a7s,a3K]
 |x::l,L,h=>by
  simp only[a09,bA]at h;show a7s k l (b0d k x L)=_;rw[c3w hk l _ h.2,d2t hk h.1];simp[a3K]
theorem b8I{k:Nat}(hk:k≤25){N:Nat}(hN:N<1000000):∀(l done P R:List Int),l.all a0b=true→done.length+l.length=N→OkR P (a3K k l++R)→
  a0j a9Z ((k:Int),(N:Int),(done.length:Int),done,rdr P (a3K k l++R),())=some (Sum.inl (done++l,rdr (P++a3K k l) R,()))
 | [],done,P,R,_,hl,_=>by
  have:done.length=N:=by simpa using hl
  subst this;have d:decide ((done.length:Int)<(done.length:Int))=false:=by simp
  rw[a0q (b:=Sum.inl (done,rdr P R,())) (by simp only[a9Z,d,cF];simp[a3K])];simp[a3K]
 |x::l,done,P,R,h,hl,hok=>by
  simp only[a09,bA]at h;rw[lC]at hl;have e:a3K k (x::l)++R=b0e k x++(a3K k l++R):=by simp[a3K]
  rw[e]at hok⊢;have d:decide ((done.length:Int)<(N:Int))=true:=by simp;omega
  have h1:=c8R hk h.1 hok;have hlm:lim (a45 done+1)=true:=a1y (by omega);have hw:wrap .i64 ((done.length:Int)+1)=(((done++[x]).length:Nat):Int):=by rw[a0g (by omega)];simp
  rw[a0t (s':=((k:Int),(N:Int),(((done++[x]).length:Nat):Int),done++[x],rdr (P++b0e k x) (a3K k l++R),())) (by
   simp only[a9Z,d,cT,h1,oB,bne_self_eq_false,cF,hlm,hw,a21])]
  rw[b8I hk hN l (done++[x]) (P++b0e k x) R h.2 (by simp;omega) hok.shift];simp[a3K]
theorem c8S{k:Nat}(hk:k≤25){l P R:List Int}(h:l.all a0b=true)(hl:l.length<1000000)(hok:OkR P (a3K k l++R)):
  b3T (rdr P (a3K k l++R),(k:Int),((l.length:Nat):Int))=some (l,(0:Int),rdr (P++a3K k l) R):=by
 have hp:a2m (k:Int)=some true:=by
  unfold a2m;have d1:decide ((k:Int)≥0)=true:=by simp
  have d2:decide ((k:Int)≤25)=true:=by simp;omega
  simp[d1,d2]
 have d1:decide (((l.length:Nat):Int)<0)=false:=by simp
 have d2:decide (((l.length:Nat):Int) > 4194304)=false:=by simp;omega
 have hz:∀A B:List Int,(rdr A B).2.2.1=0:=fun _ _=>rfl;have hlp:=b8I hk hl l [] P R h (by simp) hok;simp only[a20,nZ,a04,a16]at hlp;unfold b3T a0w;simp only[hp,oB,bT,cF,d1,d2,hz,bne_self_eq_false]
 erw[hlp]
 rfl
end Go.Ab
namespace Go.Ab
open IntKind(wrap)
theorem d3T{x:Int}{v:Nat}(h:inW x v=true):b6w v x:=by
 have hp:=a36 v;rcases c4A.1 h with rfl|⟨h1,-,h3,h4⟩;exact⟨by omega,by omega⟩;have e:2^v=2^(v-1)*2:=by rw[←a59];congr 1;omega
 unfold b6w;rw[e];omega
theorem b8f{l:List Int}(h:l.all a0b=true):∀x∈l,b6w (a0n l) x:=fun x hx=>d3T (d3Q h x hx)
def sB(n:Nat)(l:List Int):List Int:=l.flatMap fun x=>pb (a0N x n) n
theorem b0F{n:Nat}(hn:n≤62):∀(l L:List Int),a2U n l L=L++sB n l
 | [],L=>by simp[a2U,sB]
 |x::l,L=>by
  show a2U n l (a0z (a0N x n) n L)=_;obtain⟨v,hv,hlt,-⟩:=c5z hn x;rw[b0F hn l,hv,a2p (by omega) hlt,←hv];simp[sB]
theorem c4C(n:Nat)(x:Int)(l R:List Int):sB n (x::l)++R=pb (a0N x n) n++(sB n l++R):=by simp[sB]
theorem b7n{k:Int}{n:Nat}(hn:n≤62){N:Nat}(hN:N<1000000):∀(l done P R:List Int),(∀x∈l,b6w n x)→done.length+l.length=N→OkR P (sB n l++R)→
  a0j a9d (k,(n:Int),(N:Int),(done.length:Int),done,rdr P (sB n l++R),())=some (k,(n:Int),done++l,rdr (P++sB n l) R,())
 | [],done,P,R,_,hl,_=>by
  have:done.length=N:=by simpa using hl
  subst this;have d:decide ((done.length:Int)<(done.length:Int))=false:=by simp
  rw[a0q (b:=(k,(n:Int),done,rdr P R,())) (by simp only[a9d,d,cF];simp[sB])];simp[sB]
 |x::l,done,P,R,h,hl,hok=>by
  rw[lC]at hl;rw[c4C]at hok⊢;have d:decide ((done.length:Int)<(N:Int))=true:=by simp;omega
  have h1:=b0E hn (h x (by simp)) hok;have hlm:lim (a45 done+1)=true:=a1y (by omega);have hw:wrap .i64 ((done.length:Int)+1)=(((done++[x]).length:Nat):Int):=by rw[a0g (by omega)];simp
  rw[a0t (s':=(k,(n:Int),(N:Int),(((done++[x]).length:Nat):Int),done++[x],rdr (P++pb (a0N x n) n) (sB n l++R),())) (by
   simp only[a9d,d,cT,h1,oB,hlm,hw,a21])]
  rw[b7n hn hN l (done++[x]) _ R (fun y hy=>h y (by simp[hy])) (by simp;omega) hok.shift];simp[sB]
def b1A(k:Int)(part:List Int):List Int:=if k=31 then pb 31 5++(pb ((a0n part:Nat):Int) 5++sB (a0n part) part)else pb k 5++a3K k.toNat part
theorem d2v{k:Int}(hk:kB k=true){part:List Int}(hw:part.all a0b=true)(L:List Int):b2O k part L=L++b1A k part:=by
 have hwd:=a4D hw;simp only[kB,a26,bA,dT,beq_iff_eq]at hk;obtain⟨K,rfl⟩:=a01 (show 0≤k by omega);unfold b2O b1A;rw[a4E (by omega)];have hA:=a2p (v:=K) (n:=5) (by omega) (by omega) L;split;rename_i h31;rw[b0F (by omega),a2p (v:=a0n part) (n:=5) (by omega) (by omega),hA,h31]
 simp
 rw[c3w (by omega) _ _ hw,hA]
 simp
theorem c7V{k:Int}(hk:kB k=true){part:List Int}(hw:part.all a0b=true)(hl:part.length<1000000){P R:List Int}(hok:OkR P (b1A k part++R)):
  b2F (rdr P (b1A k part++R),((part.length:Nat):Int))=some (k,part,(0:Int),rdr (P++b1A k part) R):=by
 have hwd:=a4D hw;have hz:∀A B:List Int,(rdr A B).2.2.1=0:=fun _ _=>rfl;simp only[kB,a26,bA,dT,beq_iff_eq]at hk;obtain⟨K,rfl⟩:=a01 (show 0≤k by omega);unfold b2F a0w;unfold b1A at hok⊢;split;rename_i h31;rw[if_pos h31,aA,aA]at hok;rw[aA,aA];obtain rfl:K=31:=by omega
 have h1:a0k (rdr P (pb 31 5++(pb ((a0n part:Nat):Int) 5++(sB (a0n part) part++R))),(5:Int))=_:=a4c (v:=31) (n:=5) (by omega) (by omega) hok;have hok2:=hok.shift;have h2:a0k (rdr (P++pb 31 5) (pb ((a0n part:Nat):Int) 5++(sB (a0n part) part++R)),(5:Int))=_:=a4c (v:=a0n part) (n:=5) (by omega) (by omega) hok2;have hlp:=b7n (k:=31) (n:=a0n part) (by omega) hl part [] _ R (b8f hw) (by simp) hok2.shift;simp only[a20,nZ,a04,a16]at hlp;have w1:wrap .i64 ((31:Nat):Int)=31:=by decide
 have w2:wrap .i64 ((a0n part:Nat):Int)=((a0n part:Nat):Int):=a0g (by omega);have d1:decide ((31:Int)≤25)=false:=by decide
 have d2:((31:Int) != 31)=false:=by decide
 rw[h1];simp only[oB,hz,bne_self_eq_false,cF,w1,d1]
 erw[h2]
 simp only[oB,w2]
 erw[hlp]
 simp only[oB,hz,bne_self_eq_false,cF,a2H (show short part from hl)]
 simp
 rename_i h31;rw[if_neg h31,aA]at hok;rw[aA];have hK:K≤25:=by omega
 have h1:a0k (rdr P (pb (K:Int) 5++(a3K ((K:Int).toNat) part++R)),(5:Int))=_:=a4c (v:=K) (n:=5) (by omega) (by omega) hok;have hr:=c8S hK hw hl hok.shift;have w1:wrap .i64 (K:Int)=(K:Int):=a0g (by omega);have d1:decide ((K:Int)≤25)=true:=by simp;omega
 rw[h1];simp only[oB,hz,bne_self_eq_false,cF,w1,d1,cT]
 erw[hr]
 simp
end Go.Ab
namespace Go.Ab
open IntKind(wrap)
def a2d:List Nat→List Int→List Int→List Int
 |z::zs,k::ks,l=>b1A k (l.take z)++a2d zs ks (l.drop z)
 |_,_,_=>[]
theorem c5A{l:List Int}(h:l.all a0b=true)(z:Nat):(l.take z).all a0b=true:=lA.2 fun x hx=>lA.1 h x (a47 hx)
theorem c5B{l:List Int}(h:l.all a0b=true)(z:Nat):(l.drop z).all a0b=true:=lA.2 fun x hx=>lA.1 h x (a48 hx)
theorem c3x:∀(zs:List Nat)(ks l L:List Int),ks.all kB=true→l.all a0b=true→a6C zs ks l L=L++a2d zs ks l
 |z::zs,k::ks,l,L,hk,hw=>by
  simp only[a09,bA]at hk;simp only[a6C,a2d];rw[c3x zs ks _ _ hk.2 (c5B hw z),d2v hk.1 (c5A hw z)]
  simp
 | [],_,_,L,_,_=>by simp[a6C,a2d]
 |_::_,[],_,L,_,_=>by simp[a6C,a2d]
theorem d2w(dz:List Nat)(z:Nat)(zs:List Nat):(a1p (dz++z::zs)).getD dz.length 0=(z:Int):=by
 simp[a1p,lD]
theorem b7o{o:Int}{z0:Prt}:∀(zs:List Nat)(ks l dk acc P R:List Int)(dz:List Nat),ks.length=zs.length→ks.all kB=true→zs.sum=l.length→l.all a0b=true→
  dk.length=dz.length→(dz++zs).length≤256→acc.length+l.length≤10000→OkR P (a2d zs ks l++R)→
  a0j a9e (((a1p (dz++zs)).length:Int),(dz.length:Int),acc,a1p (dz++zs),rdr P (a2d zs ks l++R),z0,(o,dk,()),()) =
   some (Sum.inl (acc++l,z0,(o,dk++ks,()),rdr (P++a2d zs ks l) R,()))
 | [],ks,l,dk,acc,P,R,dz,hk,_,hs,_,_,_,_,_=>by
  obtain rfl:ks=[]:=a41.1 hk;obtain rfl:l=[]:=a41.1 (by simpa using hs.symm);have d:decide ((dz.length:Int)<((a1p (dz++[])).length:Int))=false:=by simp[a1I]
  rw[a0q (b:=Sum.inl (acc,z0,(o,dk,()),rdr P R,())) (by simp only[a9e,d,cF];simp[a2d])];simp[a2d]
 |z::zs,[],_,_,_,_,_,_,hk,_,_,_,_,_,_,_=>by simp at hk
 |z::zs,k::ks,l,dk,acc,P,R,dz,hk,hkb,hs,hw,hd,h256,hacc,hok=>by
  simp only[a09,bA]at hkb;rw[a61]at hs;have hz:z≤l.length:=by omega
  have htl:(l.take z).length=z:=by rw[a07];omega
  have e:a2d (z::zs) (k::ks) l++R=b1A k (l.take z)++(a2d zs ks (l.drop z)++R):=by simp[a2d]
  rw[e]at hok⊢;have hlen:(a1p (dz++z::zs)).length=dz.length+1+zs.length:=by rw[a1I];simp;omega
  have d:decide ((dz.length:Int)<((a1p (dz++z::zs)).length:Int))=true:=by simp only[dT];omega
  have d0:decide ((0:Int)≤(dz.length:Int))=true:=by simp
  have hone:=c7V hkb.1 (c5A hw z) (by omega) hok;rw[htl]at hone;have hz0:((0:Int) != 0)=false:=rfl;rw[lN,lC]at h256;have hlm1:lim (a45 dk+1)=true:=a1y (by omega);have hlm2:lim (a45 acc+a45 (l.take z))=true:=a1y (by omega);have hw1:wrap .i64 ((dz.length:Int)+1)=(((dz++[z]).length:Nat):Int):=by rw[a0g (by omega)];simp
  have ea:dz++z::zs=(dz++[z])++zs:=by simp
  rw[a0t (s':=(((a1p ((dz++[z])++zs)).length:Int),(((dz++[z]).length:Nat):Int),acc++l.take z,a1p ((dz++[z])++zs),rdr (P++b1A k (l.take z)) (a2d zs ks (l.drop z)++R),z0,(o,dk++[k],()),())) (by
   simp only[a9e,d,d0,a05,cT,tN,d2w,hone,oB,hz0,cF,hlm1,hlm2,hw1,a21];rw[ea])]
  rw[b7o zs ks (l.drop z) (dk++[k]) (acc++l.take z) _ R (dz++[z]) (by simpa using hk) hkb.2 (by rw[a08];omega) (c5B hw z) (by simp[hd]) (by simp;omega) (by simp;omega) hok.shift];simp[a2d]
def a6J(p:Prt)(zn:List Nat)(l:List Int):List Int:=pb p.1 4++a2d zn p.2.1 l
theorem c6f{p:Prt}{n warm:Int}{l:List Int}{zn:List Nat}(h:PartsOk p n warm l zn)(L:List Int):a6I p zn l L=L++a6J p zn l:=by
 obtain⟨o,ks,u⟩:=p;have ho:=h.order;simp only at ho;obtain⟨O,rfl⟩:=a01 ho.1;unfold a6I a6J;simp only;rw[a4E (by omega),a2p (n:=4) (by omega) (by omega),c3x _ _ _ _ h.all h.wide]
 simp
theorem c7W{p:Prt}{n warm:Int}{l:List Int}{zn:List Nat}(h:PartsOk p n warm l zn){P R:List Int}(hok:OkR P (a6J p zn l++R)):
  b2G (rdr P (a6J p zn l++R),n,warm)=some (p,l,(0:Int),rdr (P++a6J p zn l) R):=by
 obtain⟨o,ks,u⟩:=p;have ho:=h.order;have h5:=h.short;have hlen:=h.len;simp only at ho;obtain⟨O,rfl⟩:=a01 ho.1;have hz:∀A B:List Int,(rdr A B).2.2.1=0:=fun _ _=>rfl;have hmay:=h.may;unfold a5Q at hmay;simp only[bA,a34,beq_eq_false_iff_ne]at hmay;have hs:=h.sizes;simp only at hs;have hne:(((a1p zn).length:Int)==0)=false:=by
  rw[beq_eq_false_iff_ne]
  have:=hmay.1
  rw[hs]at this;omega
 unfold a6J at hok⊢;simp only at hok⊢;rw[aA]at hok⊢;have h1:a0k (rdr P (pb (O:Int) 4++(a2d zn ks l++R)),(4:Int))=_:=a4c (v:=O) (n:=4) (by omega) (by omega) hok;have w1:wrap .i64 (O:Int)=(O:Int):=a0g (by omega);have hlp:=b7o (o:=(O:Int)) (z0:=((0:Int),([]:List Int),())) zn ks l [] [] _ R [] h.ks h.all h.sum h.wide rfl (by simpa using hlen) (by simp;omega) hok.shift;simp only[a20,nZ,a04,a16]at hlp;unfold b2G a0w;simp only[b4Z,h.row,oB,bT,cF];rw[h1];simp only[oB,hz,bne_self_eq_false,cF,w1,a2t,hs,hne]
 erw[hlp]
 simp
def a7t(s:Sub):List Int:=
 pb ((s.2.2.2.2.2.1.length-1:Nat):Int) 5++(pb s.2.2.2.1 4++(pb ((a0n s.2.2.2.2.2.1:Nat):Int) 5++sB (a0n s.2.2.2.2.2.1) s.2.2.2.2.2.1))
theorem c5C{c:List Int}{t:Int}(h:a9p c t=true):1≤c.length∧c.length≤32∧0≤t∧t≤15∧c.all a0b=true:=by
 simp only[a9p,bA,dT]at h;obtain⟨h1,h2,h3,h4,h5⟩:=h;refine⟨h1,h2,h3,h4,lA.2 fun x hx=>?_⟩
 have:=lA.1 h5 x hx
 simp only[c0m,bA,dT]at this;rw[a2o];omega
theorem c3y{s:Sub}(h:a9p s.2.2.2.2.2.1 s.2.2.2.1=true)(L:List Int):a9F s L=L++a7t s:=by
 obtain⟨h1,h2,h3,h4,h5⟩:=c5C h;have hwd:=a4D h5;unfold a9F a7t;generalize s.2.2.2.2.2.1=c at *;generalize s.2.2.2.1=t at *;obtain⟨T,rfl⟩:=a01 h3;have e1:wrap .u64 (wrap .i64 (((c.length:Nat):Int)-1))=((c.length-1:Nat):Int):=by rw[a0g (by omega),a0E (by omega)];omega
 have e2:wrap .u64 (T:Int)=(T:Int):=a0E (by omega);rw[e1,e2,b0F (by omega),a2p (v:=a0n c) (n:=5) (by omega) (by omega),a2p (v:=T) (n:=4) (by omega) (by omega),a2p (v:=c.length-1) (n:=5) (by omega) (by omega)]
 simp
def b6x(s:Sub)(c:List Int):Sub:=(s.1,s.2.1,s.2.2.1,s.2.2.2.1,s.2.2.2.2.1,c,s.2.2.2.2.2.2)
def c4D(s:Sub)(t:Int):Sub:=(s.1,s.2.1,s.2.2.1,t,s.2.2.2.2)
theorem c3z{n:Nat}(hn:n≤62){N:Nat}(hN:N<1000000)(s:Sub):∀(l done P R:List Int),(∀x∈l,b6w n x)→done.length+l.length=N→OkR P (sB n l++R)→
  a0j a6j ((n:Int),(N:Int),(done.length:Int),rdr P (sB n l++R),b6x s done,())=some ((n:Int),b6x s (done++l),rdr (P++sB n l) R,())
 | [],done,P,R,_,hl,_=>by
  have:done.length=N:=by simpa using hl
  subst this;have d:decide ((done.length:Int)<(done.length:Int))=false:=by simp
  rw[a0q (b:=((n:Int),b6x s done,rdr P R,())) (by simp only[a6j,d,cF];simp[sB])];simp[sB]
 |x::l,done,P,R,h,hl,hok=>by
  rw[lC]at hl;rw[c4C]at hok⊢;have d:decide ((done.length:Int)<(N:Int))=true:=by simp;omega
  have h1:=b0E hn (h x (by simp)) hok;have hlm:lim (a45 done+1)=true:=a1y (by omega);have hw:wrap .i64 ((done.length:Int)+1)=(((done++[x]).length:Nat):Int):=by rw[a0g (by omega)];simp
  rw[a0t (s':=((n:Int),(N:Int),(((done++[x]).length:Nat):Int),rdr (P++pb (a0N x n) n) (sB n l++R),b6x s (done++[x]),())) (by
   simp only[a6j,d,cT,h1,oB,b6x,hlm,hw,a21])]
  rw[c3z hn hN s l (done++[x]) _ R (fun y hy=>h y (by simp[hy])) (by simp;omega) hok.shift];simp[sB]
theorem c1t{s s0:Sub}(h:a9p s.2.2.2.2.2.1 s.2.2.2.1=true)(h0:s0.2.2.2.2.2.1=[]){P R:List Int}(hok:OkR P (a7t s++R)):
  a9c (rdr P (a7t s++R),s0)=some (true,rdr (P++a7t s) R,b6x (c4D s0 s.2.2.2.1) s.2.2.2.2.2.1):=by
 obtain⟨h1,h2,h3,h4,h5⟩:=c5C h;have hwd:=a4D h5;unfold a7t at hok⊢;generalize s.2.2.2.2.2.1=c at *;generalize s.2.2.2.1=t at *;obtain⟨T,rfl⟩:=a01 h3;simp only[aA]at hok⊢;have g1:a0k (rdr P (pb ((c.length-1:Nat):Int) 5++(pb (T:Int) 4++(pb ((a0n c:Nat):Int) 5++(sB (a0n c) c++R)))),(5:Int))=_:=a4c (v:=c.length-1) (n:=5) (by omega) (by omega) hok;have hok2:=hok.shift;have g2:a0k (rdr (P++pb ((c.length-1:Nat):Int) 5) (pb (T:Int) 4++(pb ((a0n c:Nat):Int) 5++(sB (a0n c) c++R))),(4:Int))=_:=a4c (v:=T) (n:=4) (by omega) (by omega) hok2;have hok3:=hok2.shift;have g3:a0k (rdr (P++pb ((c.length-1:Nat):Int) 5++pb (T:Int) 4) (pb ((a0n c:Nat):Int) 5++(sB (a0n c) c++R)),(5:Int))=_:=a4c (v:=a0n c) (n:=5) (by omega) (by omega) hok3;have hlp:=c3z (n:=a0n c) (by omega) (N:=c.length) (by omega) (c4D s0 (T:Int)) c [] _ R (b8f h5) (by simp) hok3.shift;simp only[a20,nZ,a04,a16]at hlp;have w1:wrap .i64 ((c.length-1:Nat):Int)=((c.length-1:Nat):Int):=a0g (by omega);have w2:wrap .i64 (((c.length-1:Nat):Int)+1)=(c.length:Int):=by rw[a0g (by omega)];omega
 have w3:wrap .i64 (T:Int)=(T:Int):=a0g (by omega);have w4:wrap .i64 ((a0n c:Nat):Int)=((a0n c:Nat):Int):=a0g (by omega);have hs0:((s0.1,s0.2.1,s0.2.2.1,(T:Int),s0.2.2.2.2):Sub)=b6x (c4D s0 (T:Int)) []:=by
  unfold b6x c4D;rw[←h0]
 unfold a9c;rw[g1];simp only[oB];rw[g2];simp only[oB];rw[g3];simp only[oB,w1,w2,w3,w4]
 erw[hs0,hlp]
 simp only[oB];rw[show(b6x (c4D s0 (T:Int)) c).2.2.2.2.2.1=c from rfl,a2H (show short c by unfold short;omega)]
 simp
end Go.Ab
namespace Go.Ab
open IntKind(wrap)
def a7P(st:List Stg):List Int:=st.flatMap fun g=>pb (g.1-1) 5++pb g.2.1 4
theorem c1u{g:Stg}(h:Ab.stageB g=true):1≤g.1∧g.1≤32∧0≤g.2.1∧g.2.1≤8:=by
 simp only[Ab.stageB,bA,dT]at h;exact⟨h.1,h.2.1,h.2.2.1,h.2.2.2⟩
theorem c1v:∀(st:List Stg)(L:List Int),st.all Ab.stageB=true→a6D st L=L++a7P st
 | [],L,_=>by simp[a6D,a7P]
 |g::st,L,h=>by
  simp only[a09,bA]at h;obtain⟨h1,h2,h3,h4⟩:=c1u h.1;show a6D st (b1x g L)=_;rw[c1v st _ h.2];obtain⟨a,b,u⟩:=g;simp only at h1 h2 h3 h4;obtain⟨B,rfl⟩:=a01 h3;obtain⟨A,hA⟩:=a01 (show 0≤a-1 by omega);unfold b1x;simp only;rw[hA,b5d (q:=A) (by omega),a4E (q:=A) (by omega),a4E (q:=B) (by omega),a2p (v:=A) (n:=5) (by omega) (by omega),a2p (v:=B) (n:=4) (by omega) (by omega)];simp[a7P,hA]
def a5i(s:Sub):List Int:=
 if s.1=2 then pb s.2.2.1 3
 else if s.1=3 then a7t s
 else if s.1=4 then pb (s.2.2.2.2.1-1) 10++(sB 8 s.2.2.2.2.2.2.1++a7t s)
 else if s.1=5 then pb ((s.2.2.2.2.2.2.2.1.length:Nat):Int) 2++a7P s.2.2.2.2.2.2.2.1
 else[]
theorem c5D{s:Sub}{n:Int}(h:a4k s.1 s n)(L:List Int):a3X s L=L++a5i s:=by
 unfold a3X a5i;rcases h with k|k|⟨k,h1,h2,-⟩|⟨k,h1,-⟩|⟨k,h1,-,h3⟩|⟨k,h1,h2⟩;simp[k];simp[k];rw[if_pos k,if_pos k];obtain⟨A,hA⟩:=a01 h1;rw[hA,a4E (by omega),a2p (n:=3) (by omega) (by omega)];rw[if_neg (by omega),if_pos k,if_neg (by omega),if_pos k,c3y h1];rw[if_neg (by omega),if_neg (by omega),if_pos k,if_neg (by omega),if_neg (by omega),if_pos k,c3y h1,b0F (by omega)];simp only[b2L,bA,dT]at h3;obtain⟨A,hA⟩:=a01 (show 0≤s.2.2.2.2.1-1 by omega);rw[hA,b5d (by omega),a4E (by omega),a2p (n:=10) (by omega) (by omega)]
 simp
 rw[if_neg (by omega),if_neg (by omega),if_neg (by omega),if_pos k,if_neg (by omega),if_neg (by omega),if_neg (by omega),if_pos k];simp only[a9D,bA,dT]at h2;rw[c1v _ _ h2.2,a4E (by omega),a2p (n:=2) (by omega) (by omega)]
 simp
def b5O(s:Sub):List Int:=pb s.1 3++(pb s.2.1 5++pb ((a0n s.2.2.2.2.2.2.2.2.1:Nat):Int) 5)
theorem d2x{s:Sub}(hk:0≤s.1∧s.1≤5)(hw:0≤s.2.1∧s.2.1≤30)(ha:s.2.2.2.2.2.2.2.2.1.all a0b=true)(L:List Int):b5G s L=L++b5O s:=by
 obtain⟨K,hK⟩:=a01 hk.1;obtain⟨w,hw'⟩:=a01 hw.1
 have:=a4D ha
 unfold b5G b5O;rw[hK,hw',a4E (q:=K) (by omega),a4E (q:=w) (by omega),a2p (v:=a0n s.2.2.2.2.2.2.2.2.1) (n:=5) (by omega) (by omega),a2p (v:=w) (n:=5) (by omega) (by omega),a2p (v:=K) (n:=3) (by omega) (by omega)]
 simp
def a4m(s:Sub):Sub:=(s.1,s.2.1,s.2.2.1,s.2.2.2.1,s.2.2.2.2.1,s.2.2.2.2.2.1,s.2.2.2.2.2.2.1,s.2.2.2.2.2.2.2.1,[],(0,[],()),[],())
theorem c1w{wd N:Nat}{ok:Bool}(hN:N<1000)(k w:Int):∀(st done:List Stg)(P R:List Int),st.all Ab.stageB=true→done.length+st.length=N→OkR P (a7P st++R)→
  a0j a6R ((wd:Int),ok,(N:Int),(done.length:Int),rdr P (a7P st++R),(k,w,0,0,0,[],[0,0,0],done,[],(0,[],()),[],()),()) =
   some ((wd:Int),ok,(k,w,0,0,0,[],[0,0,0],done++st,[],(0,[],()),[],()),rdr (P++a7P st) R,())
 | [],done,P,R,_,hl,_=>by
  have:done.length=N:=by simpa using hl
  subst this;have d:decide ((done.length:Int)<(done.length:Int))=false:=by simp
  rw[a0q (b:=((wd:Int),ok,(k,w,0,0,0,[],[0,0,0],done,[],(0,[],()),[],()),rdr P R,())) (by simp only[a6R,d,cF];simp[a7P])];simp[a7P]
 |g::st,done,P,R,h,hl,hok=>by
  simp only[a09,bA]at h;rw[lC]at hl;obtain⟨h1,h2,h3,h4⟩:=c1u h.1;obtain⟨a,b,u⟩:=g;simp only at h1 h2 h3 h4;obtain⟨B,rfl⟩:=a01 h3;obtain⟨A,hA⟩:=a01 (show 0≤a-1 by omega);obtain rfl:a=(A:Int)+1:=by omega
  have e:a7P (((A:Int)+1,(B:Int),u)::st)++R=pb (A:Int) 5++(pb (B:Int) 4++(a7P st++R)):=by simp[a7P]
  rw[e]at hok⊢;have d:decide ((done.length:Int)<(N:Int))=true:=by simp;omega
  have g1:a0k (rdr P (pb (A:Int) 5++(pb (B:Int) 4++(a7P st++R))),(5:Int))=_:=a4c (v:=A) (n:=5) (by omega) (by omega) hok;have hok2:=hok.shift;have g2:a0k (rdr (P++pb (A:Int) 5) (pb (B:Int) 4++(a7P st++R)),(4:Int))=_:=a4c (v:=B) (n:=4) (by omega) (by omega) hok2;have hlm:lim (a45 done+1)=true:=a1y (by omega);have w1:wrap .i64 (A:Int)=(A:Int):=a0g (by omega);have w2:wrap .i64 (B:Int)=(B:Int):=a0g (by omega);have w3:wrap .i64 ((A:Int)+1)=(A:Int)+1:=a0g (by omega);have hw:wrap .u64 ((done.length:Int)+1)=(((done++[((A:Int)+1,(B:Int),u)]).length:Nat):Int):=by rw[a0E (by omega)];simp
  rw[a0t (s':=((wd:Int),ok,(N:Int),(((done++[((A:Int)+1,(B:Int),u)]).length:Nat):Int),rdr (P++pb (A:Int) 5++pb (B:Int) 4) (a7P st++R),(k,w,0,0,0,[],[0,0,0],done++[((A:Int)+1,(B:Int),u)],[],(0,[],()),[],()),())) (by
    simp only[a6R,d,cT,g1,oB,g2,hlm,w1,w2,w3,hw,a21])]
  rw[c1w hN k w st (done++[((A:Int)+1,(B:Int),u)]) _ R h.2 (by simp;omega) hok2.shift];simp[a7P]
theorem c4E{x:Int}(h:b6q x=true):b6w 8 x:=by
 simp only[b6q,bA,dT]at h;unfold b6w;omega
theorem d2y{wd:Nat}{k w g:Int}{a b c:Int}(ha:b6q a=true)(hb:b6q b=true)(hc:b6q c=true){P R:List Int}(hok:OkR P (sB 8 [a,b,c]++R)):
  a0j a3O ((wd:Int),(0:Int),rdr P (sB 8 [a,b,c]++R),(k,w,0,0,g,[],[0,0,0],[],[],(0,[],()),[],()),()) =
   some ((wd:Int),rdr (P++sB 8 [a,b,c]) R,(k,w,0,0,g,[],[a,b,c],[],[],(0,[],()),[],()),()):=by
 have e:sB 8 [a,b,c]++R=pb (a0N a 8) 8++(pb (a0N b 8) 8++(pb (a0N c 8) 8++R)):=by simp[sB]
 rw[e]at hok⊢;have g1:a1c (rdr P (pb (a0N a 8) 8++(pb (a0N b 8) 8++(pb (a0N c 8) 8++R))),(8:Int))=_:=b0E (n:=8) (by omega) (c4E ha) hok;have hok2:=hok.shift;have g2:a1c (rdr (P++pb (a0N a 8) 8) (pb (a0N b 8) 8++(pb (a0N c 8) 8++R)),(8:Int))=_:=b0E (n:=8) (by omega) (c4E hb) hok2;have hok3:=hok2.shift;have g3:a1c (rdr (P++pb (a0N a 8) 8++pb (a0N b 8) 8) (pb (a0N c 8) 8++R),(8:Int))=_:=b0E (n:=8) (by omega) (c4E hc) hok3;have w0:wrap .i64 ((0:Int)+1)=1:=by decide
 have w1:wrap .i64 ((1:Int)+1)=2:=by decide
 have w2:wrap .i64 ((2:Int)+1)=3:=by decide
 have d0:decide ((0:Int)<3)=true:=by decide
 have d0':decide ((0:Int)≤0)=true:=by decide
 have d1:decide ((1:Int)<3)=true:=by decide
 have d1':decide ((0:Int)≤1)=true:=by decide
 have d2:decide ((2:Int)<3)=true:=by decide
 have d2':decide ((0:Int)≤2)=true:=by decide
 have d3:decide ((3:Int)<3)=false:=by decide
 rw[a0t (s':=((wd:Int),(1:Int),rdr (P++pb (a0N a 8) 8) (pb (a0N b 8) 8++(pb (a0N c 8) 8++R)),(k,w,0,0,g,[],[a,0,0],[],[],(0,[],()),[],()),())) (by
  simp only[a3O,d0,d0',a05,cT,g1,oB,w0];rfl)]
 rw[a0t (s':=((wd:Int),(2:Int),rdr (P++pb (a0N a 8) 8++pb (a0N b 8) 8) (pb (a0N c 8) 8++R),(k,w,0,0,g,[],[a,b,0],[],[],(0,[],()),[],()),())) (by
  simp only[a3O,d1,d1',a05,cT,g2,oB,w1];rfl)]
 rw[a0t (s':=((wd:Int),(3:Int),rdr (P++pb (a0N a 8) 8++pb (a0N b 8) 8++pb (a0N c 8) 8) R,(k,w,0,0,g,[],[a,b,c],[],[],(0,[],()),[],()),())) (by
  simp only[a3O,d2,d2',a05,cT,g3,oB,w2];rfl)]
 rw[a0q (b:=((wd:Int),rdr (P++pb (a0N a 8) 8++pb (a0N b 8) 8++pb (a0N c 8) 8) R,(k,w,0,0,g,[],[a,b,c],[],[],(0,[],()),[],()),())) (by
  simp only[a3O,d3,cF])]
 simp[sB]
end Go.Ab
namespace Go.Ab
open IntKind(wrap)
theorem d1d{s:Sub}{n:Int}(hs:a1F s n)(ht:s.2.2.2.2.2.2.1.length=3){P R:List Int}(hok:OkR P (b5O s++(a5i s++R))):
  a9Y (rdr P (b5O s++(a5i s++R)))=some (a4m s,((a0n s.2.2.2.2.2.2.2.2.1:Nat):Int),true,rdr (P++(b5O s++a5i s)) R):=by
 obtain⟨-,-,hf,ha,hw0,hw30,-,-,hww,-⟩:=hs;obtain⟨k,w,o,sh,g,c,t,st,wm,pr,re,u⟩:=s;have hk:=c3v hf;simp only at hk hw0 hw30 hww ht;have hwd:=a4D hww;obtain⟨K,rfl⟩:=a01 hk.1;obtain⟨W,rfl⟩:=a01 hw0;unfold b5O at hok⊢;simp only[aA]at hok⊢;have g1:a0k (rdr P (pb (K:Int) 3++(pb (W:Int) 5++(pb ((a0n wm:Nat):Int) 5++(a5i ((K:Int),(W:Int),o,sh,g,c,t,st,wm,pr,re,u)++R)))),(3:Int))=_:=a4c (v:=K) (n:=3) (by omega) (by omega) hok;have hok2:=hok.shift;have g2:a0k (rdr (P++pb (K:Int) 3) (pb (W:Int) 5++(pb ((a0n wm:Nat):Int) 5++(a5i ((K:Int),(W:Int),o,sh,g,c,t,st,wm,pr,re,u)++R))),(5:Int))=_:=a4c (v:=W) (n:=5) (by omega) (by omega) hok2;have hok3:=hok2.shift;have g3:a0k (rdr (P++pb (K:Int) 3++pb (W:Int) 5) (pb ((a0n wm:Nat):Int) 5++(a5i ((K:Int),(W:Int),o,sh,g,c,t,st,wm,pr,re,u)++R)),(5:Int))=_:=a4c (v:=a0n wm) (n:=5) (by omega) (by omega) hok3;have hok4:=hok3.shift;have wK:wrap .i64 (K:Int)=(K:Int):=a0g (by omega);have wW:wrap .i64 (W:Int)=(W:Int):=a0g (by omega);have wd:wrap .i64 ((a0n wm:Nat):Int)=((a0n wm:Nat):Int):=a0g (by omega);unfold a9Y;rw[g1];simp only[oB];rw[g2];simp only[oB];rw[g3];simp only[oB,wK,wW,wd];generalize hX:P++pb (K:Int) 3++pb (W:Int) 5++pb ((a0n wm:Nat):Int) 5=X at hok4⊢;have hX':∀B:List Int,P++(pb (K:Int) 3++(pb (W:Int) 5++(pb ((a0n wm:Nat):Int) 5++B)))=X++B:=fun B=>by rw[←hX];simp
 rw[hX'];obtain⟨a1,a2,a3,a4,a5,a6⟩:=ha;simp only at a1 a2 a3 a4 a5 a6;clear g1 g2 g3 hok hok2 hok3 hX hX';rcases hf with h|h|⟨h,h1,h2,-⟩|⟨h,h1,-⟩|⟨h,h1,-,h3⟩|⟨h,h1,h2⟩
 
 simp only at h;obtain rfl:=a1 (by omega);obtain rfl:=a2 (by omega);obtain rfl:=a3 (by omega);obtain rfl:=a4 (by omega);obtain rfl:=a5 (by omega);obtain rfl:=a6 (by omega);rw[h];have hb:a5i ((0:Int),(W:Int),0,0,0,[],[0,0,0],[],wm,pr,re,u)=[]:=rfl;rw[hb,a04,a35];rfl;simp only at h;obtain rfl:=a1 (by omega);obtain rfl:=a2 (by omega);obtain rfl:=a3 (by omega);obtain rfl:=a4 (by omega);obtain rfl:=a5 (by omega);obtain rfl:=a6 (by omega);rw[h];have hb:a5i ((1:Int),(W:Int),0,0,0,[],[0,0,0],[],wm,pr,re,u)=[]:=rfl;rw[hb,a04,a35];rfl;simp only at h h1 h2;obtain rfl:=a2 (by omega);obtain rfl:=a3 (by omega);obtain rfl:=a4 (by omega);obtain rfl:=a5 (by omega);obtain rfl:=a6 (by omega);rw[h]at hok4⊢;obtain⟨O,rfl⟩:=a01 h1;have hb:a5i ((2:Int),(W:Int),(O:Int),0,0,[],[0,0,0],[],wm,pr,re,u)=pb (O:Int) 3:=rfl;rw[hb]at hok4⊢;have e:((2:Int)==2)=true:=rfl;have g4:a0k (rdr X (pb (O:Int) 3++R),(3:Int))=_:=a4c (v:=O) (n:=3) (by omega) (by omega) hok4;have wO:wrap .i64 (O:Int)=(O:Int):=a0g (by omega);simp only[e,cT,g4,oB,wO];rfl;simp only at h h1;obtain rfl:=a1 (by omega);obtain rfl:=a3 (by omega);obtain rfl:=a4 (by omega);obtain rfl:=a6 (by omega);rw[h]at hok4⊢;have hb:a5i ((3:Int),(W:Int),0,sh,0,c,[0,0,0],[],wm,pr,re,u)=a7t ((3:Int),(W:Int),0,sh,0,c,[0,0,0],[],wm,pr,re,u):=rfl;rw[hb]at hok4⊢;have e2:((3:Int)==2)=false:=rfl;have e4:((3:Int)==4)=false:=rfl;have e3:((3:Int)==3)=true:=rfl;have g4:=c1t (s:=((3:Int),(W:Int),0,sh,0,c,[0,0,0],[],wm,pr,re,u)) (s0:=((3:Int),(W:Int),0,0,0,[],a00 3 0,[],[],(0,[],()),[],())) h1 rfl hok4;simp only[e2,e3,e4,cT,cF,oB]
 erw[g4]
 rfl
 ·simp only at h h1 h3;obtain rfl:=a1 (by omega);obtain rfl:=a6 (by omega);rw[h]at hok4⊢;simp only[b2L,bA,dT]at h3;obtain⟨h3,h5,h6⟩:=h3;obtain⟨A,hA⟩:=a01 (show 0≤g-1 by omega);obtain rfl:g=(A:Int)+1:=by omega
  obtain⟨x,y,z,rfl⟩:∃x y z,t=[x,y,z]:=by
   match t,ht with
   | [x,y,z],_=>exact⟨x,y,z,rfl⟩
  simp only[a09,List.all_nil,Bool.and_true,bA]at h6;have hb:a5i ((4:Int),(W:Int),0,sh,(A:Int)+1,c,[x,y,z],[],wm,pr,re,u)=pb (A:Int) 10++(sB 8 [x,y,z]++a7t ((4:Int),(W:Int),0,sh,(A:Int)+1,c,[x,y,z],[],wm,pr,re,u)):=by
   show pb ((A:Int)+1-1) 10++_=_;rw[hA]
  rw[hb]at hok4⊢;simp only[aA]at hok4⊢;have e2:((4:Int)==2)=false:=rfl;have e4:((4:Int)==4)=true:=rfl;have g4:a0k (rdr X (pb (A:Int) 10++(sB 8 [x,y,z]++(a7t ((4:Int),(W:Int),0,sh,(A:Int)+1,c,[x,y,z],[],wm,pr,re,u)++R))),(10:Int))=_:=a4c (v:=A) (n:=10) (by omega) (by omega) hok4;have hok5:=hok4.shift;have wA:wrap .i64 (A:Int)=(A:Int):=a0g (by omega);have wA1:wrap .i64 ((A:Int)+1)=(A:Int)+1:=a0g (by omega);have g5:=d2y (wd:=a0n wm) (k:=4) (w:=(W:Int)) (g:=(A:Int)+1) h6.1 h6.2.1 h6.2.2 hok5;have g6:=c1t (s:=((4:Int),(W:Int),0,sh,(A:Int)+1,c,[x,y,z],[],wm,pr,re,u)) (s0:=((4:Int),(W:Int),0,0,(A:Int)+1,[],[x,y,z],[],[],(0,[],()),[],())) h1 rfl hok5.shift;simp only[e2,e4,cT,cF,g4,oB,wA,wA1]
  erw[g5]
  simp only[oB]
  erw[g6]
  simp only[oB,a4m,b6x,c4D,aA]
 simp only at h h1 h2;obtain rfl:=a1 (by omega);obtain rfl:=a2 (by omega);obtain rfl:=a3 (by omega);obtain rfl:=a4 (by omega);obtain rfl:=a5 (by omega);rw[h]at hok4⊢;simp only[a9D,bA,dT]at h2;have hb:a5i ((5:Int),(W:Int),0,0,0,[],[0,0,0],st,wm,pr,re,u)=pb ((st.length:Nat):Int) 2++a7P st:=rfl;rw[hb]at hok4⊢;simp only[aA]at hok4⊢;have e2:((5:Int)==2)=false:=rfl;have e4:((5:Int)==4)=false:=rfl;have e3:((5:Int)==3)=false:=rfl;have e5:((5:Int)==5)=true:=rfl;have g4:a0k (rdr X (pb ((st.length:Nat):Int) 2++(a7P st++R)),(2:Int))=_:=a4c (v:=st.length) (n:=2) (by omega) (by omega) hok4;have g5:=c1w (wd:=a0n wm) (ok:=true) (N:=st.length) (by omega) (5:Int) (W:Int) st [] _ R h2.2 (by simp) hok4.shift;simp only[a20,nZ,a04,a16]at g5;simp only[e2,e3,e4,e5,cT,cF,oB]
 erw[g4]
 simp only[oB]
 erw[g5]
 simp only[oB,a4m,aA]
end Go.Ab
namespace Go.Ab
open IntKind(wrap)
def a8E(s:Sub)(zn:List Nat):List Int:=
 (b5O s++a5i s)++(sB (a0n s.2.2.2.2.2.2.2.2.1) s.2.2.2.2.2.2.2.2.1++if s.1=0∨s.1=1 then[]else a6J s.2.2.2.2.2.2.2.2.2.1 zn s.2.2.2.2.2.2.2.2.2.2.1)
theorem c1x{s:Sub}{n:Int}(hs:a1F s n){zn:List Nat}(hz:s.1≠0∧s.1≠1→PartsOk s.2.2.2.2.2.2.2.2.2.1 n ((s.2.2.2.2.2.2.2.2.1.length:Nat):Int) s.2.2.2.2.2.2.2.2.2.2.1 zn)(L:List Int):
  a7I s zn L=L++a8E s zn:=by
 obtain⟨-,-,hf,-,h5,h6,-,-,hw,-⟩:=hs;have hwd:=a4D hw;have hh:=d2x (c3v hf) ⟨h5,h6⟩ hw L;unfold a7I a8E
 by_cases hk:s.1=0∨s.1=1
 rw[if_pos hk,if_pos hk,b0F (by omega),c5D hf,hh]
 simp
 rw[if_neg hk,if_neg hk,c6f (hz (not_or.1 hk)),b0F (by omega),c5D hf,hh]
 simp
def a7Q(s:Sub)(l:List Int):Sub:=(s.1,s.2.1,s.2.2.1,s.2.2.2.1,s.2.2.2.2.1,s.2.2.2.2.2.1,s.2.2.2.2.2.2.1,s.2.2.2.2.2.2.2.1,l,s.2.2.2.2.2.2.2.2.2)
theorem c5E{wd:Nat}(hn:wd≤62){N:Nat}(hN:N<1000000)(n:Int)(ok:Bool)(z s:Sub):∀(l done P R:List Int),(∀x∈l,b6w wd x)→done.length+l.length=N→OkR P (sB wd l++R)→
  a0j b1l (n,(wd:Int),ok,(N:Int),(done.length:Int),rdr P (sB wd l++R),z,a7Q s done,())=some (n,(wd:Int),ok,rdr (P++sB wd l) R,z,a7Q s (done++l),())
 | [],done,P,R,_,hl,_=>by
  have:done.length=N:=by simpa using hl
  subst this;have d:decide ((done.length:Int)<(done.length:Int))=false:=by simp
  rw[a0q (b:=(n,(wd:Int),ok,rdr P R,z,a7Q s done,())) (by simp only[b1l,d,cF];simp[sB])];simp[sB]
 |x::l,done,P,R,h,hl,hok=>by
  rw[lC]at hl;rw[c4C]at hok⊢;have d:decide ((done.length:Int)<(N:Int))=true:=by simp;omega
  have h1:=b0E hn (h x (by simp)) hok;have hlm:lim (a45 done+1)=true:=a1y (by omega);have hw:wrap .i64 ((done.length:Int)+1)=(((done++[x]).length:Nat):Int):=by rw[a0g (by omega)];simp
  rw[a0t (s':=(n,(wd:Int),ok,(N:Int),(((done++[x]).length:Nat):Int),rdr (P++pb (a0N x wd) wd) (sB wd l++R),z,a7Q s (done++[x]),())) (by
   simp only[b1l,d,cT,h1,oB,a7Q,hlm,hw,a21])]
  rw[c5E hn hN n ok z s l (done++[x]) _ R (fun y hy=>h y (by simp[hy])) (by simp;omega) hok.shift];simp[sB]
theorem d1e{s:Sub}(h:SmallS s):SmallS (a4m s) where
 coefs:=h.coefs
 taps:=h.taps
 stages:=h.stages
 warm:=by show([]:List Int).length≤5000;simp
 rest:=by show([]:List Int).length≤5000;simp
 ks:=by show([]:List Int).length≤_;simp
theorem d5A{s:Sub}(h:SmallS s){n:Int}(ho:(a3q s n).isSome=true){zn:List Nat}(hz:s.1≠0∧s.1≠1→PartsOk s.2.2.2.2.2.2.2.2.2.1 n ((s.2.2.2.2.2.2.2.2.1.length:Nat):Int) s.2.2.2.2.2.2.2.2.2.2.1 zn)
  {P R:List Int}(hok:OkR P (a8E s zn++R)):b3f (rdr P (a8E s zn++R),n)=some (s,(0:Int),rdr (P++a8E s zn) R):=by
 have hs:=c1s ho;have hhead:=@d1d s n hs h.taps P;have hs':=hs;obtain⟨h1,h2,hf,-,-,-,-,hwl,hww,-,hno,-⟩:=hs';have hwd:=a4D hww;have hwlen:=h.warm;have d1:decide (n<1)=false:=by simp;omega
 have d2:decide (n > 4096)=false:=by simp;omega
 have hzr:∀A B:List Int,(rdr A B).2.2.1=0:=fun _ _=>rfl;have hfit:a8p ((a4m s).1,a4m s,n)=some true:=by
  rw[b7e (d1e h)];unfold b5b
  have:a4k (a4m s).1 (a4m s) n:=hf
  simp only[this,decide_true]
 have hwarm:a4T (a4m s,n)=some ((s.2.2.2.2.2.2.2.2.1.length:Nat):Int):=by
  rw[b0D]
  have:a2u (a4m s) n=a2u s n:=rfl
  rw[this,←hwl]
 have hmay:=c3h h n;rw[ho]at hmay;have hwidth:a1E s.2.2.2.2.2.2.2.2.1=some ((a0n s.2.2.2.2.2.2.2.2.1:Nat):Int):=a2H (by unfold short;omega);unfold b3f a0w;unfold a8E at hok⊢;simp only[aA]at hok⊢;have hok1:OkR (P++(b5O s++a5i s)) (sB (a0n s.2.2.2.2.2.2.2.2.1) s.2.2.2.2.2.2.2.2.1++((if s.1=0∨s.1=1 then[]else a6J s.2.2.2.2.2.2.2.2.2.1 zn s.2.2.2.2.2.2.2.2.2.2.1)++R)):=OkR.shift (by rw[aA];exact hok)
 have hW:=fun(ok:Bool) (z:Sub)=>c5E (wd:=a0n s.2.2.2.2.2.2.2.2.1) (by omega) (N:=s.2.2.2.2.2.2.2.2.1.length) (by omega) n ok z (a4m s) s.2.2.2.2.2.2.2.2.1 [] _ _ (b8f hww) (by simp) hok1;simp only[a20,nZ,a04,a16]at hW;simp only[d1,d2,cF,hzr,bne_self_eq_false,oB];rw[hhead hok];simp only[hzr,bne_self_eq_false,cF,oB,hfit,bT,hwarm];rw[show((a4m s:Sub))=a7Q (a4m s) []from rfl]
 erw[hW]
 simp only[oB,hzr,bne_self_eq_false,cF];rw[show(a7Q (a4m s) s.2.2.2.2.2.2.2.2.1).1=s.1 from rfl,a6G];simp only[oB]
 by_cases hk:s.1=0∨s.1=1
 have hd:decide (s.1≠0∧s.1≠1)=false:=by simp only[decide_eq_false_iff_not];omega
 have hsub:a7Q (a4m s) s.2.2.2.2.2.2.2.2.1=s:=by
  obtain⟨e1,e2,e3⟩:=hno hk;obtain⟨k,w,o,sh,g,c,t,st,wm,⟨p1,p2,u1⟩,re,u⟩:=s;simp only at e1 e2 e3;subst e1 e2 e3;rfl
 rw[hsub];simp only[hd,cF,bT,hwidth,oB,bne_self_eq_false,hmay,if_pos hk,a04,a35]
 simp
 have hd:decide (s.1≠0∧s.1≠1)=true:=by simp only[dT];omega
 have hp:=hz (not_or.1 hk);have hok2:=hok1.shift;rw[if_neg hk]at hok2;have hget:=c7W hp hok2;simp only[hd,cT,if_neg hk];rw[show(a7Q (a4m s) s.2.2.2.2.2.2.2.2.1).2.2.2.2.2.2.2.2.1=s.2.2.2.2.2.2.2.2.1 from rfl]
 erw[hget]
 have hz0:((0:Int) != 0)=false:=rfl;simp only[oB,hz0,cF,bT,hwidth,bne_self_eq_false];have hsub:((a7Q (a4m s) s.2.2.2.2.2.2.2.2.1).1,(a7Q (a4m s) s.2.2.2.2.2.2.2.2.1).2.1,(a7Q (a4m s) s.2.2.2.2.2.2.2.2.1).2.2.1,(a7Q (a4m s) s.2.2.2.2.2.2.2.2.1).2.2.2.1,(a7Q (a4m s) s.2.2.2.2.2.2.2.2.1).2.2.2.2.1,(a7Q (a4m s) s.2.2.2.2.2.2.2.2.1).2.2.2.2.2.1,(a7Q (a4m s) s.2.2.2.2.2.2.2.2.1).2.2.2.2.2.2.1,(a7Q (a4m s) s.2.2.2.2.2.2.2.2.1).2.2.2.2.2.2.2.1,s.2.2.2.2.2.2.2.2.1,s.2.2.2.2.2.2.2.2.2.1,s.2.2.2.2.2.2.2.2.2.2.1,(a7Q (a4m s) s.2.2.2.2.2.2.2.2.1).2.2.2.2.2.2.2.2.2.2.2)=s:=rfl
 erw[hsub]
 simp only[hmay,oB,bT,cF]
 simp
end Go.Ab
namespace Go.Ab
open IntKind(wrap)
theorem d7Q(y:Int):bits .u64 .and y 1=y%2:=by
 have h:((a02 64 y) &&& (a02 64 1)).toNat=(y%18446744073709551616).toNat%2:=by
  rw[a50,a28];have e:(a02 64 1).toNat=2^1-1:=by decide
  rw[e,a52];rfl
 show wrap .u64 ((((a02 64 y) &&& (a02 64 1)).toNat:Nat):Int)=_;rw[h,a0E (by omega)];omega
theorem a2w(v:Int):∀n,a1J (pb v n)
 |0=>fun b hb=>by cases hb
 |n+1=>fun b hb=>by
  rcases mC.1 hb with rfl|hb;unfold a6U;rw[d7Q,b1t];omega;exact a2w v n b hb
theorem c9r(n:Nat):a1J (unB n):=fun b hb=>by
 rcases mA.1 hb with hb|hb;exact .inl (b01.1 hb).2;exact .inr (by simpa using hb)
theorem b5P{α:Type}{f:α→List Int}{l:List α}(h:∀x,a1J (f x)):a1J (l.flatMap f):=fun b hb=>by
 obtain⟨x,-,hx⟩:=b22.1 hb;exact h x b hx
theorem d2z(k:Nat)(x:Int):a1J (b0e k x):=by
 unfold b0e;split;exact(c9r _).app (a2w _ _);exact(c9r _).app (a2w _ _)
theorem c0o(n:Nat)(l:List Int):a1J (sB n l):=b5P fun _=>a2w _ _
theorem d2A(k:Int)(l:List Int):a1J (b1A k l):=by
 unfold b1A;split;exact(a2w _ _).app ((a2w _ _).app (c0o _ _));exact(a2w _ _).app (b5P fun _=>d2z _ _)
theorem b8g:a1J []:=fun b hb=>by cases hb
theorem c3A:∀(zs:List Nat)(ks l:List Int),a1J (a2d zs ks l)
 |z::zs,k::ks,l=>by
  simp only[a2d];exact(d2A _ _).app (c3A zs ks _)
 | [],_,_=>by simp only[a2d];exact b8g
 |_::_,[],_=>by simp only[a2d];exact b8g
theorem c3B(s:Sub):a1J (a7t s):=(a2w _ _).app ((a2w _ _).app ((a2w _ _).app (c0o _ _)))
theorem d2B(s:Sub):a1J (a5i s):=by
 unfold a5i;split;exact a2w _ _;split;exact c3B s;split;exact(a2w _ _).app ((c0o _ _).app (c3B s));split;exact(a2w _ _).app (b5P fun _=>(a2w _ _).app (a2w _ _));exact b8g
theorem d3U(s:Sub)(zn:List Nat):a1J (a8E s zn):=by
 refine(((a2w _ _).app ((a2w _ _).app (a2w _ _))).app (d2B s)).app ((c0o _ _).app ?_);split;exact b8g;exact(a2w _ _).app (c3A _ _ _)
theorem d3V{s:Sub}(h:SmallS s){n:Int}(ho:(a3q s n).isSome=true){L:List Int}(hL:L.length<50000000):
  ∃zn,b0A (wL L,s,n)=some (0,wL (L++a8E s zn))∧a4y (s,n)=some (((a8E s zn).length:Nat):Int)∧(a8E s zn).length≤700000∧
   (s.1≠0∧s.1≠1→PartsOk s.2.2.2.2.2.2.2.2.2.1 n ((s.2.2.2.2.2.2.2.2.1.length:Nat):Int) s.2.2.2.2.2.2.2.2.2.2.1 zn):=by
 obtain⟨e,L',h1,-,h3,h4,-⟩:=c3m h (n:=n) (L:=L) (by omega);obtain⟨rfl,zn,rfl,hz⟩:=h4 ho;have hs:=c1s ho;rw[c1x hs hz]at h1 h3;refine⟨zn,h1,?_,by simp at h3;omega,hz⟩;rw[d5r h];unfold c3n;rw[if_pos ho,←c9n hz,c1x hs hz]
 simp
theorem d6q{L:List Int}(hL:L.length<1000000000):b3R (wL L).1=some (rdr [] L):=by
 obtain⟨-,h⟩:=a6a L;unfold b3R;rw[a1y (by omega)];rfl
theorem d3W{L:List Int}(hL:L.length<1000000000):a5f (wL L)=some ((wL L).1,wL L):=by
 obtain⟨-,h⟩:=a6a L;unfold a5f;rw[a1y (by omega)];rfl
end Go.Ab
namespace Go.Ab
end Go.Ab
namespace Go.Ab
open IntKind(wrap)
def a0C(n:Nat):List Int:=if h:n<128 then[(n:Int)]else((n%128+128:Nat):Int)::a0C (n / 128)
termination_by n
decreasing_by omega
theorem b7p{n:Nat}(h:n<128):a0C n=[(n:Int)]:=by rw[a0C,dif_pos h]
theorem b7q{n:Nat}(h:¬ n<128):a0C n=((n%128+128:Nat):Int)::a0C (n / 128):=by rw[a0C,dif_neg h]
theorem c2f:∀(k n:Nat),n<128^(k+1)→1≤(a0C n).length∧(a0C n).length≤k+1
 |0,n,h=>by rw[b7p (by omega)];simp
 |k+1,n,h=>by
  by_cases hn:n<128
  rw[b7p hn];simp;rw[b7q hn]
  have:=c2f k (n / 128) (by rw[a77 (by omega)];rw[a59]at h;exact h)
  simp only[lC];omega
theorem c9s:∀(k n:Nat)(a:List Int)(b c:Int)(out:List Int),n<128^(k+1)→k≤8→out.length+k<1000000→
  ∃r pre,a0j a8X ((n:Int),a,b,c,out,())=some (((r:Nat):Int),a,b,c,out++pre,())∧a0C n=pre++[(r:Int)]∧r<128
 |k,n,a,b,c,out,h,hk,ho=>by
  by_cases hn:n<128
  refine⟨n,[],?_,by rw[b7p hn];rfl,hn⟩;rw[a0q (b:=((n:Int),a,b,c,out,())) (by
   have d:decide ((n:Int)≥128)=false:=by simp;omega
   simp only[a8X,d,cF])]
  simp
  ·cases k with
   |zero=>omega
   |succ k=>
    have hd:n / 128<128^(k+1):=by rw[a77 (by omega)];rw[a59]at h;exact h
    have hn64:n<18446744073709551616:=by
     have:128^(k+1+1)≤128^9:=a17 (by omega) (by omega)
     have e:(128:Nat)^9=9223372036854775808:=by decide
     omega
    obtain⟨r,pre,h1,h2,h3⟩:=c9s k (n / 128) a b c (out++[((n%128+128:Nat):Int)]) hd (by omega) (by simp;omega);refine⟨r,((n%128+128:Nat):Int)::pre,?_,by rw[b7q hn,h2];rfl,h3⟩;have d:decide ((n:Int)≥128)=true:=by simp;omega
    have e1:wrap .u64 (a63 (n:Int) 128)=((n / 128:Nat):Int):=by
     rw[show a63 (n:Int) 128=((n / 128:Nat):Int)from rfl];exact a0E (by omega)
    have e2:wrap .u8 (wrap .u8 (a40 (n:Int) 128)+128)=((n%128+128:Nat):Int):=by
     rw[show a40 (n:Int) 128=((n%128:Nat):Int)from rfl,b1t,b1t];omega
    rw[a0t (s':=(((n / 128:Nat):Int),a,b,c,out++[((n%128+128:Nat):Int)],())) (by
     simp only[a8X,d,cT,a1y (show out.length+1<2147483648 by omega),e1,e2,a21])]
    rw[h1]
    simp
theorem b8h{α β γ:Type}(f:α→List γ):∀(l:List α)(a:List γ),a3p (β:=β) (fun a x=>.inl (a++f x)) l a=.inl (a++l.flatMap f)
 | [],a=>by simp[a3p]
 |x::l,a=>by simp only[a3p];rw[b8h f l];simp
def asI(ns:List Nat):List Int:=ns.map fun n:Nat=>(n:Int)
theorem c7X{ns:List Nat}(h:∀n∈ns,n<9223372036854775808)(hl:ns.length≤1000):b2B (asI ns)=some (ns.flatMap a0C):=by
 have hlen:(asI ns).length=ns.length:=by simp[asI]
 have:=a3c (f:=a8Y) (asI ns) (fun i (a:List Int)=>(asI ns,((asI ns).length:Int),(i:Int),a,())) (fun a x=>.inl (a++a0C x.toNat)) (fun i a=>a.length≤10*i) (fun a=>(a,()))
  (fun i hi a ha=>⟨fun a' ha'=>by
   have hi':i<ns.length:=by omega
   have hx:(asI ns)[i]=((ns[i]:Nat):Int):=by simp[asI]
   have hb:=h ns[i] (a06 hi');have hb9:ns[i]<128^(8+1):=by rw[show(128:Nat)^(8+1)=9223372036854775808 from by decide];exact hb
   obtain⟨r,pre,h1,h2,h3⟩:=c9s 8 ns[i] (asI ns) ((asI ns).length:Int) (i:Int) a hb9 (a44 _) (by omega);have hv:=c2f 8 ns[i] hb9;rw[h2]at hv;simp only[lN,lC,a20]at hv;simp only[hx,tN,h2,Sum.inl.injEq]at ha';subst ha';have e:wrap .u8 (r:Int)=(r:Int):=by rw[b1t];omega
   refine⟨?_,by simp;omega⟩;simp only[a8Y,dlt hi,cT,a0c hi,hx,oB,h1,a1y (show(a++pre).length+1<2147483648 by simp;omega),a0h (show i<1000000 by omega),e,a21,aA],fun b hb=>by cases hb⟩)
  (fun a ha=>by simp only[a8Y,dge,cF]) (a:=[]) (by simp)
 unfold b2B;simp only[nZ]at this;rw[this,b8h];simp[b0p,asI,List.flatMap_map]
theorem orA{a b k:Nat}(ha:a<2^k)(hs:b*2^k+a<18446744073709551616):bits .u64 .or (a:Int) ((b*2^k:Nat):Int)=((a+b*2^k:Nat):Int):=by
 show wrap .u64 (((a02 64 (a:Int) ||| a02 64 ((b*2^k:Nat):Int)).toNat:Nat):Int)=_;have h1:(a02 64 (a:Int)).toNat=a:=by rw[a28];omega
 have h2':(a02 64 ((b*2^k:Nat):Int)).toNat=b*2^k:=by rw[a28];omega
 rw[a65,h1,h2'];have e:a ||| b*2^k=a+b*2^k:=by
  have:=a58 (i:=k) (b:=a) ha b
  rw[Nat.or_comm,a81 b,←this,Nat.add_comm]
 rw[e];exact a0E (by omega)
theorem c1y{rest:List Int}:∀(j m i acc:Nat)(P:List Int),m<128^(j+1)→P.length=i→(i=0∨1≤m)→acc<2^(7*i)→m*2^(7*i)+acc<9223372036854775808→(P++(a0C m++rest)).length<1000000→
  a0j a6i ((acc:Int),P++(a0C m++rest),((P++(a0C m++rest)).length:Nat),(i:Int),())=some (.inr (((acc+m*2^(7*i):Nat):Int),((i+(a0C m).length:Nat):Int),(0:Int),()))
 |j,m,i,acc,P,hj,hP,hm,ha,hs,hl=>by
  have hi8:i≤8:=by
   rcases hm with h0|h1;omega;apply Classical.byContradiction;intro hi;have h2:2^(7*9)≤2^(7*i):=a17 (by omega) (by omega);have h3:2^(7*i)≤m*2^(7*i):=Nat.le_mul_of_pos_left _ (by omega);have e:(2:Nat)^(7*9)=9223372036854775808:=by decide
   omega
  have hw7:wrap .i64 ((7:Int)*(i:Int))=((7*i:Nat):Int):=by rw[a0g (by omega)];omega
  have hwn:decide ((((7*i:Nat):Int))<0)=false:=by simp;omega
  have hwi:wrap .i64 ((i:Int)+1)=((i+1:Nat):Int):=a0h (by omega);have d9:∀c:Nat,c<256→(i=9→False):=fun _ _ h=>by omega
  have h9:((i:Int)==9)=false:=by simp;omega
  have step:∀(c:Nat)(tl:List Int),c<256→a0C m=(c:Int)::tl→(i=0∨c≠0)→
    a6i ((acc:Int),P++(a0C m++rest),((P++(a0C m++rest)).length:Nat),(i:Int),()) =
     bif decide ((c:Int)<128)then some (.inr (Sum.inr (bits .u64 .or (acc:Int) (a0y .u64 (wrap .u64 (a40 (c:Int) 128)) ((7*i:Nat):Int)),((i+1:Nat):Int),(0:Int),())))
     else some (.inl (bits .u64 .or (acc:Int) (a0y .u64 (wrap .u64 (a40 (c:Int) 128)) ((7*i:Nat):Int)),P++(a0C m++rest),((P++(a0C m++rest)).length:Nat),((i+1:Nat):Int),())):=fun c tl hc hv h0=>by
   have hlt:i<(P++(a0C m++rest)).length:=by rw[hv];simp;omega
   have hg:a0o (P++(a0C m++rest)) (i:Int)=some (c:Int):=by
    rw[a0c hlt];congr 1;subst hP;simp[hv]
   have hz:(decide ((i:Int) > 0)=true→((c:Int)==0)=false):=fun h=>by
    simp only[dT]at h;simp only[beq_eq_false_iff_ne,ne_eq];omega
   simp only[a6i,dlt hlt,cT,hg,oB,h9,cF];cases hd:decide ((i:Int) > 0)with
   |true=>simp only[cT,oB,hz hd,cF,hw7,hwn,hwi]
   |false=>simp only[oB,cF,hw7,hwn,hwi]
  have val:∀c:Nat,c%128*2^(7*i)+acc<9223372036854775808→bits .u64 .or (acc:Int) (a0y .u64 (wrap .u64 (a40 (c:Int) 128)) ((7*i:Nat):Int))=((acc+c%128*2^(7*i):Nat):Int):=fun c hc=>by
   rw[show a40 (c:Int) 128=((c%128:Nat):Int)from rfl,a0E (by omega),b3j (by omega) (by omega)];exact orA ha (by omega)
  by_cases hm128:m<128
  rw[a0q (step m [] (by omega) (b7p hm128) (by omega) |>.trans (by
   have d:decide ((m:Int)<128)=true:=by simp;omega
   simp only[d,cT];rfl))]
  rw[val m (by rw[a30 hm128];exact hs),a30 hm128,b7p hm128];rfl
  ·cases j with
   |zero=>omega
   |succ j=>
    have hd:m / 128<128^(j+1):=by rw[a77 (by omega)];rw[a59]at hj;exact hj
    have hp7:2^(7*(i+1))=128*2^(7*i):=by rw[show 7*(i+1)=7+7*i from by omega,Nat.pow_add]
    have hmm:m*2^(7*i)=m%128*2^(7*i)+m / 128*2^(7*(i+1)):=by
     rw[hp7,←a93,←Nat.add_mul];congr 1;omega
    have hb:m%128*2^(7*i)≤127*2^(7*i):=a46 _ (by omega);rw[a0t (step (m%128+128) (a0C (m / 128)) (by omega) (b7q hm128) (by omega) |>.trans (by
     have d:decide (((m%128+128:Nat):Int)<128)=false:=by simp;omega
     simp only[d,cF];rfl))]
    rw[val (m%128+128) (by rw[b08,Nat.mod_mod];omega),b08,Nat.mod_mod];have e:P++(a0C m++rest)=(P++[((m%128+128:Nat):Int)])++(a0C (m / 128)++rest):=by rw[b7q hm128];simp
    rw[e]at hl⊢;have ih:=c1y j (m / 128) (i+1) (acc+m%128*2^(7*i)) (P++[((m%128+128:Nat):Int)]) hd (by simp[hP]) (.inr (by omega)) (by rw[hp7];omega) (by omega) hl;rw[ih,hmm,b7q hm128];congr 3;omega
    simp;omega
theorem d2C{n:Nat}(h:n<9223372036854775808){rest:List Int}(hl:(a0C n++rest).length<1000000):a9b (a0C n++rest)=some ((n:Int),(((a0C n).length:Nat):Int),(0:Int)):=by
 have:=c1y (rest:=rest) 8 n 0 0 [] (by rw[show(128:Nat)^(8+1)=9223372036854775808 from by decide];exact h) rfl (.inl rfl) (by simp) (by simpa using h) hl
 simp only[a04,nZ,Nat.mul_zero,Nat.pow_zero,a89,Nat.zero_add,a16]at this;unfold a9b;rw[this];rfl
end Go.Ab
namespace Go.Ab
open IntKind(wrap)
def ord(P R:List Int):List Int×(Int×Int×Unit):=(P++R,(P.length:Int),(0:Int),())
theorem a9H{n:Nat}(hn:n<9223372036854775808){most:Int}(hm:(n:Int)≤most){P R:List Int}(hl:(P++(a0C n++R)).length<1000000):
  a0W (ord P (a0C n++R),most)=some ((n:Int),ord (P++a0C n) R):=by
 have hd:b31 (a39 (P.length:Int)) (b09 (P++(a0C n++R)).length (P++(a0C n++R)))=a0C n++R:=by
  rw[a25,tN,List.drop_left]
 have h0:((0:Int) != 0)=false:=rfl;have d1:decide ((0:Int)≤(P.length:Int))=true:=by simp
 have d2:decide ((P.length:Int)≤((P++(a0C n++R)).length:Int))=true:=by simp;omega
 have d3:decide ((n:Int) > most)=false:=by simp;omega
 have hlv:(a0C n++R).length<1000000:=by rw[lN]at hl;omega
 have hw:wrap .i64 ((P.length:Int)+((a0C n).length:Int))=(((P++a0C n).length:Nat):Int):=by
  rw[a0g (by simp only[lN]at hl;omega)];simp
 unfold a0W ord;simp only[h0,cF,d1,d2,a05,cT];rw[hd,d2C hn hlv];simp only[oB,beq_self_eq_true,cT,d3,cF,h0,hw,aA]
def a9s(g:Int):Nat:=if 0≤g then(2*g).toNat else(-2*g-1).toNat
theorem d6r{g:Int}(h:-100000≤g∧g≤100000):b2A g=some ((a9s g:Nat):Int):=by
 unfold b2A a9s
 by_cases hg:0≤g
 have d:decide (g≥0)=true:=by simpa using hg
 rw[d,cT,if_pos hg,a0E (n:=g) (by omega),a0E (by omega),a22 (by omega)];have d:decide (g≥0)=false:=by simp;omega
 rw[d,cF,if_neg hg,a0g (n:=g+1) (by omega),a0g (by omega),a0E (n:=0-(g+1)) (by omega),a0E (n:=2*(0-(g+1))) (by omega),a0E (by omega),a22 (by omega)];congr 1;omega
theorem c4F{g:Int}{m:Nat}(h:-(m:Int)≤g∧g≤(m:Int)):a9s g≤2*m:=by
 unfold a9s
 split<;>omega
theorem d6s{g:Int}(h:-100000≤g∧g≤100000):b2E ((a9s g:Nat):Int)=some g:=by
 unfold b2E;have e1:a40 ((a9s g:Nat):Int) 2=((a9s g%2:Nat):Int):=rfl;have e2:a63 ((a9s g:Nat):Int) 2=((a9s g / 2:Nat):Int):=rfl;rw[e1,e2];unfold a9s
 by_cases hg:0≤g
 rw[if_pos hg];have d:((((2*g).toNat%2:Nat):Int)==0)=true:=by simp;omega
 rw[d,cT,a0E (by omega),a0g (by omega)];congr 1;omega;rw[if_neg hg];have d:((((-2*g-1).toNat%2:Nat):Int)==0)=false:=by simp;omega
 rw[d,cF,a0E (by omega),a0g (n:=(((-2*g-1).toNat / 2:Nat):Int)) (by omega),a0g (n:=0-(((-2*g-1).toNat / 2:Nat):Int)) (by omega),a0g (by omega)];congr 1;omega
def e8(s:Int):Int:=bif (a0F .u8 s 7)==(1:Int)then bits .u8 .xor (a0y .u8 s 1) 7 else a0y .u8 s 1
def e16(s:Int):Int:=bif (a0F .u16 s 15)==(1:Int)then bits .u16 .xor (a0y .u16 s 1) 32773 else a0y .u16 s 1
def rep{α:Type}(f:α→α):Nat→α→α
 |0,s=>s
 |n+1,s=>rep f n (f s)
def g8(s c:Int):Int:=rep e8 8 (bits .u8 .xor s c)
def g16(s c:Int):Int:=rep e16 8 (bits .u16 .xor s (a0y .u16 (wrap .u16 c) 8))
theorem c3C(l:List Int)(n i:Int):∀(j k:Nat)(s:Int),k+j=8→a0j b1i (s,l,n,i,(k:Int),())=some (rep e8 j s,l,n,i,())
 |0,k,s,h=>by
  obtain rfl:k=8:=by omega
  exact a0q rfl
 |j+1,k,s,h=>by
  have d:decide ((k:Int)<8)=true:=by simp;omega
  rw[a0t (s':=(e8 s,l,n,i,((k+1:Nat):Int),())) (by
   simp only[b1i,d,cT,a0h (show k<1000000 by omega),e8];cases (a0F .u8 s 7==1:Bool)<;>rfl)]
  exact c3C l n i j (k+1) (e8 s) (by omega)
theorem b9Z(l:List Int)(n i:Int):∀(j k:Nat)(s:Int),k+j=8→a0j a9l (s,l,n,i,(k:Int),())=some (rep e16 j s,l,n,i,())
 |0,k,s,h=>by
  obtain rfl:k=8:=by omega
  exact a0q rfl
 |j+1,k,s,h=>by
  have d:decide ((k:Int)<8)=true:=by simp;omega
  rw[a0t (s':=(e16 s,l,n,i,((k+1:Nat):Int),())) (by
   simp only[a9l,d,cT,a0h (show k<1000000 by omega),e16];cases (a0F .u16 s 15==1:Bool)<;>rfl)]
  exact b9Z l n i j (k+1) (e16 s) (by omega)
def b8i(l:List Int):Int:=l.foldl g8 0
def a3r(l:List Int):Int:=l.foldl g16 0
theorem c7Y{l:List Int}(h:short l):a8s l=some (b8i l):=by
 have:=a3c (f:=a7V) (β:=Int×Unit) l (fun i (a:Int)=>(a,l,(l.length:Int),(i:Int),())) (fun a x=>.inl (g8 a x)) (fun _ _=>True) (fun a=>(a,()))
  (fun i hi a _=>⟨fun a' ha'=>by
   simp only[Sum.inl.injEq]at ha';subst ha'
   have:=c3C l (l.length:Int) (i:Int) 8 0 (bits .u8 .xor a l[i]) rfl
   simp only[nZ]at this;refine⟨?_,trivial⟩;simp only[a7V,dlt hi,cT,a0c hi,oB,this,a0h (a51 hi h),g8],fun b hb=>by cases hb⟩)
  (fun a ha=>by simp only[a7V,dge,cF]) (a:=0) trivial
 unfold a8s;simp only[nZ]at this;rw[this,c2e];rfl
theorem c3D{l:List Int}(h:short l):a6u l=some (a3r l):=by
 have:=a3c (f:=a6g) (β:=Int×Unit) l (fun i (a:Int)=>(a,l,(l.length:Int),(i:Int),())) (fun a x=>.inl (g16 a x)) (fun _ _=>True) (fun a=>(a,()))
  (fun i hi a _=>⟨fun a' ha'=>by
   simp only[Sum.inl.injEq]at ha';subst ha'
   have:=b9Z l (l.length:Int) (i:Int) 8 0 (bits .u16 .xor a (a0y .u16 (wrap .u16 l[i]) 8)) rfl
   simp only[nZ]at this;refine⟨?_,trivial⟩;simp only[a6g,dlt hi,cT,a0c hi,oB,this,a0h (a51 hi h),g16],fun b hb=>by cases hb⟩)
  (fun a ha=>by simp only[a6g,dge,cF]) (a:=0) trivial
 unfold a6u;simp only[nZ]at this;rw[this,c2e];rfl
theorem b4l(n:Int):wrap .u16 n=n%65536:=by simp[wrap,IntKind.bits,IntKind.signed]
theorem d2D(s:Int):0≤e16 s∧e16 s<65536:=by
 unfold e16;cases (a0F .u16 s 15==1:Bool);simp only[cF,a0y,b4l];omega;simp only[cT,bits,b4l];omega
theorem c1z(l:List Int):0≤a3r l∧a3r l<65536:=by
 unfold a3r;rcases a72 l with rfl|⟨L,b,rfl⟩
 simp
 rw[a73,List.foldl_append];exact d2D _
theorem e0T{v:Int}(h:0≤v∧v<65536):b2C (v,2)=some [v / 256,v%256]:=by
 have e1:wrap .u64 (a63 v 256)=v / 256:=by rw[a43 h.1];exact a0E (by omega)
 have e2:wrap .u8 (a40 v 256)=v%256:=by rw[a38 h.1,b1t];omega
 have e3:wrap .u8 (a40 (v / 256) 256)=v / 256:=by rw[a38 (by omega),b1t];omega
 have s0:a4X (v,(2:Int),(0:Int),([]:List Int),())=some (.inl (v / 256,(2:Int),(1:Int),[v%256],())):=by
  simp only[a4X,show decide ((0:Int)<2)=true from rfl,cT,a1y (show([]:List Int).length+1<2147483648 by simp),e1,e2];rfl
 have s1:a4X (v / 256,(2:Int),(1:Int),[v%256],())=some (.inl (wrap .u64 (a63 (v / 256) 256),(2:Int),(2:Int),[v%256,v / 256],())):=by
  simp only[a4X,show decide ((1:Int)<2)=true from rfl,cT,a1y (show([v%256]:List Int).length+1<2147483648 by simp),e3];rfl
 have hs:a9W (v,2)=some [v%256,v / 256]:=by
  unfold a9W b3w;simp only[oB];rw[show a3Z (a2K (2:Int) 0) 8=2 from rfl,a0t s0,a0t s1,a0q (b:=([v%256,v / 256],())) rfl];rfl
 unfold b2C a3z;simp only[hs,oB];rfl
end Go.Ab
namespace Go.Ab
open IntKind(wrap)
@[reducible] def a1n:Type:=Int×(Int×(Int×Unit))
@[reducible] def a1A:Type:=Int×(Int×(a1n×(List a1n×(List Sub×Unit))))
@[reducible] def a2x:Type:=Int×(List (List Int)×Unit)
def a3Y(n:Int)(s:a1n):Bool:=!(decide (s.1<0) || decide (s.1≥n) || decide (s.2.1<0) || decide (s.2.1≥n) || s.1==s.2.1)&&!(decide (s.2.2.1 < -1024) || decide (s.2.2.1 > 1024))
theorem a6K{n:Int}{s:a1n}:a3Y n s=true↔0≤s.1∧s.1<n∧0≤s.2.1∧s.2.1<n∧s.1≠s.2.1∧-1024≤s.2.2.1∧s.2.2.1≤1024:=by
 simp only[a3Y,bA,a34,Bool.or_eq_false_iff,decide_eq_false_iff_not,beq_eq_false_iff_ne];omega
def b0r(l:List a1n)(n:Int):Prop:=1≤n∧n≤8∧l.length≤16∧l.all (a3Y n)=true
instance (l:List a1n) (n:Int):Decidable (b0r l n):=by unfold b0r;infer_instance
theorem b6y(l:List a1n)(n:Int):a8Q (l,n)=some (decide (b0r l n)):=by
 unfold a8Q b0r
 by_cases h1:n<1
 have:¬ 1≤n:=by omega
 simp[h1,this]
 by_cases h2:n > 8
 have:¬ n≤8:=by omega
 simp[h1,h2,this]
 by_cases h3:((l.length:Nat):Int) > 16
 have:¬ l.length≤16:=by omega
 simp[h1,h2,h3,this];have hall:=a1l (f:=a7f) (β:=Unit ⊕ (Bool×Unit)) l (fun i=>(n,l,(l.length:Int),(i:Int),())) (a3Y n) (bt:=Sum.inl ()) (bf:=Sum.inr (false,()))
  (fun i h hp=>by
   obtain⟨a1,a2,a3,a4,a5,a6,a7⟩:=a6K.1 hp;have e1:decide (l[i].1<0)=false:=by simp;omega
   have e2:decide (l[i].1≥n)=false:=by simp;omega
   have e3:decide (l[i].2.1<0)=false:=by simp;omega
   have e4:decide (l[i].2.1≥n)=false:=by simp;omega
   have e5:(l[i].1==l[i].2.1)=false:=by simpa using a5
   have e6:decide (l[i].2.2.1 < -1024)=false:=by simp;omega
   have e7:decide (l[i].2.2.1 > 1024)=false:=by simp;omega
   simp only[a7f,dlt h,cT,a0c h,oB,e1,e2,e3,e4,e5,e6,e7,cF,a0h (show i<1000000 by omega)])
  (fun i h hp=>by
   simp only[a7f,dlt h,cT,a0c h,oB];unfold a3Y at hp;generalize decide (l[i].1<0)=b1 at *;generalize decide (l[i].1≥n)=b2 at *;generalize decide (l[i].2.1<0)=b3 at *;generalize decide (l[i].2.1≥n)=b4 at *;generalize (l[i].1==l[i].2.1)=b5 at *;cases b1<;>cases b2<;>cases b3<;>cases b4<;>cases b5<;>simp at hp⊢;generalize hb6:decide (l[i].2.2.1 < -1024)=b6;cases b6;simp only[decide_eq_false_iff_not]at hb6
   have:1024<l[i].2.2.1:=hp (by omega)
   simp[this]
   simp)
  (by simp[a7f])
 simp only[nZ]at hall;have d3:decide (((l.length:Nat):Int) > 16)=false:=by simpa using h3
 have d1:decide (n<1)=false:=by simpa using h1
 have d2:decide (n > 8)=false:=by simpa using h2
 simp only[d1,d2,d3,cF,oB,hall];have e1:1≤n:=by omega
 have e2:n≤8:=by omega
 have e3:l.length≤16:=by omega
 by_cases hA:l.all (a3Y n)=true
 rw[decide_eq_true (p:=1≤n∧n≤8∧l.length≤16∧l.all (a3Y n)=true) ⟨e1,e2,e3,hA⟩,hA];rfl;rw[decide_eq_false (p:=1≤n∧n≤8∧l.length≤16∧l.all (a3Y n)=true) (fun h=>hA h.2.2.2),a69.2 hA];rfl
def c4G(f:a1n):Prop:=1≤f.1∧f.1≤1048576∧1≤f.2.1∧f.2.1≤8∧4≤f.2.2.1∧f.2.2.1≤24
instance (f:a1n):Decidable (c4G f):=by unfold c4G;infer_instance
theorem c4H(f:a1n):a7e f=some (decide (c4G f)):=by
 unfold a7e a7d c4G
 by_cases h1:1≤f.1<;>by_cases h2:f.1≤1048576<;>by_cases h3:1≤f.2.1<;>by_cases h4:f.2.1≤8<;>by_cases h5:4≤f.2.2.1<;>simp[h1,h2,h3,h4,h5]
def frP(f:a1A):Prop:=c4G f.2.2.1∧1≤f.2.1∧f.2.1≤4096∧0≤f.1∧f.1≤4194304-f.2.1∧b0r f.2.2.2.1 f.2.2.1.2.1
instance (f:a1A):Decidable (frP f):=by unfold frP;infer_instance
theorem b7r(f:a1A):a7g f=some (decide (frP f)):=by
 unfold a7g frP;rw[c4H,b6y]
 by_cases h1:c4G f.2.2.1<;>by_cases h2:1≤f.2.1<;>by_cases h3:f.2.1≤4096<;>by_cases h4:0≤f.1<;>simp[h1,h2,h3,h4]
 have hw:wrap .i64 ((4194304:Int)-f.2.1)=4194304-f.2.1:=a0g (by omega);rw[hw]
 by_cases h5:f.1≤4194304-f.2.1<;>simp[h5]
def a7u(s:a1n):List Nat:=[s.1.toNat,s.2.1.toNat,a9s s.2.2.1]
def a5S(s:a1n):List Int:=a0C s.1.toNat++(a0C s.2.1.toNat++a0C (a9s s.2.2.1))
def hb(f:a1A)(body:Nat):List Int:=
 [245,75]++(a0C f.1.toNat++(a0C f.2.1.toNat++(a0C f.2.2.1.1.toNat++(a0C f.2.2.1.2.1.toNat++(a0C f.2.2.1.2.2.1.toNat++(a0C f.2.2.2.1.length++(f.2.2.2.1.flatMap a5S++a0C body)))))))
def a1V(f:a1A)(body:Nat):List Int:=hb f body++[b8i (hb f body)]
theorem a7K{n:Nat}(h:n<9223372036854775808):1≤(a0C n).length∧(a0C n).length≤9:=c2f 8 n (by rw[show(128:Nat)^(8+1)=9223372036854775808 from by decide];exact h)
theorem d2E{n:Int}(hn:n≤8){s:a1n}(h:a3Y n s=true):(a5S s).length≤27:=by
 obtain⟨a1,a2,a3,a4,a5,a6,a7⟩:=a6K.1 h
 have:=c4F (m:=1024) ⟨a6,a7⟩
 have h1:=a7K (n:=s.1.toNat) (by omega);have h2:=a7K (n:=s.2.1.toNat) (by omega);have h3:=a7K (n:=a9s s.2.2.1) (by omega);simp only[a5S,lN];omega
theorem c5F{n:Int}(hn:n≤8):∀(l:List a1n),l.all (a3Y n)=true→(l.flatMap a5S).length≤27*l.length
 | [],_=>by simp
 |s::l,h=>by
  simp only[a09,bA]at h
  have:=d2E hn h.1
  have:=c5F hn l h.2
  simp only[a70,lN,lC];omega
theorem c7Z{f:a1A}(hf:frP f){body:Nat}(hb':body≤1048576):2≤(hb f body).length∧(hb f body).length≤600:=by
 obtain⟨⟨r1,r2,c1,c2,d1,d2⟩,l1,l2,s1,s2,m1,m2,m3,m4⟩:=hf;have h1:=a7K (n:=f.1.toNat) (by omega);have h2:=a7K (n:=f.2.1.toNat) (by omega);have h3:=a7K (n:=f.2.2.1.1.toNat) (by omega);have h4:=a7K (n:=f.2.2.1.2.1.toNat) (by omega);have h5:=a7K (n:=f.2.2.1.2.2.1.toNat) (by omega);have h6:=a7K (n:=f.2.2.2.1.length) (by omega);have h7:=a7K (n:=body) (by omega);have h8:=c5F m2 _ m4;simp only[hb,lN,lC,a20];omega
theorem c9t:∀l:List a1n,(l.flatMap a7u).length=3*l.length
 | []=>rfl
 |s::l=>by simp only[a70,lN,lC,c9t l];simp only[a7u,lC,a20];omega
theorem c9u(a b:List Nat):asI (a++b)=asI a++asI b:=by simp[asI]
theorem d1f{f:a1A}(hf:frP f){body:Nat}(hb':body≤1048576):a7W (f,(body:Int))=some (a1V f body):=by
 have hf':=hf;obtain⟨⟨r1,r2,c1,c2,d1,d2⟩,l1,l2,s1,s2,m1,m2,m3,m4⟩:=hf';have hall:∀s∈f.2.2.2.1,a3Y f.2.2.1.2.1 s=true:=fun s hs=>lA.1 m4 s hs;have hloop:=a3c (f:=a5E) (β:=Int×(List Int×Unit)) f.2.2.2.1 (fun i (a:List Int)=>((body:Int),f.2.2.2.1,((f.2.2.2.1.length:Nat):Int),(i:Int),a,())) (fun a x=>.inl (a++asI (a7u x))) (fun i a=>a.length=6+3*i) (fun a=>((body:Int),a,()))
  (fun i hi a ha=>⟨fun a' ha'=>by
   simp only[Sum.inl.injEq]at ha';subst ha';obtain⟨a1,a2,a3,a4,a5,a6,a7⟩:=a6K.1 (hall _ (a06 hi));refine⟨?_,by simp[ha,asI,a7u];omega⟩;simp only[a5E,dlt hi,cT,a0c hi,oB,d6r (g:=f.2.2.2.1[i].2.2.1) (by omega),a1y (show a.length+3<2147483648 by omega),a0h (show i<1000000 by omega),a21];rw[a0E (n:=f.2.2.2.1[i].1) (by omega),a0E (n:=f.2.2.2.1[i].2.1) (by omega)];simp only[asI,a7u,a74,b03,a22 a1,a22 a3],fun b hb=>by cases hb⟩)
  (fun a ha=>by simp only[a5E,dge,cF]) (a:=asI [f.1.toNat,f.2.1.toNat,f.2.2.1.1.toNat,f.2.2.1.2.1.toNat,f.2.2.1.2.2.1.toNat,f.2.2.2.1.length]) (by simp[asI])
 rw[b8h]at hloop;simp only[b0p,nZ]at hloop;have hinit:([wrap .u64 f.1,wrap .u64 f.2.1,wrap .u64 f.2.2.1.1,wrap .u64 f.2.2.1.2.1,wrap .u64 f.2.2.1.2.2.1,wrap .u64 ((f.2.2.2.1.length:Nat):Int)]:List Int)=asI [f.1.toNat,f.2.1.toNat,f.2.2.1.1.toNat,f.2.2.1.2.1.toNat,f.2.2.1.2.2.1.toNat,f.2.2.2.1.length]:=by
  rw[a0E (n:=f.1) (by omega),a0E (n:=f.2.1) (by omega),a0E (n:=f.2.2.1.1) (by omega),a0E (n:=f.2.2.1.2.1) (by omega),a0E (n:=f.2.2.1.2.2.1) (by omega),a0E (by omega)];simp only[asI,a74,b03,a22 (show 0≤f.1 by omega),a22 (show 0≤f.2.1 by omega),a22 (show 0≤f.2.2.1.1 by omega),a22 (show 0≤f.2.2.1.2.1 by omega),a22 (show 0≤f.2.2.1.2.2.1 by omega)]
 have hns:asI [f.1.toNat,f.2.1.toNat,f.2.2.1.1.toNat,f.2.2.1.2.1.toNat,f.2.2.1.2.2.1.toNat,f.2.2.2.1.length]++f.2.2.2.1.flatMap (fun x=>asI (a7u x))++[((body:Nat):Int)]=asI ([f.1.toNat,f.2.1.toNat,f.2.2.1.1.toNat,f.2.2.1.2.1.toNat,f.2.2.1.2.2.1.toNat,f.2.2.2.1.length]++f.2.2.2.1.flatMap a7u++[body]):=by
  rw[c9u,c9u];congr 2;simp only[asI,List.map_flatMap]
 have hlt:∀n∈[f.1.toNat,f.2.1.toNat,f.2.2.1.1.toNat,f.2.2.1.2.1.toNat,f.2.2.1.2.2.1.toNat,f.2.2.2.1.length]++f.2.2.2.1.flatMap a7u++[body],n<9223372036854775808:=fun n hn=>by
  simp only[mA,mC,b23,or_false,b22]at hn;rcases hn with(hn|⟨s,hs,hn⟩)|hn;omega;obtain⟨a1,a2,a3,a4,a5,a6,a7⟩:=a6K.1 (hall _ hs)
  have:=c4F (m:=1024) ⟨a6,a7⟩
  simp only[a7u,mC,b23,or_false]at hn;omega;omega
 have hlen:=c9t f.2.2.2.1;have hput:=c7X hlt (by simp[hlen];omega);have hflat:(([f.1.toNat,f.2.1.toNat,f.2.2.1.1.toNat,f.2.2.1.2.1.toNat,f.2.2.1.2.2.1.toNat,f.2.2.2.1.length]++f.2.2.2.1.flatMap a7u++[body]).flatMap a0C)=(hb f body).drop 2:=by
  simp only[hb,List.flatMap_append,a70,List.flatMap_nil,a35,aA,List.flatMap_assoc,a75,a04,List.drop_succ_cons,a18];congr 7;exact congrArg (fun g=>List.flatMap g f.2.2.2.1) (funext fun s=>by simp[a5S,a7u])
 have hbe:[245,75]++(hb f body).drop 2=hb f body:=by simp[hb]
 have hbl:=c7Z hf hb';unfold a7W;simp only[hinit];rw[hloop];simp only[oB,a21];have hl2:=congrArg a45 hns;rw[show(asI ([f.1.toNat,f.2.1.toNat,f.2.2.1.1.toNat,f.2.2.1.2.1.toNat,f.2.2.1.2.2.1.toNat,f.2.2.2.1.length]++f.2.2.2.1.flatMap a7u++[body])).length=7+3*f.2.2.2.1.length from by simp only[asI,List.length_map,lN,hlen,lC,a20];omega]at hl2;rw[lN,a42]at hl2;rw[a0E (n:=(body:Int)) (by omega),a1y (by omega),cT,hns,hput];simp only[oB,hflat,a21,hbe];rw[a1y (by simp;omega),cT,c7Y (show short (hb f body)by unfold short;omega)];simp only[oB];rw[a1y (by omega),cT];rfl
end Go.Ab
namespace Go.Ab
open IntKind(wrap)
def d1g(f:a1A):a1A:=(f.1,f.2.1,f.2.2.1,f.2.2.2.1,[],())
theorem a4F{P A R:List Int}{k:Nat}(h:(P++(A++R)).length<k):((P++A)++R).length<k:=by rw[aA];exact h
theorem c3E{x:List Int}{ch:Int}(hch:ch≤8)(s l:Int)(fm:a1n)(u:List Sub×Unit){N:Nat}(hN:N≤16){R:List Int}:∀(rest done:List a1n)(P:List Int),rest.all (a3Y ch)=true→done.length+rest.length=N→
  (P++(rest.flatMap a5S++R)).length<1000000→
  a0j a5G (x,(N:Int),(done.length:Int),(s,l,fm,done,u),ord P (rest.flatMap a5S++R),())=some (x,(s,l,fm,done++rest,u),ord (P++rest.flatMap a5S) R,())
 | [],done,P,_,hl,_=>by
  have e:done.length=N:=by simpa using hl
  rw[e,a0q (b:=(x,(s,l,fm,done,u),ord P R,())) (by simp only[a5G,dge,cF];rfl)]
  simp
 |g::rest,done,P,h,hl,hlen=>by
  simp only[a09,bA]at h;rw[lC]at hl;obtain⟨a1,a2,a3,a4,a5,a6,a7⟩:=a6K.1 h.1;have hz:=c4F (m:=1024) ⟨a6,a7⟩;have eT:(g::rest).flatMap a5S++R=a0C g.1.toNat++(a0C g.2.1.toNat++(a0C (a9s g.2.2.1)++(rest.flatMap a5S++R))):=by simp[a5S]
  rw[eT]at hlen⊢;have n1:=a9H (n:=g.1.toNat) (most:=7) (by omega) (by omega) hlen;have hlen2:=a4F hlen;have n2:=a9H (n:=g.2.1.toNat) (most:=7) (by omega) (by omega) hlen2;have hlen3:=a4F hlen2;have n3:=a9H (n:=a9s g.2.2.1) (most:=2048) (by omega) (by omega) hlen3;have hlen4:=a4F hlen3;have hw:wrap .u64 ((done.length:Int)+1)=(((done++[g]).length:Nat):Int):=by rw[a0E (by omega)];simp
  have w1:wrap .i64 ((g.1.toNat:Nat):Int)=g.1:=by rw[a0g (by omega)];omega
  have w2:wrap .i64 ((g.2.1.toNat:Nat):Int)=g.2.1:=by rw[a0g (by omega)];omega
  have hd:decide ((done.length:Int)<(N:Int))=true:=by simp;omega
  rw[a0t (s':=(x,(N:Int),(((done++[g]).length:Nat):Int),(s,l,fm,done++[g],u),ord (P++a0C g.1.toNat++a0C g.2.1.toNat++a0C (a9s g.2.2.1)) (rest.flatMap a5S++R),())) (by
   simp only[a5G,hd,cT,n1,n2,n3,oB,d6s (g:=g.2.2.1) (by omega),a1y (show done.length+1<2147483648 by omega),w1,w2,hw,a21])]
  rw[c3E hch s l fm u hN rest (done++[g]) _ h.2 (by simp;omega) hlen4];simp[a5S]
theorem c3F{f:a1A}(hf:frP f){body:Nat}(hb':body≤1048576){R:List Int}(hl:(a1V f body++R).length<1000000):
  a5H (a1V f body++R)=some (d1g f,((a1V f body).length:Int),(body:Int),(0:Int)):=by
 have hf':=hf;obtain⟨⟨r1,r2,c1,c2,d1,d2⟩,l1,l2,s1,s2,m1,m2,m3,m4⟩:=hf';have hbl:=c7Z hf hb'

 have hT:a1V f body++R=[245,75]++(a0C f.1.toNat++(a0C f.2.1.toNat++(a0C f.2.2.1.1.toNat++(a0C f.2.2.1.2.1.toNat++(a0C f.2.2.1.2.2.1.toNat++(a0C f.2.2.2.1.length++(f.2.2.2.1.flatMap a5S++(a0C body++([b8i (hb f body)]++R))))))))):=by
  simp[a1V,hb]
 generalize hx:a1V f body++R=x at *;have hxl:2≤x.length:=by rw[hT];simp
 have g0:a0o x 0=some 245:=by rw[hT];rfl
 have g1:a0o x 1=some 75:=by rw[hT];rfl
 have hdrop:b31 2 (b09 x.length x)=a0C f.1.toNat++(a0C f.2.1.toNat++(a0C f.2.2.1.1.toNat++(a0C f.2.2.1.2.1.toNat++(a0C f.2.2.1.2.2.1.toNat++(a0C f.2.2.2.1.length++(f.2.2.2.1.flatMap a5S++(a0C body++([b8i (hb f body)]++R)))))))):=by
  rw[a25,hT];rfl
 have hlen0:([]++(a0C f.1.toNat++(a0C f.2.1.toNat++(a0C f.2.2.1.1.toNat++(a0C f.2.2.1.2.1.toNat++(a0C f.2.2.1.2.2.1.toNat++(a0C f.2.2.2.1.length++(f.2.2.2.1.flatMap a5S++(a0C body++([b8i (hb f body)]++R))))))))):List Int).length<1000000:=by
  rw[←hdrop];simp;omega
 have n1:=a9H (n:=f.1.toNat) (most:=4194304) (by omega) (by omega) hlen0;have h1:=a4F hlen0;have n2:=a9H (n:=f.2.1.toNat) (most:=4096) (by omega) (by omega) h1;have h2:=a4F h1;have n3:=a9H (n:=f.2.2.1.1.toNat) (most:=1048576) (by omega) (by omega) h2;have h3:=a4F h2;have n4:=a9H (n:=f.2.2.1.2.1.toNat) (most:=8) (by omega) (by omega) h3;have h4:=a4F h3;have n5:=a9H (n:=f.2.2.1.2.2.1.toNat) (most:=24) (by omega) (by omega) h4;have h5:=a4F h4;have n6:=a9H (n:=f.2.2.2.1.length) (most:=16) (by omega) (by omega) h5;have h6:=a4F h5;have hloop:=c3E (x:=x) m2 f.1 f.2.1 f.2.2.1 ([],()) m3 f.2.2.2.1 [] _ m4 (by simp) h6;have h7:=a4F h6;have n7:=a9H (n:=body) (most:=1048576) (by omega) (by omega) h7;simp only[a20,nZ,a04,a16]at n1 n2 n3 n4 n5 n6 n7 hloop;have w1:wrap .i64 ((f.1.toNat:Nat):Int)=f.1:=by rw[a0g (by omega)];omega
 have w2:wrap .i64 ((f.2.1.toNat:Nat):Int)=f.2.1:=by rw[a0g (by omega)];omega
 have w3:wrap .i64 ((f.2.2.1.1.toNat:Nat):Int)=f.2.2.1.1:=by rw[a0g (by omega)];omega
 have w4:wrap .i64 ((f.2.2.1.2.1.toNat:Nat):Int)=f.2.2.1.2.1:=by rw[a0g (by omega)];omega
 have w5:wrap .i64 ((f.2.2.1.2.2.1.toNat:Nat):Int)=f.2.2.1.2.2.1:=by rw[a0g (by omega)];omega
 have hPq:a0C f.1.toNat++a0C f.2.1.toNat++a0C f.2.2.1.1.toNat++a0C f.2.2.1.2.1.toNat++a0C f.2.2.1.2.2.1.toNat++a0C f.2.2.2.1.length++f.2.2.2.1.flatMap a5S++a0C body=(hb f body).drop 2:=by simp[hb]
 rw[hPq]at n7;have hor:ord ((hb f body).drop 2) ([b8i (hb f body)]++R)=(x.drop 2,(((hb f body).length-2:Nat):Int),(0:Int),()):=by
  unfold ord;rw[a08,←hx];congr 1;unfold a1V;rw[aA,List.drop_append_of_le_length (by omega)]
 rw[hor]at n7;have hleft:wrap .i64 (((x.drop 2).length:Int)-(((hb f body).length-2:Nat):Int))=((1+R.length:Nat):Int):=by
  have:x.length=(hb f body).length+(1+R.length):=by rw[←hx];simp[a1V];omega
  rw[a08,a0g (by omega)];omega
 have hat:wrap .i64 ((2:Int)+(((hb f body).length-2:Nat):Int))=(((hb f body).length:Nat):Int):=by rw[a0g (by omega)];omega
 have hlx:(hb f body).length<x.length:=by rw[←hx];simp[a1V]
 have htake:b09 (hb f body).length x=hb f body:=by rw[←hx];simp[a1V]
 have hgs:a0o x (((hb f body).length:Nat):Int)=some (b8i (hb f body)):=by rw[a0c hlx];congr 1;subst hx;simp[a1V]
 have dl:decide (((x.length:Nat):Int)<2)=false:=by simp;omega
 have dl2:decide ((2:Int)≤((x.length:Nat):Int))=true:=by simp;omega
 have b0:((245:Int) != 245)=false:=rfl;have b1:((75:Int) != 75)=false:=rfl;have hnew:∀T:List Int,T.length<1000000→b2D T=some (ord [] T):=fun T hT=>by unfold b2D;rw[a1y (by omega)];rfl
 have hlen0':=hlen0;rw[a04]at hlen0';have z0:((0:Int) != 0)=false:=rfl;have dR:decide (((1+R.length:Nat):Int)<1)=false:=by simp;omega
 have da:decide ((0:Int)≤(((hb f body).length:Nat):Int))=true:=by simp
 have db:decide ((((hb f body).length:Nat):Int)≤((x.length:Nat):Int))=true:=by simp;omega
 have ss:(b8i (hb f body) != b8i (hb f body))=false:=bne_self_eq_false _;have hfb:frP (f.1,f.2.1,f.2.2.1,f.2.2.2.1,([]:List Sub),()):=hf;have hwe:wrap .i64 ((((hb f body).length:Nat):Int)+1)=(((a1V f body).length:Nat):Int):=by rw[a0g (by omega)];simp[a1V]
 have hwb:wrap .i64 ((body:Nat):Int)=(body:Int):=a0g (by omega);unfold a5H;simp only[dl,cF,g0,g1,oB,b0,b1,dl2,cT];rw[hdrop,hnew _ hlen0'];simp only[oB,n1,n2,n3,n4,n5,n6,w1,w2,w3,w4,w5]
 erw[hloop]
 simp only[oB,n7,a8t,z0,cF,a7O,a9m,hleft,dR,hat,da,db,a05,cT,tN,htake,c7Y (show short (hb f body)by unfold short;omega),hgs,ss];rw[b7r,decide_eq_true hfb];simp only[oB,bT,cF,hwe,hwb];rfl
end Go.Ab
namespace Go.Ab
@[reducible] def PZ:Type:=Sub×List Nat
def d1h(n:Int)(p:PZ):Prop:=SmallS p.1∧(a3q p.1 n).isSome=true∧(p.1.1≠0∧p.1.1≠1→PartsOk p.1.2.2.2.2.2.2.2.2.2.1 n ((p.1.2.2.2.2.2.2.2.2.1.length:Nat):Int) p.1.2.2.2.2.2.2.2.2.2.2.1 p.2)
def a0r(l:List PZ):List Int:=l.flatMap fun p=>a8E p.1 p.2
theorem c5G(l:List PZ):a1J (a0r l):=b5P fun _=>d3U _ _
theorem c5H(x:a1A)(all:List Sub)(h8:all.length≤8):∀(rest done:List Sub)(L:List Int),done++rest=all→(∀s∈rest,SmallS s∧(a3q s x.2.1).isSome=true)→L.length+700000*rest.length<40000000→
  ∃zs:List PZ,zs.map (·.1)=rest∧(∀p∈zs,d1h x.2.1 p)∧(a0r zs).length≤700000*rest.length∧((∀s∈rest,∃c,a4y (s,x.2.1)=some (c:Int))∧some (((a0r zs).length:Nat):Int)=rest.foldr (fun s a=>a.bind fun a=>(a4y (s,x.2.1)).bind fun c=>some (c+a)) (some 0))∧
   a0j a8Z (all,(all.length:Int),(done.length:Int),wL L,x,())=some (.inl (wL (L++a0r zs),x,()))
 | [],done,L,hd,_,_=>by
  have e:done=all:=by simpa using hd
  subst e;refine⟨[],rfl,by simp,by simp[a0r],⟨by simp,by simp[a0r]⟩,?_⟩;rw[a0q (b:=Sum.inl (wL L,x,())) (by simp only[a8Z,dge,cF])];simp[a0r]
 |s::rest,done,L,hd,h,hL=>by
  obtain⟨hs,ho⟩:=h s (by simp);rw[lC]at hL;obtain⟨zn,h1,h2,h3,h4⟩:=d3V hs ho (L:=L) (by omega);obtain⟨zs,k1,k2,k3,⟨k4,k5⟩,k6⟩:=c5H x all h8 rest (done++[s]) (L++a8E s zn) (by simpa using hd) (fun t ht=>h t (by simp[ht])) (by rw[lN];omega);have hlt:done.length<all.length:=by rw[←hd];simp
  have hg:a0o all (done.length:Int)=some s:=by rw[a0c hlt];subst hd;simp
  refine⟨(s,zn)::zs,by simp[k1],fun p hp=>?_,?_,⟨fun t ht=>?_,?_⟩,?_⟩;rcases mC.1 hp with rfl|hp;exact⟨hs,ho,h4⟩;exact k2 p hp;simp only[a0r,a70,lN,lC];simp only[a0r]at k3;omega;rcases mC.1 ht with rfl|ht;exact⟨_,h2⟩;exact k4 t ht;simp only[List.foldr_cons,←k5,oB,h2];simp[a0r];have z0:((0:Int) != 0)=false:=rfl;rw[a0t (s':=(all,(all.length:Int),(((done++[s]).length:Nat):Int),wL (L++a8E s zn),x,())) (by
   simp only[a8Z,dlt hlt,cT,hg,oB,h1,z0,cF,a0h (show done.length<1000000 by omega)]
   simp)]
  rw[k6];simp[a0r]
def a5c(k:Nat):Nat:=(8-k%8)%8
def a2P(L:List Int):List Int:=L++a00 (a5c L.length) 0
theorem c3G:∀(k:Nat)(L:List Int),a5c L.length=k→L.length+k<900000000→a0j a3T (wL L,())=some (wL (L++a00 k 0),())
 |k,L,hk,hL=>by
  have f:=(a6a L).1;have ht:a40 (wL L).2.1 8=((L.length%8:Nat):Int):=by rw[f];rfl
  unfold a5c at hk;cases k with
  |zero=>
   have:L.length%8=0:=by omega
   rw[a0q (b:=(wL L,())) (by
    simp only[a3T,ht,this];rfl)]
   simp
  |succ k=>
   have hb:(((L.length%8:Nat):Int) != 0)=true:=by simp;omega
   rw[a0t (s':=(wL (L++[0]),())) (by
    simp only[a3T,ht,hb,cT,c3j (show L.length<1000000000 by omega),oB])]
   rw[c3G k (L++[0]) (by unfold a5c;rw[lN,a42];omega) (by rw[lN,a42];omega)];rw[aA];rfl
theorem d3X{L:List Int}(hL:L.length<800000000):a5e (wL L)=some (wL (a2P L)):=by
 unfold a5e;rw[c3G _ L rfl (by unfold a5c;omega)];rfl
def a5j(L:List Int):List Int:=(wL (a2P L)).1
theorem c0a(L:List Int):(a5j L).length=(L.length+7) / 8∧8*(a5j L).length=(a2P L).length:=by
 have:=(a6a (a2P L)).2
 unfold a5j;rw[this];unfold a2P a5c;simp only[lN,List.length_replicate];omega
def a6b(f:a1A)(L:List Int):List Int:=a1V f (a5j L).length++a5j L
def a4t(f:a1A)(L:List Int):List Int:=a6b f L++[a3r (a6b f L) / 256,a3r (a6b f L)%256]
theorem c2g{f:a1A}(hf:frP f){L:List Int}(hL:L.length≤5600000):(a6b f L).length≤700700∧(a5j L).length≤700000:=by
 have h1:=(c0a L).1;have h2:=c7Z hf (body:=(a5j L).length) (by omega);simp only[a6b,a1V,lN,a42];omega
theorem c8a{f:a1A}(hm:a3Q f=some true)(hf:frP f)(h8:f.2.2.2.2.1.length≤8)(hs:∀s∈f.2.2.2.2.1,SmallS s∧(a3q s f.2.1).isSome=true):
  ∃zs:List PZ,zs.map (·.1)=f.2.2.2.2.1∧(∀p∈zs,d1h f.2.1 p)∧(a0r zs).length≤5600000∧
   some (((a0r zs).length:Nat):Int)=f.2.2.2.2.1.foldr (fun s a=>a.bind fun a=>(a4y (s,f.2.1)).bind fun c=>some (c+a)) (some 0)∧a7G f=some (a4t f (a0r zs),0):=by
 obtain⟨zs,k1,k2,k3,⟨-,k5⟩,k6⟩:=c5H f f.2.2.2.2.1 h8 f.2.2.2.2.1 [] [] rfl hs (by simp;omega);have hL:(a0r zs).length≤5600000:=by omega
 refine⟨zs,k1,k2,hL,k5,?_⟩;rw[a04,a20]at k6;have hp:=c2g hf hL;have hw0:wL []=(([]:List Int),(0:Int),()):=rfl;rw[hw0]at k6;have hpl:(a2P (a0r zs)).length<1000000000:=by
  have:=(c0a (a0r zs)).2
  omega
 have hr:=c1z (a6b f (a0r zs));have hpre:a1V f (a5j (a0r zs)).length++a5j (a0r zs)=a6b f (a0r zs):=rfl;have hhl:(a1V f (a5j (a0r zs)).length).length+(a5j (a0r zs)).length=(a6b f (a0r zs)).length:=by rw[←hpre,lN]
 unfold a7G;simp only[hm,oB,bT,cF]
 erw[k6]
 simp only[oB,d3X (show(a0r zs).length<800000000 by omega),d3W hpl]
 erw[d1f hf (show(a5j (a0r zs)).length≤1048576 by omega)]
 simp only[oB,a21];rw[show(wL (a2P (a0r zs))).1=a5j (a0r zs)from rfl];rw[hpre,a1y (by omega),cT,c3D (show short (a6b f (a0r zs))by unfold short;omega)];simp only[oB];rw[a0E (by omega),e0T hr];simp only[oB];rw[a1y (by simp;omega),cT];rfl
end Go.Ab
namespace Go.Ab
open IntKind(wrap)
def a8c(f:a1A)(l:List Sub):a1A:=(f.1,f.2.1,f.2.2.1,f.2.2.2.1,l,())
theorem d1i(f:a1A):a8c f f.2.2.2.2.1=f:=rfl
theorem c3H(f zf:a1A)(e:Int){N:Nat}(hN:N≤8){Z:List Int}:∀(rest:List PZ)(done:List Sub)(P:List Int),done.length+rest.length=N→(∀p∈rest,d1h f.2.1 p)→OkR P (a0r rest++Z)→
  a0j a7X (e,(N:Int),(done.length:Int),zf,a8c f done,rdr P (a0r rest++Z),())=some (.inl (e,zf,a8c f (done++rest.map (·.1)),rdr (P++a0r rest) Z,()))
 | [],done,P,hl,_,_=>by
  have e1:done.length=N:=by simpa using hl
  rw[e1,a0q (b:=Sum.inl (e,zf,a8c f done,rdr P Z,())) (by simp only[a7X,dge,cF];rfl)];simp[a0r]
 |p::rest,done,P,hl,h,hok=>by
  rw[lC]at hl;obtain⟨hs,ho,hz⟩:=h p (by simp);have eb:a0r (p::rest)++Z=a8E p.1 p.2++(a0r rest++Z):=by simp[a0r]
  rw[eb]at hok⊢;have hg:=d5A hs ho hz hok;have hd:decide ((done.length:Int)<(N:Int))=true:=by simp;omega
  have z0:((0:Int) != 0)=false:=rfl;rw[a0t (s':=(e,(N:Int),(((done++[p.1]).length:Nat):Int),zf,a8c f (done++[p.1]),rdr (P++a8E p.1 p.2) (a0r rest++Z),())) (by
   have hg':b3f (rdr P (a8E p.1 p.2++(a0r rest++Z)),(a8c f done).2.1)=some (p.1,(0:Int),rdr (P++a8E p.1 p.2) (a0r rest++Z)):=hg;simp only[a7X,hd,cT,hg',oB,z0,cF];rw[show(a8c f done).2.2.2.2.1=done from rfl,a1y (show done.length+1<2147483648 by omega),cT,a0h (show done.length<1000000 by omega)];rw[show(((done++[p.1]).length:Nat):Int)=((done.length+1:Nat):Int)from by simp];rfl)]
  rw[c3H f zf e hN rest (done++[p.1]) _ (by simp;omega) (fun q hq=>h q (by simp[hq])) hok.shift];simp[a0r]
theorem c1A{L:List Int}(hL:a1J L)(hl:L.length<500000000)(t:Int×(Int×Unit)):∀(k i:Nat),i+k=L.length→(∀j,i≤j→L.getD j 0=0)→
  a0j a3V ((L.length:Int),(i:Int),((wL L).1,t),())=some (.inl ((L.length:Int),((wL L).1,t),()))
 |0,i,h,_=>by
  obtain rfl:i=L.length:=by omega
  exact a0q (by simp only[a3V,dge,cF])
 |k+1,i,h,h0=>by
  have hlt:i<L.length:=by omega
  have z:((0:Int)==1)=false:=rfl;have hw:wrap .i64 ((i:Int)+1)=((i+1:Nat):Int):=by rw[a0g (by omega)];omega
  rw[a0t (s':=((L.length:Int),((i+1:Nat):Int),((wL L).1,t),())) (by
   simp only[a3V,dlt hlt,cT];rw[c4B hL (by omega) hlt t,h0 i (a44 _)];simp only[oB,z,cF,hw])]
  exact c1A hL hl t k (i+1) (by omega) (fun j hj=>h0 j (by omega))
theorem d3Y(L:List Int)(k j:Nat)(hj:L.length≤j):(L++a00 k 0).getD j 0=0:=by
 rw[lD,a24 hj,List.getElem?_replicate]
 split<;>rfl
theorem c5I{L:List Int}(h:a1J L):a1J (a2P L):=h.app fun _ hb=>.inl (b01.1 hb).2
theorem d2F{L:List Int}(hL:a1J L)(hl:L.length≤5600000):∃r,a5g (rdr L (a00 (a5c L.length) 0))=some r∧r.2.2.1=0:=by
 have hp:(a2P L).length=L.length+a5c L.length:=by simp[a2P]
 have hpn:a5c L.length<8:=by unfold a5c;omega
 have h8:(a2P L).length%8=0:=by rw[hp];unfold a5c;omega
 have z0:((0:Int) != 0)=false:=rfl;have h7:wrap .i64 (wrap .i64 (a63 (wrap .i64 ((L.length:Int)+7)) 8)*8)=((a2P L).length:Int):=by
  rw[a0g (n:=(L.length:Int)+7) (by omega),show a63 ((L.length:Int)+7) 8=(((L.length+7) / 8:Nat):Int)from by
   rw[show((L.length:Int)+7)=((L.length+7:Nat):Int)from by omega];rfl,a0g (n:=(((L.length+7) / 8:Nat):Int)) (by omega),a0g (by omega),hp]
  unfold a5c;omega
 have hloop:=c1A (c5I hL) (by omega) ((L.length:Int),(0:Int),()) (a5c L.length) L.length (by omega) (fun j hj=>d3Y L _ j hj);refine⟨((wL (a2P L)).1,((a2P L).length:Int),(0:Int),()),?_,rfl⟩;unfold a5g rdr;simp only[z0,cF,h7];rw[show L++a00 (a5c L.length) 0=a2P L from rfl,hloop];rfl
theorem e0U{v:Int}(h:0≤v∧v<65536):bits .u16 .or (a0y .u16 (wrap .u16 (v / 256)) 8) (wrap .u16 (v%256))=v:=by
 rw[b4l,b4l];have e:a0y .u16 (v / 256%65536) 8=((v.toNat / 256*256:Nat):Int):=by
  show wrap .u16 (v / 256%65536*256)=_;rw[b4l];omega
 rw[e];have e2:v%256%65536=((v.toNat%256:Nat):Int):=by omega
 rw[e2];show wrap .u16 (((a02 16 ((v.toNat / 256*256:Nat):Int) ||| a02 16 ((v.toNat%256:Nat):Int)).toNat:Nat):Int)=_;have h1:(a02 16 ((v.toNat / 256*256:Nat):Int)).toNat=v.toNat / 256*256:=by rw[a28];omega
 have h2:(a02 16 ((v.toNat%256:Nat):Int)).toNat=v.toNat%256:=by rw[a28];omega
 rw[a65,h1,h2];have e:v.toNat / 256*256 ||| v.toNat%256=v.toNat / 256*256+v.toNat%256:=by
  have:=a58 (i:=8) (b:=v.toNat%256) (by omega) (v.toNat / 256)
  rw[show 2^8*(v.toNat / 256)=v.toNat / 256*256 from by omega]at this;exact this.symm
 rw[e,b4l];omega
theorem c6g{f:a1A}(hm:a3Q f=some true)(hf:frP f)(hch:((f.2.2.2.2.1.length:Nat):Int)=f.2.2.1.2.1){zs:List PZ}(hz:zs.map (·.1)=f.2.2.2.2.1)(hp:∀p∈zs,d1h f.2.1 p)(hL:(a0r zs).length≤5600000)
  {R:List Int}(hR:R.length≤1000):a4Z (a4t f (a0r zs)++R)=some (f,((a4t f (a0r zs)).length:Int),(0:Int)):=by
 have hpl:=c2g hf hL;have hr:=c1z (a6b f (a0r zs));have h8:f.2.2.2.2.1.length≤8:=by have:=hf.1.2.2.2.1;omega
 have hbb:=c0a (a0r zs);generalize hbd:a5j (a0r zs)=body at *;have hfb:a4t f (a0r zs)=a6b f (a0r zs)++[a3r (a6b f (a0r zs)) / 256,a3r (a6b f (a0r zs))%256]:=rfl;have hpre:a6b f (a0r zs)=a1V f body.length++body:=by unfold a6b;rw[hbd]
 generalize hpb:a6b f (a0r zs)=pre at *;have hxe:a4t f (a0r zs)++R=a1V f body.length++(body++([a3r pre / 256,a3r pre%256]++R)):=by rw[hfb,hpre];simp
 have hfl:(a4t f (a0r zs)).length=pre.length+2:=by rw[hfb];simp
 have hprl:pre.length=(a1V f body.length).length+body.length:=by rw[hpre];simp
 have hxl:(a4t f (a0r zs)++R).length=pre.length+2+R.length:=by rw[lN,hfl]
 have hget:=c3F hf (body:=body.length) (by omega) (R:=body++([a3r pre / 256,a3r pre%256]++R)) (by rw[←hxe,hxl];omega);rw[←hxe]at hget;generalize hx:a4t f (a0r zs)++R=x at *;have z0:((0:Int) != 0)=false:=rfl;have w1:wrap .i64 (((a1V f body.length).length:Int)+(body.length:Int))=(pre.length:Int):=by rw[a0g (by omega)];omega
 have w2:wrap .i64 ((pre.length:Int)+2)=((pre.length+2:Nat):Int):=by rw[a0g (by omega)];omega
 have w3:wrap .i64 ((pre.length:Int)+1)=((pre.length+1:Nat):Int):=by rw[a0g (by omega)];omega
 have d1:decide ((x.length:Int)<((pre.length+2:Nat):Int))=false:=by simp;omega
 have d2:decide ((0:Int)≤(pre.length:Int))=true:=by simp
 have d3:decide ((pre.length:Int)≤(x.length:Int))=true:=by simp;omega
 have d4:decide ((0:Int)≤((a1V f body.length).length:Int))=true:=by simp
 have d5:decide (((a1V f body.length).length:Int)≤(pre.length:Int))=true:=by simp;omega
 have hxp:x=pre++([a3r pre / 256,a3r pre%256]++R):=by rw[←hx,hfb];simp
 have htake:b09 pre.length x=pre:=by rw[hxp];simp
 have hdrop:b31 (a1V f body.length).length pre=body:=by rw[hpre];simp
 have g1:a0o x (pre.length:Int)=some (a3r pre / 256):=by rw[a0c (by omega)];congr 1;subst hxp;simp
 have g2:a0o x ((pre.length+1:Nat):Int)=some (a3r pre%256):=by rw[a0c (by omega)];congr 1;subst hxp;simp
 have ss:(a3r pre != bits .u16 .or (a0y .u16 (wrap .u16 (a3r pre / 256)) 8) (wrap .u16 (a3r pre%256)))=false:=by rw[e0U hr];exact bne_self_eq_false _
 have hpadl:(a2P (a0r zs)).length<1000000000:=by omega
 have hnew:=d6q hpadl;rw[show(wL (a2P (a0r zs))).1=body from hbd]at hnew;have hok:OkR [] (a0r zs++a00 (a5c (a0r zs).length) 0):=⟨by rw[a04];exact c5I (c5G zs),by
  rw[a04];show(a2P (a0r zs)).length<_;omega⟩
 have hloop:=c3H f ((0:Int),(0:Int),((0:Int),(0:Int),(0:Int),()),([]:List a1n),([]:List Sub),()) (pre.length:Int) h8 zs [] [] (by rw[←hz];simp) hp hok;simp only[a04,a20,hz,d1i]at hloop;have hrd:rdr [] (a2P (a0r zs))=rdr [] (a0r zs++a00 (a5c (a0r zs).length) 0):=rfl;obtain⟨r,ha1,ha2⟩:=d2F (c5G zs) hL;have hleft:a3b (rdr (a0r zs) (a00 (a5c (a0r zs).length) 0))=some ((a5c (a0r zs).length:Int),rdr (a0r zs) (a00 (a5c (a0r zs).length) 0)):=by
  unfold a3b rdr
  have:(wL (a0r zs++a00 (a5c (a0r zs).length) 0)).1=body:=hbd
  simp only[this];have hp:(a2P (a0r zs)).length=(a0r zs).length+a5c (a0r zs).length:=by simp[a2P]
  rw[a0g (n:=8*(body.length:Int)) (by omega),a0g (by omega)];congr 2;omega
 have d8:decide (((a5c (a0r zs).length:Nat):Int)≥8)=false:=by unfold a5c;simp;omega
 have hb0:a8c f []=d1g f:=rfl;have hch':f.2.2.1.2.1=((f.2.2.2.2.1.length:Nat):Int):=hch.symm;unfold a4Z;rw[hget];simp only[oB,z0,cF,w1,w2,d1,d2,d3,d4,a05,cT,tN,htake,c3D (show short pre by unfold short;omega),g1,w3,g2,ss,d5,hdrop,hnew,hrd];rw[show(d1g f).2.2.1.2.1=((f.2.2.2.2.1.length:Nat):Int)from hch']
 erw[hloop]
 simp only[oB,hleft,d8,cF,ha1,a0w,ha2,z0,hm,bT,w2,hfl]
theorem c6h{f:a1A}(hf:frP f){L:List Int}(hL:L.length≤5600000){R:List Int}(hR:R.length≤1000):a8v (a4t f L++R)=some (f.2.2.1,f.1,f.2.1,(0:Int)):=by
 have hpl:=c2g hf hL;have hxe:a4t f L++R=a1V f (a5j L).length++(a5j L++([a3r (a6b f L) / 256,a3r (a6b f L)%256]++R)):=by simp[a4t,a6b]
 have hget:=c3F hf (body:=(a5j L).length) (by omega) (R:=a5j L++([a3r (a6b f L) / 256,a3r (a6b f L)%256]++R)) (by
  rw[←hxe];simp only[a4t,lN,lC,a20];omega)
 rw[←hxe]at hget;unfold a8v;rw[hget];rfl
end Go.Ab
namespace Go.Ab
open IntKind(wrap)
theorem b5i(x:Int):a9A x=some (a0b x):=by
 unfold a9A a0b
 by_cases h:-1073741824≤x<;>simp[h]
def a5k(c:List (List Int)):Prop:=1≤c.length∧c.length≤8∧(c.headD []).length≤4096∧c.all (fun r=>decide (r.length=(c.headD []).length)&&r.all a0b)=true
instance (c:List (List Int)):Decidable (a5k c):=by unfold a5k;infer_instance
theorem b5Q{α:Type}{l:List α}{d:α}(h:0<l.length):l[0]=l.headD d:=by
 cases l with
 |nil=>simp at h
 |cons a l=>rfl
theorem c9v(c:List (List Int)):a7C c=some (decide (a5k c)):=by
 unfold a7C
 by_cases h1:((c.length:Nat):Int)<1
 have:¬ a5k c:=fun h=>by have:=h.1;omega
 simp[h1,this]
 by_cases h2:((c.length:Nat):Int) > 8
 have:¬ a5k c:=fun h=>by have:=h.2.1;omega
 simp[h1,h2,this];have hc:0<c.length:=by omega
 have hg:a0o c 0=some (c.headD []):=by rw[show(0:Int)=((0:Nat):Int)from rfl,a0c hc,b5Q (d:=[]) hc]
 have d1:decide (((c.length:Nat):Int)<1)=false:=by simpa using h1
 have d2:decide (((c.length:Nat):Int) > 8)=false:=by simpa using h2
 simp only[d1,d2,cF,hg,oB]
 by_cases h3:(((c.headD []).length:Nat):Int) > 4096
 rw[decide_eq_true h3,decide_eq_false (show ¬ a5k c from fun h=>by have:=h.2.2.1;omega)];rfl;have d3:decide ((((c.headD []).length:Nat):Int) > 4096)=false:=by simpa using h3
 simp only[d3,cF];have inner:∀(i:Nat)(r:List Int),short r→a0j a4M (c,c,(c.length:Int),(i:Int),r,(r.length:Int),(0:Int),())=some (bif r.all a0b then Sum.inl (c,c,(c.length:Int),(i:Int),())else Sum.inr (false,())):=fun i r hr=>by
  have:=a1l (f:=a4M) r (fun j=>(c,c,(c.length:Int),(i:Int),r,(r.length:Int),(j:Int),())) a0b (bt:=Sum.inl (c,c,(c.length:Int),(i:Int),())) (bf:=Sum.inr (false,()))
   (fun j h hp=>by simp only[a4M,dlt h,cT,a0c h,oB,b5i,hp,bT,cF,a0h (a51 h hr)])
   (fun j h hp=>by simp only[a4M,dlt h,cT,a0c h,oB,b5i,hp,a19])
   (by simp only[a4M,dge,cF])
  exact this
 have hall:=a1l (f:=a4N) c (fun i=>(c,c,(c.length:Int),(i:Int),())) (fun r=>decide (r.length=(c.headD []).length)&&r.all a0b) (bt:=Sum.inl ()) (bf:=Sum.inr (false,()))
  (fun i h hp=>by
   simp only[bA,dT]at hp;have e:((((c[i]).length:Nat):Int) != (((c.headD []).length:Nat):Int))=false:=by rw[hp.1];exact bne_self_eq_false _
   have hi:=inner i c[i] (by unfold short;omega);rw[hp.2,cT]at hi;simp only[a4N,dlt h,cT,a0c h,oB,hg,e,cF,hi,a0h (show i<1000000 by omega)])
  (fun i h hp=>by
   by_cases hl:(c[i]).length=(c.headD []).length
   have e:((((c[i]).length:Nat):Int) != (((c.headD []).length:Nat):Int))=false:=by rw[hl];exact bne_self_eq_false _
   have hi:=inner i c[i] (by unfold short;omega);rw[decide_eq_true hl,a31]at hp;rw[hp,cF]at hi;simp only[a4N,dlt h,cT,a0c h,oB,hg,e,cF,hi];have e:((((c[i]).length:Nat):Int) != (((c.headD []).length:Nat):Int))=true:=by simp only[bne_iff_ne,ne_eq,a88];exact hl
   simp only[a4N,dlt h,cT,a0c h,oB,hg,e])
  (by simp only[a4N,dge,cF])
 simp only[nZ]at hall;rw[hall];have e1:1≤c.length:=by omega
 have e2:c.length≤8:=by omega
 have e3:(c.headD []).length≤4096:=by omega
 by_cases hA:c.all (fun r=>decide (r.length=(c.headD []).length)&&r.all a0b)=true
 rw[hA,decide_eq_true (show a5k c from⟨e1,e2,e3,hA⟩)];rfl;rw[a69.2 hA,decide_eq_false (show ¬ a5k c from fun h=>hA h.2.2.2)];rfl
def a6W(c:List (List Int))(n:Nat):Prop:=∀r∈c,r.length=n∧r.all a0b=true
theorem c9w{c:List (List Int)}(h:a5k c):a6W c (c.headD []).length:=fun r hr=>by
 have:=lA.1 h.2.2.2 r hr
 simpa using this
theorem c8b{c:List (List Int)}{n:Nat}(h:a6W c n)(h1:1≤c.length)(h8:c.length≤8)(hn:n≤4096):a5k c:=by
 have hd:(c.headD []).length=n:=by
  rw[←b5Q (d:=[]) (show 0<c.length by omega)];exact(h _ (a06 _)).1
 refine⟨h1,h8,by omega,lA.2 fun r hr=>?_⟩
 have:=h r hr
 rw[decide_eq_true (show r.length=(c.headD []).length from by rw[hd];exact this.1),this.2];rfl
theorem c5J{c:List (List Int)}{n:Nat}(h:a6W c n)(hn:n≤5000)(h8:c.length≤100):a7k c=some c:=by
 have:=a3c (f:=a6P) (β:=List (List Int)×Unit) c (fun i (a:List (List Int))=>(c,(c.length:Int),(i:Int),a,())) (fun a x=>.inl (a++[x])) (fun i a=>a.length=i) (fun a=>(a,()))
  (fun i hi a ha=>⟨fun a' ha'=>by
   simp only[Sum.inl.injEq]at ha';subst ha';have hr:=(h _ (a06 hi)).1;have hs:∀y:List Int,List.set ([([]:List Int)]:List (List Int)) 0 y=[y]:=fun _=>rfl;refine⟨?_,by simp[ha]⟩;simp only[a6P,dlt hi,cT,a0c hi,oB,a8A (show short c[i]by unfold short;omega),hs];rw[a1y (by simp;omega),cT,a0h (show i<1000000 by omega)];rfl,fun b hb=>by cases hb⟩)
  (fun a ha=>by simp only[a6P,dge,cF]) (a:=[]) rfl
 rw[b8h (fun x:List Int=>[x])]at this;unfold a7k;simp only[nZ]at this;rw[this];simp[b0p]
def a6X(sign g:Int)(x y:Int):Int:=y+sign*(g*x / 256)
def b3B(sign g:Int)(xs ys:List Int):List Int:=List.zipWith (a6X sign g) xs ys
theorem d3Z(sign g:Int){xs ys:List Int}(h:xs.length=ys.length):(b3B sign g xs ys).length=ys.length:=by simp[b3B,h]
theorem d4a{sign g x y:Int}(hs:sign=1∨sign=-1)(hg:-1024≤g∧g≤1024)(hx:a0b x=true)(hy:a0b y=true):
  wrap .i64 (y+wrap .i64 (sign*a0F .i64 (wrap .i64 (g*x)) 8))=a6X sign g x y:=by
 have hx:=a2o.1 hx;have hy:=a2o.1 hy;have h1:-1099511627776≤g*x∧g*x≤1099511627776:=by
  have h1:g.natAbs≤1024:=by omega
  have h2:x.natAbs≤1073741824:=by omega
  have:=a90 h1 h2
  rw[←Int.natAbs_mul]at this;omega
 rw[a0g (n:=g*x) (by omega)];have h2:a0F .i64 (g*x) 8=g*x / 256:=by
  unfold a0F;show(g*x).fdiv (2^8)=_;rw[a60 _ (by omega)];rfl
 rw[h2];unfold a6X;rcases hs with rfl|rfl;rw[a0g (n:=1*(g*x / 256)) (by omega),a0g (by omega)];rw[a0g (n:=-1*(g*x / 256)) (by omega),a0g (by omega)]
end Go.Ab
namespace Go.Ab
open IntKind(wrap)
theorem c1B{α:Type}(c:List α){a b:Nat}(h:a≠b)(y d:α):(c.set b y).getD a d=c.getD a d:=by
 rw[lD,lD,a78 (Ne.symm h)]
theorem c1C{α:Type}(c:List α){b:Nat}(h:b<c.length)(y d:α):(c.set b y).getD b d=y:=by
 rw[lD,a71 h];rfl
theorem d4N{α:Type}(p:List α)(x:α)(s:List α)(d:α):(p++x::s).getD p.length d=x:=by
 rw[lD];simp
theorem d5B{α:Type}(p:List α)(x y:α)(s:List α):(p++x::s).set p.length y=p++y::s:=by simp
theorem c3I{c:List (List Int)}{s:a1n}{sign:Int}(hsg:sign=1∨sign=-1)(hg:-1024≤s.2.2.1∧s.2.2.1≤1024)(a0:0≤s.1)(b0:0≤s.2.1)(hab:s.1.toNat≠s.2.1.toNat)(hb:s.2.1.toNat<c.length)(hb':s.2.1<(c.length:Int))
  {xs:List Int}(hxs:c.getD s.1.toNat []=xs)(hn:xs.length≤5000):∀(sx suf px pre:List Int),px++sx=xs→px.length=pre.length→sx.length=suf.length→sx.all a0b=true→suf.all a0b=true→
  if(b3B sign s.2.2.1 sx suf).all a0b=true then
   a0j a4e (sign,(xs.length:Int),(pre.length:Int),c.set s.2.1.toNat (pre++suf),s,((s.1.toNat:Nat):Int),())=some (.inl (c.set s.2.1.toNat (pre++b3B sign s.2.2.1 sx suf),()))
  else ∃c',a0j a4e (sign,(xs.length:Int),(pre.length:Int),c.set s.2.1.toNat (pre++suf),s,((s.1.toNat:Nat):Int),())=some (.inr (false,c',()))
 | [],suf,px,pre,hx,hp,hl,_,_=>by
  have e:suf=[]:=a41.1 hl.symm;subst e;have e2:pre.length=xs.length:=by rw[←hx,←hp];simp
  rw[if_pos (by rfl),e2];exact a0q (by simp only[a4e,dge,cF];rfl)
 |x::sx,[],px,pre,_,_,hl,_,_=>by simp at hl
 |x::sx,y::suf,px,pre,hx,hp,hl,hwx,hwy=>by
  simp only[a09,bA]at hwx hwy;have hlt:pre.length<xs.length:=by rw[←hx,←hp];simp
  have h1:(c.set s.2.1.toNat (pre++y::suf)).getD (a39 ((s.1.toNat:Nat):Int)) []=xs:=by rw[tN,c1B _ hab];exact hxs
  have h2:(c.set s.2.1.toNat (pre++y::suf)).getD s.2.1.toNat []=pre++y::suf:=c1C _ hb _ _;have h3:b30 xs (a39 (pre.length:Int)) 0=x:=by rw[tN,←hp,←hx];exact d4N _ _ _ _
  have h4:b30 (pre++y::suf) (a39 (pre.length:Int)) 0=y:=by rw[tN];exact d4N _ _ _ _
  have d0:decide ((0:Int)≤(pre.length:Int))=true:=by simp
  have d1:decide ((pre.length:Int)<(xs.length:Int))=true:=by simp;omega
  have d2:decide ((0:Int)≤s.2.1)=true:=by simpa using b0
  have d3:decide (s.2.1<(((c.set s.2.1.toNat (pre++y::suf)).length:Nat):Int))=true:=by rw[b24];simpa using hb'
  have d4:decide ((pre.length:Int)<(((pre++y::suf).length:Nat):Int))=true:=by simp;omega
  have hv:=d4a hsg hg hwx.1 hwy.1;have hw:wrap .i64 ((pre.length:Int)+1)=((pre.length+1:Nat):Int):=a0h (by omega);have hz:b3B sign s.2.2.1 (x::sx) (y::suf)=a6X sign s.2.2.1 x y::b3B sign s.2.2.1 sx suf:=rfl;have hset:List.set (c.set s.2.1.toNat (pre++y::suf)) s.2.1.toNat (List.set (pre++y::suf) (a39 (pre.length:Int)) (a6X sign s.2.2.1 x y))=c.set s.2.1.toNat ((pre++[a6X sign s.2.2.1 x y])++suf):=by
   rw[tN,List.set_set,d5B];simp
  have hround:a4e (sign,(xs.length:Int),(pre.length:Int),c.set s.2.1.toNat (pre++y::suf),s,((s.1.toNat:Nat):Int),()) =
    bif !(a0b (a6X sign s.2.2.1 x y))then some (.inr (Sum.inr (false,c.set s.2.1.toNat (pre++y::suf),())))
    else some (.inl (sign,(xs.length:Int),((pre.length+1:Nat):Int),c.set s.2.1.toNat ((pre++[a6X sign s.2.2.1 x y])++suf),s,((s.1.toNat:Nat):Int),())):=by
   simp only[a4e,d1,cT,h1,h2,d0,a05,d2,d3,d4,h3,h4,b5i,hv,oB,hw];cases hwv:a0b (a6X sign s.2.2.1 x y);rfl;simp only[bT,cF];rw[hset,tN]
  cases hwv:a0b (a6X sign s.2.2.1 x y)with
  |false=>
   rw[hz,if_neg (by simp[hwv])];rw[hwv]at hround;exact⟨_,a0q hround⟩
  |true=>
   rw[hwv]at hround;have ih:=c3I hsg hg a0 b0 hab hb hb' hxs hn sx suf (px++[x]) (pre++[a6X sign s.2.2.1 x y]) (by simpa using hx) (by simp[hp]) (by simpa using hl) hwx.2 hwy.2;rw[a0t hround,hz];simp only[a09,hwv,a31];rw[show((pre++[a6X sign s.2.2.1 x y]).length)=pre.length+1 from by simp]at ih;split;rename_i hA;rw[if_pos hA]at ih;rw[ih]
   simp
   rename_i hA;rw[if_neg hA]at ih;exact ih
def a6k(sign:Int)(s:a1n)(c:List (List Int)):Option (List (List Int)):=
 let r:=b3B sign s.2.2.1 (c.getD s.1.toNat []) (c.getD s.2.1.toNat [])
 if r.all a0b=true then some (c.set s.2.1.toNat r)else none
theorem b0G{c:List (List Int)}{n:Nat}(h:a6W c n){i:Nat}(hi:i<c.length):(c.getD i []).length=n∧(c.getD i []).all a0b=true:=by
 rw[lD,lG hi];exact h _ (a06 hi)
theorem c8c{c:List (List Int)}{n:Nat}(hc:a6W c n)(hn:n≤5000){s:a1n}(hs:a3Y (c.length:Int) s=true){sign:Int}(hsg:sign=1∨sign=-1):
  ∃b c',a8r (c,s,sign)=some (b,c')∧match a6k sign s c with|some r=>b=true∧c'=r|none=>b=false:=by
 obtain⟨a1,a2,a3,a4,a5,a6,a7⟩:=a6K.1 hs;have hx:=b0G hc (i:=s.1.toNat) (by omega);have hy:=b0G hc (i:=s.2.1.toNat) (by omega);have hb:s.2.1.toNat<c.length:=by omega
 have hset:c.set s.2.1.toNat (c.getD s.2.1.toNat [])=c:=by
  apply b17;intro i
  by_cases hi:s.2.1.toNat=i
  subst hi;rw[a71 hb,lD,lG hb];rfl;rw[a78 hi]
 have:=c3I hsg ⟨a6,a7⟩ a1 a3 (by omega) hb a4 (rfl:c.getD s.1.toNat []=_) (by omega) (c.getD s.1.toNat []) (c.getD s.2.1.toNat []) [] [] rfl rfl (by omega) hx.2 hy.2
 rw[a04,hset]at this;simp only[a20,nZ,a04,a16]at this;have d1:decide ((0:Int)≤s.1)=true:=by simpa using a1
 have d2:decide (s.1<(c.length:Int))=true:=by simpa using a2
 unfold a8r a6k;simp only[d1,d2,a05,cT]
 by_cases hA:(b3B sign s.2.2.1 (c.getD s.1.toNat []) (c.getD s.2.1.toNat [])).all a0b=true
 rw[if_pos hA]at this⊢;refine⟨true,_,?_,rfl,rfl⟩
 erw[this]
 rfl;rw[if_neg hA]at this⊢;obtain⟨c',h⟩:=this;refine⟨false,c',?_,rfl⟩
 erw[h]
 rfl
theorem b4d{c c':List (List Int)}{n:Nat}(hc:a6W c n){s:a1n}(hs:a3Y (c.length:Int) s=true){sign:Int}(h:a6k sign s c=some c'):a6W c' n∧c'.length=c.length:=by
 obtain⟨a1,a2,a3,a4,a5,a6,a7⟩:=a6K.1 hs;have hx:=b0G hc (i:=s.1.toNat) (by omega);have hy:=b0G hc (i:=s.2.1.toNat) (by omega);unfold a6k at h;simp only at h
 split at h
 rename_i hA;cases h;refine⟨fun r hr=>?_,by simp⟩;rcases List.mem_or_eq_of_mem_set hr with hr|rfl;exact hc r hr;exact⟨by rw[d3Z _ _ (by omega)];exact hy.1,hA⟩;cases h
theorem c8d(g:Int):∀xs ys:List Int,xs.length=ys.length→b3B (-1) g xs (b3B 1 g xs ys)=ys
 | [],[],_=>rfl
 |x::xs,y::ys,h=>by
  have ih:=c8d g xs ys (by simpa using h);show a6X (-1) g x (a6X 1 g x y)::b3B (-1) g xs (b3B 1 g xs ys)=_;rw[ih];unfold a6X;congr 1;omega
 | [],_::_,h=>by simp at h
 |_::_,[],h=>by simp at h
theorem d2G{c c':List (List Int)}{n:Nat}(hc:a6W c n){s:a1n}(hs:a3Y (c.length:Int) s=true)(h:a6k 1 s c=some c'):a6k (-1) s c'=some c:=by
 obtain⟨a1,a2,a3,a4,a5,a6,a7⟩:=a6K.1 hs;have hx:=b0G hc (i:=s.1.toNat) (by omega);have hy:=b0G hc (i:=s.2.1.toNat) (by omega);have hb:s.2.1.toNat<c.length:=by omega
 unfold a6k at h;simp only at h
 split at h
 cases h;unfold a6k;simp only;rw[c1B _ (show s.1.toNat≠s.2.1.toNat by omega),c1C _ hb,c8d _ _ _ (by omega),if_pos hy.2,List.set_set];congr 1;apply b17;intro i
 by_cases hi:s.2.1.toNat=i
 subst hi;rw[a71 hb,lD,lG hb];rfl;rw[a78 hi];cases h
def doO:List a1n→List (List Int)→Option (List (List Int))
 | [],c=>some c
 |s::l,c=>(a6k 1 s c).bind (doO l)
def b1B:List a1n→List (List Int)→Option (List (List Int))
 | [],c=>some c
 |s::l,c=>(b1B l c).bind (a6k (-1) s)
theorem c0p{n:Nat}{N:Nat}:∀(l:List a1n){c c':List (List Int)},a6W c n→c.length=N→l.all (a3Y (N:Int))=true→doO l c=some c'→a6W c' n∧c'.length=N
 | [],c,c',hc,hl,_,h=>by cases h;exact⟨hc,hl⟩
 |s::l,c,c',hc,hl,hs,h=>by
  simp only[a09,bA]at hs;simp only[doO,a27]at h;obtain⟨d,h1,h2⟩:=h;obtain⟨k1,k2⟩:=b4d hc (by rw[hl];exact hs.1) h1;exact c0p l k1 (by omega) hs.2 h2
theorem c9x{n:Nat}{N:Nat}:∀(l:List a1n){c c':List (List Int)},a6W c n→c.length=N→l.all (a3Y (N:Int))=true→doO l c=some c'→b1B l c'=some c
 | [],c,c',_,_,_,h=>by cases h;rfl
 |s::l,c,c',hc,hl,hs,h=>by
  simp only[a09,bA]at hs;simp only[doO,a27]at h;obtain⟨d,h1,h2⟩:=h;obtain⟨k1,k2⟩:=b4d hc (by rw[hl];exact hs.1) h1;simp only[b1B];rw[c9x l k1 (by omega) hs.2 h2];exact d2G hc (by rw[hl];exact hs.1) h1
end Go.Ab
namespace Go.Ab
def d1j:Option (List (List Int))→List (List Int)×Int
 |some r=>(r,0)
 |none=>([],6)
theorem c9y{n N:Nat}(hn:n≤5000){l:List a1n}(hl:l.length≤16)(hN:l.all (a3Y (N:Int))=true):∀(k i:Nat)(c:List (List Int)),i+k=l.length→a6W c n→c.length=N→
  a0j a8x (l,(l.length:Int),(i:Int),c,())=some (match doO (l.drop i) c with|some r=>Sum.inl (r,())|none=>Sum.inr ([],6,()))
 |0,i,c,h,_,_=>by
  obtain rfl:i=l.length:=by omega
  rw[a23];exact a0q (by simp only[a8x,dge,cF];rfl)
 |k+1,i,c,h,hc,hcl=>by
  have hi:i<l.length:=by omega
  rw[a03 hi];have hs:a3Y (c.length:Int) l[i]=true:=by rw[hcl];exact lA.1 hN _ (a06 hi)
  obtain⟨b,c',h1,h2⟩:=c8c hc hn hs (sign:=1) (.inl rfl);simp only[doO];cases hst:a6k 1 l[i] c with
  |none=>
   rw[hst]at h2;simp only at h2;subst h2;exact a0q (by simp only[a8x,dlt hi,cT,a0c hi,oB,h1,a19];rfl)
  |some r=>
   rw[hst]at h2;obtain⟨rfl,rfl⟩:=h2;obtain⟨k1,k2⟩:=b4d hc hs hst;rw[a0t (s':=(l,(l.length:Int),((i+1:Nat):Int),c',())) (by
    simp only[a8x,dlt hi,cT,a0c hi,oB,h1,bT,cF,a0h (show i<1000000 by omega)])]
   rw[c9y hn hl hN k (i+1) c' (by omega) k1 (by omega)];rfl
theorem d7R(c:List (List Int))(l:List a1n):b0C (c,l)=some (if a5k c∧b0r l (c.length:Int)then d1j (doO l c)else([],1)):=by
 unfold b0C;simp only[c9v,oB]
 by_cases hq:a5k c
 have hN:=c9w hq;simp only[hq,decide_true,bT,cF,b6y,oB,true_and]
 by_cases hm:b0r l (c.length:Int)
 simp only[hm,decide_true,bT,cF,if_true];rw[c5J hN (by have:=hq.2.2.1;omega) (by have:=hq.2.1;omega)]
 have:=c9y (N:=c.length) (by have:=hq.2.2.1;omega:(c.headD []).length≤5000) hm.2.2.1 hm.2.2.2 l.length 0 c (by omega) hN rfl
 simp only[nZ,a18,a16]at this;simp only[oB]
 erw[this]
 cases doO l c<;>rfl;simp only[hm,decide_false,a19,cT,if_false];simp only[hq,decide_false,a19,cT,oB,false_and,if_false]
theorem c3J(s:a1n):∀(l:List a1n)(c:List (List Int)),b1B (l++[s]) c=(a6k (-1) s c).bind (b1B l)
 | [],c=>by
  show a6k (-1) s c=_;cases a6k (-1) s c<;>rfl
 |t::l,c=>by
  simp only[a75,b1B,c3J s l];cases a6k (-1) s c<;>rfl
theorem c5K{n N:Nat}(hn:n≤5000){l:List a1n}(hN:l.all (a3Y (N:Int))=true)(z:List (List Int))(e:Int):∀(k:Nat)(c:List (List Int)),k≤l.length→a6W c n→c.length=N→
  match b1B (l.take k) c with
  |some r=>a5A a3N l k (l,z,e,c,())=some (.inl (l,z,e,r,()))
  |none=>∃d,a5A a3N l k (l,z,e,c,())=some (.inr (.ret,l,[],6,d,()))
 |0,c,_,_,_=>rfl
 |k+1,c,hk,hc,hcl=>by
  have hi:k<l.length:=by omega
  have hs:a3Y (c.length:Int) l[k]=true:=by rw[hcl];exact lA.1 hN _ (a06 hi)
  obtain⟨b,c',h1,h2⟩:=c8c hc hn hs (sign:=-1) (.inr rfl);rw[a49 hi,c3J];cases hst:a6k (-1) l[k] c with
  |none=>
   rw[hst]at h2;simp only at h2;subst h2;refine⟨c',?_⟩;simp only[a5A,lG hi,a3N,h1,oB,a19,cT]
  |some r=>
   rw[hst]at h2;obtain⟨rfl,rfl⟩:=h2;obtain⟨k1,k2⟩:=b4d hc hs hst;have ih:=c5K hn hN z e k c' (by omega) k1 (by omega);have hb:a5A a3N l (k+1) (l,z,e,c,())=a5A a3N l k (l,z,e,c',()):=by
    simp only[a5A,lG hi,a3N,h1,oB,bT,cF]
   rw[hb];exact ih
theorem d5C(c:List (List Int))(l:List a1n):b2u (c,l)=some (if a5k c∧b0r l (c.length:Int)then d1j (b1B l c)else([],1)):=by
 unfold b2u;simp only[c9v,oB]
 by_cases hq:a5k c
 ·have hN:=c9w hq;simp only[hq,decide_true,bT,cF,b6y,oB,true_and]
  by_cases hm:b0r l (c.length:Int)
  ·simp only[hm,decide_true,bT,cF,if_true];rw[c5J hN (by have:=hq.2.2.1;omega) (by have:=hq.2.1;omega)]
   have:=c5K (N:=c.length) (by have:=hq.2.2.1;omega:(c.headD []).length≤5000) hm.2.2.2 [] 0 l.length c (a44 _) hN rfl
   rw[a25]at this;simp only[oB,a1y (show l.length<2147483648 by have:=hm.2.2.1;omega),cT];cases hu:b1B l c with
   |some r=>
    rw[hu]at this;simp only at this
    erw[this]
    rfl
   |none=>
    rw[hu]at this;obtain⟨d,hd⟩:=this
    erw[hd]
    rfl
  simp only[hm,decide_false,a19,cT,if_false]
 simp only[hq,decide_false,a19,cT,oB,false_and,if_false]
def a2Q(b:a2x):Nat:=(b.2.1.headD []).length
theorem a8F(b:a2x):a4C b=some ((a2Q b:Nat):Int):=by
 unfold a4C a2Q;obtain⟨d,c,u⟩:=b;cases c with
 |nil=>rfl
 |cons r c=>
  have:((((r::c).length:Nat):Int)==0)=false:=by simp;omega
  simp only[this,cF];rfl
def a8G(b:a2x):Prop:=4≤b.1∧b.1≤24∧1≤b.2.1.length∧b.2.1.length≤8∧1≤a2Q b∧a2Q b≤4096∧b.2.1.all (fun r=>decide (r.length=a2Q b)&&r.all fun x=>a2b x b.1)=true
instance (b:a2x):Decidable (a8G b):=by unfold a8G;infer_instance
theorem c8e{x w:Int}(h:4≤w∧w≤24):a4i (x,w)=some (a2b x w):=by
 have:=b2b (x:=x) (w:=w.toNat) (by omega)
 rwa [a22 (by omega)]at this
theorem c8f(b:a2x):a7D b=some (decide (a8G b)):=by
 unfold a7D a7d
 by_cases h1:4≤b.1
 rotate_left;rw[decide_eq_false (show ¬ a8G b from fun h=>h1 h.1),decide_eq_false h1];rfl
 by_cases h2:b.1≤24
 rotate_left;rw[decide_eq_false (show ¬ a8G b from fun h=>h2 h.2.1),decide_eq_true h1,decide_eq_false h2];rfl
 by_cases h3:((b.2.1.length:Nat):Int)<1
 rw[decide_eq_false (show ¬ a8G b from fun h=>by have:=h.2.2.1;omega),decide_eq_true h1,decide_eq_true h2,decide_eq_true h3];rfl
 by_cases h4:((b.2.1.length:Nat):Int) > 8
 rw[decide_eq_false (show ¬ a8G b from fun h=>by have:=h.2.2.2.1;omega),decide_eq_true h1,decide_eq_true h2,decide_eq_false h3,decide_eq_true h4];rfl;have d3:decide (((b.2.1.length:Nat):Int)<1)=false:=by simpa using h3
 have d4:decide (((b.2.1.length:Nat):Int) > 8)=false:=by simpa using h4
 simp only[decide_eq_true h1,decide_eq_true h2,d3,d4,cT,cF,oB,bT,a8F]
 by_cases h5:((a2Q b:Nat):Int)<1
 rw[decide_eq_false (show ¬ a8G b from fun h=>by have:=h.2.2.2.2.1;omega),decide_eq_true h5];rfl
 by_cases h6:((a2Q b:Nat):Int) > 4096
 rw[decide_eq_false (show ¬ a8G b from fun h=>by have:=h.2.2.2.2.2.1;omega),decide_eq_false h5,decide_eq_true h6];rfl;have d5:decide (((a2Q b:Nat):Int)<1)=false:=by simpa using h5
 have d6:decide (((a2Q b:Nat):Int) > 4096)=false:=by simpa using h6
 simp only[d5,d6,cF,oB];have inner:∀(i:Nat)(r:List Int),short r→a0j a4O (b.2.1,(b.2.1.length:Int),(i:Int),r,(r.length:Int),(0:Int),b,())=some (bif r.all (fun x=>a2b x b.1)then Sum.inl (b.2.1,(b.2.1.length:Int),(i:Int),b,())else Sum.inr (false,())):=fun i r hr=>by
  have:=a1l (f:=a4O) r (fun j=>(b.2.1,(b.2.1.length:Int),(i:Int),r,(r.length:Int),(j:Int),b,())) (fun x=>a2b x b.1) (bt:=Sum.inl (b.2.1,(b.2.1.length:Int),(i:Int),b,())) (bf:=Sum.inr (false,()))
   (fun j h hp=>by simp only[a4O,dlt h,cT,a0c h,oB,c8e ⟨h1,h2⟩,hp,bT,cF,a0h (a51 h hr)])
   (fun j h hp=>by simp only[a4O,dlt h,cT,a0c h,oB,c8e ⟨h1,h2⟩,hp,a19])
   (by simp only[a4O,dge,cF])
  exact this
 have hall:=a1l (f:=a4P) b.2.1 (fun i=>(b.2.1,(b.2.1.length:Int),(i:Int),b,())) (fun r=>decide (r.length=a2Q b)&&r.all fun x=>a2b x b.1) (bt:=Sum.inl ()) (bf:=Sum.inr (false,()))
  (fun i h hp=>by
   simp only[bA,dT]at hp;have e:((((b.2.1[i]).length:Nat):Int) != ((a2Q b:Nat):Int))=false:=by rw[hp.1];exact bne_self_eq_false _
   have hi:=inner i b.2.1[i] (by unfold short;omega);rw[hp.2,cT]at hi;simp only[a4P,dlt h,cT,a0c h,oB,a8F,e,cF,hi,a0h (show i<1000000 by omega)])
  (fun i h hp=>by
   by_cases hl:(b.2.1[i]).length=a2Q b
   have e:((((b.2.1[i]).length:Nat):Int) != ((a2Q b:Nat):Int))=false:=by rw[hl];exact bne_self_eq_false _
   have hi:=inner i b.2.1[i] (by unfold short;omega);rw[decide_eq_true hl,a31]at hp;rw[hp,cF]at hi;simp only[a4P,dlt h,cT,a0c h,oB,a8F,e,cF,hi];have e:((((b.2.1[i]).length:Nat):Int) != ((a2Q b:Nat):Int))=true:=by simp only[bne_iff_ne,ne_eq,a88];exact hl
   simp only[a4P,dlt h,cT,a0c h,oB,a8F,e])
  (by simp only[a4P,dge,cF])
 simp only[nZ]at hall;rw[hall]
 by_cases hA:b.2.1.all (fun r=>decide (r.length=a2Q b)&&r.all fun x=>a2b x b.1)=true
 rw[hA,decide_eq_true (show a8G b from⟨h1,h2,by omega,by omega,by omega,by omega,hA⟩)];rfl;rw[a69.2 hA,decide_eq_false (show ¬ a8G b from fun h=>hA h.2.2.2.2.2.2)];rfl
end Go.Ab
namespace Go.Ab
def b0s{α β:Type}(g:α→Option β):List α→Option (List β)
 | []=>some []
 |a::l=>(g a).bind fun b=>(b0s g l).bind fun r=>some (b::r)
theorem c2h{α β:Type}{g:α→Option β}:∀{l:List α}{r:List β},b0s g l=some r→r.length=l.length
 | [],r,h=>by cases h;rfl
 |a::l,r,h=>by
  simp only[b0s,a27]at h;obtain⟨b,-,r',h2,h3⟩:=h;cases h3;simp[c2h h2]
theorem c5L{α β:Type}{g:α→Option β}:∀{l:List α}{r:List β},b0s g l=some r→∀a∈l,(g a).isSome=true
 | [],r,h,a,ha=>by cases ha
 |a::l,r,h,x,hx=>by
  simp only[b0s,a27]at h;obtain⟨b,h1,r',h2,h3⟩:=h;rcases mC.1 hx with rfl|hx;rw[h1];rfl;exact c5L h2 x hx
def b1C(f:a1A):Option a2x:=
 if frP f∧((f.2.2.2.2.1.length:Nat):Int)=f.2.2.1.2.1 then
  (b0s (fun s=>a3q s f.2.1) f.2.2.2.2.1).bind fun rs=>
   if a5k rs∧b0r f.2.2.2.1 (rs.length:Int)then
    (b1B f.2.2.2.1 rs).bind fun ch=>if a8G (f.2.2.1.2.2.1,ch,())then some (f.2.2.1.2.2.1,ch,())else none
   else none
 else none
def b7s:a2x:=(0,[],())
def d6t:Option a2x→a2x×Int
 |some b=>(b,0)
 |none=>(b7s,1)
theorem c1D(f:a1A)(all:List Sub)(h8:all.length≤8):∀(rest done:List Sub)(rows:List (List Int)),done++rest=all→rows.length=done.length→(∀s∈rest,SmallS s)→
  a0j a4V (all,(all.length:Int),(done.length:Int),rows,b7s,f,())=some (match b0s (fun s=>a3q s f.2.1) rest with|some rs=>Sum.inl (rows++rs,b7s,f,())|none=>Sum.inr (1,b7s,()))
 | [],done,rows,hd,hr,_=>by
  have e:done=all:=by simpa using hd
  subst e;rw[a0q (b:=Sum.inl (rows,b7s,f,())) (by simp only[a4V,dge,cF])];simp[b0s]
 |s::rest,done,rows,hd,hr,h=>by
  have hs:=h s (by simp);have hlt:done.length<all.length:=by rw[←hd];simp
  have hg:a0o all (done.length:Int)=some s:=by rw[a0c hlt];subst hd;simp
  have hrow:=c3g hs f.2.1;simp only[b0s];cases ho:a3q s f.2.1 with
  |none=>
   rw[ho]at hrow;have b1:((1:Int) != 0)=true:=rfl;exact a0q (by simp only[a4V,dlt hlt,cT,hg,oB,hrow,b1];rfl)
  |some r=>
   rw[ho]at hrow;have b0:((0:Int) != 0)=false:=rfl;rw[a0t (s':=(all,(all.length:Int),(((done++[s]).length:Nat):Int),rows++[r],b7s,f,())) (by
    simp only[a4V,dlt hlt,cT,hg,oB,hrow,b0,cF,a1y (show rows.length+1<2147483648 by omega),a0h (show done.length<1000000 by omega)]
    simp)]
   rw[c1D f all h8 rest (done++[s]) (rows++[r]) (by simpa using hd) (by simp[hr]) (fun t ht=>h t (by simp[ht]))];simp only[oB];cases b0s (fun s=>a3q s f.2.1) rest<;>simp
theorem c8g{f:a1A}(hS:∀s∈f.2.2.2.2.1,SmallS s):a5s f=some (d6t (b1C f)):=by
 unfold a5s b1C;simp only[b7r,oB]
 by_cases hf:frP f
 rotate_left;simp only[hf,decide_false,a19,cT,oB,false_and,if_false];rfl
 by_cases hl:((f.2.2.2.2.1.length:Nat):Int)=f.2.2.1.2.1
 rotate_left;have e:(((f.2.2.2.2.1.length:Nat):Int) != f.2.2.1.2.1)=true:=by simpa using hl
 simp only[hf,decide_true,bT,cF,oB,e,cT,hl,and_false,if_false];rfl;have e:(((f.2.2.2.2.1.length:Nat):Int) != f.2.2.1.2.1)=false:=by simpa using hl
 have h8:f.2.2.2.2.1.length≤8:=by have:=hf.1.2.2.2.1;omega
 have d0:decide ((0:Int)≤((f.2.2.2.2.1.length:Nat):Int))=true:=by simp
 have hloop:=c1D f f.2.2.2.2.1 h8 f.2.2.2.2.1 [] [] rfl rfl hS;rw[a20]at hloop;rw[if_pos ⟨hf,hl⟩];simp only[hf,decide_true,bT,cF,oB,e,d0,tN,a1y (show f.2.2.2.2.1.length<2147483648 by omega),a05,cT]
 erw[hloop]
 cases hm:b0s (fun s=>a3q s f.2.1) f.2.2.2.2.1 with
 |none=>rfl
 |some rs=>
  simp only[oB,a04,d5C]
  by_cases hq:a5k rs∧b0r f.2.2.2.1 (rs.length:Int)
  ·simp only[if_pos hq];cases hu:b1B f.2.2.2.1 rs with
   |none=>rfl
   |some ch=>
    have b0:((0:Int) != 0)=false:=rfl;simp only[d1j,b0,cF,c8f,oB]
    by_cases hb:a8G (f.2.2.1.2.2.1,ch,())
    simp only[hb,decide_true,bT,cF,if_true];rfl;simp only[hb,decide_false,a19,cT,if_false];rfl
  simp only[if_neg hq];rfl
theorem d2H{f:a1A}(hS:∀s∈f.2.2.2.2.1,SmallS s):a3Q f=some (b1C f).isSome:=by
 unfold a3Q;rw[c8g hS];cases b1C f<;>rfl
theorem c8h{f:a1A}{b:a2x}(h:b1C f=some b):frP f∧((f.2.2.2.2.1.length:Nat):Int)=f.2.2.1.2.1∧∀s∈f.2.2.2.2.1,(a3q s f.2.1).isSome=true:=by
 unfold b1C at h
 split at h
 rename_i hc;simp only[a27]at h;obtain⟨rs,h1,-⟩:=h;exact⟨hc.1,hc.2,c5L h1⟩;cases h
theorem d1k{f:a1A}{b:a2x}(hS:∀s∈f.2.2.2.2.1,SmallS s)(h:b1C f=some b):∃L,L.length≤5600000∧some ((L.length:Nat):Int)=f.2.2.2.2.1.foldr (fun s a=>a.bind fun a=>(a4y (s,f.2.1)).bind fun c=>some (c+a)) (some 0)∧
  a7G f=some (a4t f L,0)∧(∀R:List Int,R.length≤1000→a4Z (a4t f L++R)=some (f,((a4t f L).length:Int),(0:Int)))∧
  (∀R:List Int,R.length≤1000→a8v (a4t f L++R)=some (f.2.2.1,f.1,f.2.1,(0:Int))):=by
 obtain⟨h1,h2,h3⟩:=c8h h;have hm:a3Q f=some true:=by rw[d2H hS,h];rfl
 have h8:f.2.2.2.2.1.length≤8:=by have:=h1.1.2.2.2.1;omega
 obtain⟨zs,k1,k2,k3,k4,k5⟩:=c8a hm h1 h8 (fun s hs=>⟨hS s hs,h3 s hs⟩);exact⟨a0r zs,k3,k4,k5,fun R hR=>c6g hm h1 h2 k1 k2 k3 hR,fun R hR=>c6h h1 k3 hR⟩
end Go.Ab
namespace Go.Ab
set_option maxRecDepth 100000 in
theorem d5D:b6p ()=some true:=by kernel_rfl
end Go.Ab
namespace Go.Ab
open IntKind(wrap)
theorem c6i{x:List (List Int)}(h:∀r∈x,short r)(hl:x.length<1000000):a9a (x,x)=some true:=by
 unfold a9a
 have:=a1l (f:=a6h) (β:=Unit ⊕ (Bool×Unit)) x (fun i=>(x,x,(i:Int),())) (fun _=>true) (bt:=Sum.inl ()) (bf:=Sum.inr (false,()))
  (fun i hi _=>by simp only[a6h,dlt hi,cT,a0c hi,oB,a9E (h _ (a06 hi)),decide_true,bT,cF,a0h (show i<1000000 by omega)])
  (fun i hi hp=>by cases hp) (by simp only[a6h,dge,cF])
 simp only[nZ]at this;simp only[bne_self_eq_false,cF];rw[this]
 have:x.all (fun _=>true)=true:=by simp
 rw[this];rfl
theorem c4I{b:a2x}(h:∀r∈b.2.1,short r)(hl:b.2.1.length<1000000):a5F (b,b)=some true:=by
 unfold a5F;simp only[beq_self_eq_true,cT,c6i h hl,oB]
theorem c8i(x:a1n):eqT (.pair (.int .i64) (.pair (.int .i64) (.pair (.int .i64) .unit))) x x=true:=by
 show((x.1==x.1)&&((x.2.1==x.2.1)&&((x.2.2.1==x.2.2.1)&&true)))=true
 simp
theorem c4J{x:List a1n}(hl:x.length<1000000):a7Y (x,x)=some true:=by
 unfold a7Y
 have:=a1l (f:=a5J) (β:=Unit ⊕ (Bool×Unit)) x (fun i=>(x,x,(i:Int),())) (fun _=>true) (bt:=Sum.inl ()) (bf:=Sum.inr (false,()))
  (fun i hi _=>by simp only[a5J,dlt hi,cT,a0c hi,oB,c8i,bT,cF,a0h (show i<1000000 by omega)])
  (fun i hi hp=>by cases hp) (by simp only[a5J,dge,cF])
 simp only[nZ]at this;simp only[bne_self_eq_false,cF];rw[this]
 have:x.all (fun _=>true)=true:=by simp
 rw[this];rfl
theorem c4K{f:a1A}(hS:∀s∈f.2.2.2.2.1,SmallS s)(h1:f.2.2.2.1.length<1000000)(h2:f.2.2.2.2.1.length<1000000):a5L (f,f)=some true:=by
 unfold a5L
 have:=a1l (f:=a5K) (β:=Unit ⊕ (Bool×Unit)) f.2.2.2.2.1 (fun i=>((i:Int),f,f,())) (fun _=>true) (bt:=Sum.inl ()) (bf:=Sum.inr (false,()))
  (fun i hi _=>by simp only[a5K,dlt hi,cT,a0c hi,oB,d0R (hS _ (a06 hi)),decide_true,bT,cF,a0h (show i<1000000 by omega)])
  (fun i hi hp=>by cases hp) (by simp only[a5K,dge,cF])
 simp only[nZ]at this;simp only[bne_self_eq_false,cF,c8i,bT,c4J h1,oB];rw[this]
 have:f.2.2.2.2.1.all (fun _=>true)=true:=by simp
 rw[this];rfl
def d6u(b:a2x)(m:Nat):Prop:=b.2.1.length≤12∧∀r∈b.2.1,r.length≤m
theorem d2I(b:a2x)(m:Nat):∃t,b3U (b,(m:Int))=some t∧(t=true→d6u b m):=by
 unfold b3U
 by_cases h1:((b.2.1.length:Nat):Int) > 12
 exact⟨false,by rw[decide_eq_true h1];rfl,fun h=>by cases h⟩;have d1:decide (((b.2.1.length:Nat):Int) > 12)=false:=decide_eq_false h1
 have:=a1l (f:=a7q) (β:=Unit ⊕ (Bool×Unit)) b.2.1 (fun i=>((m:Int),(i:Int),b,())) (fun r=>decide (r.length≤m)) (bt:=Sum.inl ()) (bf:=Sum.inr (false,()))
  (fun i hi hp=>by
   have e:decide (((b.2.1[i].length:Nat):Int) > (m:Int))=false:=by simp only[dT]at hp;simp only[decide_eq_false_iff_not];omega
   simp only[a7q,dlt hi,cT,a0c hi,oB,e,cF,a0h (show i<1000000 by omega)])
  (fun i hi hp=>by
   have e:decide (((b.2.1[i].length:Nat):Int) > (m:Int))=true:=by simp only[decide_eq_false_iff_not]at hp;simp only[dT];omega
   simp only[a7q,dlt hi,cT,a0c hi,oB,e]) (by simp only[a7q,dge,cF])
 simp only[nZ]at this;simp only[d1,cF];rw[this];cases hA:b.2.1.all (fun r=>decide (r.length≤m))with
 |true=>exact⟨true,rfl,fun _=>⟨by omega,fun r hr=>by simpa using lA.1 hA r hr⟩⟩
 |false=>exact⟨false,rfl,fun h=>by cases h⟩
theorem d4b{c:List (List Int)}:b2K c=some (decide (1≤c.length∧c.length≤8∧c.all (fun r=>decide (r.length=(c.headD []).length))=true)):=by
 unfold b2K
 by_cases h1:((c.length:Nat):Int)<1
 rw[decide_eq_false (show ¬ (1≤c.length∧_)from fun h=>by have:=h.1;omega),decide_eq_true h1];rfl
 by_cases h2:((c.length:Nat):Int) > 8
 rw[decide_eq_false (show ¬ (1≤c.length∧c.length≤8∧_)from fun h=>by have:=h.2.1;omega),decide_eq_false h1,decide_eq_true h2];rfl;have hc:0<c.length:=by omega
 have hg:a0o c 0=some (c.headD []):=by rw[show(0:Int)=((0:Nat):Int)from rfl,a0c hc,b5Q (d:=[]) hc]
 have:=a1l (f:=a6x) (β:=Unit ⊕ (Bool×Unit)) c (fun i=>(c,(i:Int),())) (fun r=>decide (r.length=(c.headD []).length)) (bt:=Sum.inl ()) (bf:=Sum.inr (false,()))
  (fun i hi hp=>by
   simp only[dT]at hp;have e:((((c[i]).length:Nat):Int) != (((c.headD []).length:Nat):Int))=false:=by rw[hp];exact bne_self_eq_false _
   simp only[a6x,dlt hi,cT,a0c hi,oB,hg,e,cF,a0h (show i<1000000 by omega)])
  (fun i hi hp=>by
   simp only[decide_eq_false_iff_not]at hp;have e:((((c[i]).length:Nat):Int) != (((c.headD []).length:Nat):Int))=true:=by simp only[bne_iff_ne,ne_eq,a88];exact hp
   simp only[a6x,dlt hi,cT,a0c hi,oB,hg,e]) (by simp only[a6x,dge,cF])
 simp only[nZ]at this;simp only[decide_eq_false h1,decide_eq_false h2,cF,oB];rw[this]
 by_cases hA:c.all (fun r=>decide (r.length=(c.headD []).length))=true
 rw[hA,decide_eq_true (show 1≤c.length∧c.length≤8∧true=true from⟨by omega,by omega,rfl⟩)];rfl;rw[a69.2 hA,decide_eq_false (show ¬ (1≤c.length∧c.length≤8∧false=true)from fun h=>by cases h.2.2)];rfl
theorem c0b{x w:Int}(h:4≤w∧w≤24):b3h (x,w)=some (a2b x w):=by
 have:=c8M (x:=x) (w:=w.toNat) (by omega)
 rwa [a22 (by omega)]at this
theorem c8T{b:a2x}(hs:∀r∈b.2.1,r.length≤100):∃t,a9h b=some t∧(t=true→a8G b):=by
 unfold a9h
 by_cases h1:b.1<4
 exact⟨false,by rw[decide_eq_true h1];rfl,fun h=>by cases h⟩
 by_cases h2:b.1 > 24
 exact⟨false,by rw[decide_eq_false h1,decide_eq_true h2];rfl,fun h=>by cases h⟩;simp only[decide_eq_false h1,decide_eq_false h2,cF,d4b,oB]
 by_cases h3:1≤b.2.1.length∧b.2.1.length≤8∧b.2.1.all (fun r=>decide (r.length=(b.2.1.headD []).length))=true
 rotate_left;exact⟨false,by rw[decide_eq_false h3];rfl,fun h=>by cases h⟩;have hc:0<b.2.1.length:=by omega
 have hg:a0o b.2.1 0=some (b.2.1.headD []):=by rw[show(0:Int)=((0:Nat):Int)from rfl,a0c hc,b5Q (d:=[]) hc]
 simp only[decide_eq_true h3,bT,cF,hg,oB]
 by_cases h4:(((b.2.1.headD []).length:Nat):Int)<1
 exact⟨false,by rw[decide_eq_true h4];rfl,fun h=>by cases h⟩
 by_cases h5:(((b.2.1.headD []).length:Nat):Int) > 4096
 exact⟨false,by rw[decide_eq_false h4,decide_eq_true h5];rfl,fun h=>by cases h⟩;simp only[decide_eq_false h4,decide_eq_false h5,cF,oB];have hb:4≤b.1∧b.1≤24:=by omega
 have inner:∀(i:Nat)(hi:i<b.2.1.length),a0j a3w ((i:Int),(0:Int),b,())=some (bif (b.2.1[i]).all (fun x=>a2b x b.1)then Sum.inl ((i:Int),b,())else Sum.inr (false,())):=fun i hi=>by
  have hl:=hs _ (a06 hi)
  have:=a1l (f:=a3w) (β:=(Int×a2x×Unit) ⊕ (Bool×Unit)) b.2.1[i] (fun j=>((i:Int),(j:Int),b,())) (fun x=>a2b x b.1) (bt:=Sum.inl ((i:Int),b,())) (bf:=Sum.inr (false,()))
   (fun j h hp=>by simp only[a3w,a0c hi,oB,dlt h,cT,a0c h,c0b hb,hp,bT,cF,a0h (show j<1000000 by omega)])
   (fun j h hp=>by simp only[a3w,a0c hi,oB,dlt h,cT,a0c h,c0b hb,hp,a19])
   (by simp only[a3w,a0c hi,oB,dge,cF])
  exact this
 have hall:=a1l (f:=a4r) (β:=Unit ⊕ (Bool×Unit)) b.2.1 (fun i=>((i:Int),b,())) (fun r=>r.all fun x=>a2b x b.1) (bt:=Sum.inl ()) (bf:=Sum.inr (false,()))
  (fun i h hp=>by
   have hi:=inner i h;rw[hp,cT]at hi;simp only[a4r,dlt h,cT];rw[hi];simp only[oB,a0h (show i<1000000 by omega)])
  (fun i h hp=>by
   have hi:=inner i h;rw[hp,cF]at hi;simp only[a4r,dlt h,cT];rw[hi];rfl)
  (by simp only[a4r,dge,cF])
 simp only[nZ]at hall;rw[hall];cases hA:b.2.1.all (fun r=>r.all fun x=>a2b x b.1)with
 |false=>exact⟨false,rfl,fun h=>by cases h⟩
 |true=>
  refine⟨true,rfl,fun _=>⟨hb.1,hb.2,h3.1,h3.2.1,by unfold a2Q;omega,by unfold a2Q;omega,lA.2 fun r hr=>?_⟩⟩;have g1:=lA.1 h3.2.2 r hr;have g2:=lA.1 hA r hr;simp only[dT]at g1;unfold a2Q;rw[decide_eq_true g1,g2];rfl
theorem d2J{x w:Int}(hw:4≤w∧w≤24)(h:a2b x w=true):a0b x=true:=by
 unfold a2b at h;simp only[bA,dT]at h;obtain⟨-,-,h1,h2⟩:=h;obtain⟨o,ho⟩:∃o:Nat,w-1=(o:Int):=⟨(w-1).toNat,by omega⟩;rw[ho]at h1 h2;rw[c7D (by omega)]at h2;have hp:2^o≤2^24:=a17 (by omega) (by omega);have hm:a0y .i64 (-1) (o:Int)=wrap .i64 (-((2^o:Nat):Int)):=by
  unfold a0y;show wrap .i64 (-1*2^(min (o:Int).toNat 64))=_;rw[tN,a64 (by omega),show((2^o:Nat):Int)=(2:Int)^o from by rw[b26];rfl,Int.neg_one_mul]
 rw[hm]at h1;generalize 2^o=p at hp h1 h2;have hp':p≤16777216:=hp;rw[a0g (by omega)]at h1 h2;exact a2o.2 (by omega)
theorem c2i{b:a2x}(h:a8G b):a6W b.2.1 (a2Q b)∧a5k b.2.1:=by
 obtain⟨h1,h2,h3,h4,h5,h6,h7⟩:=h;have hN:a6W b.2.1 (a2Q b):=fun r hr=>by
  have:=lA.1 h7 r hr
  simp only[bA,dT]at this;exact⟨this.1,lA.2 fun x hx=>d2J ⟨h1,h2⟩ (lA.1 this.2 x hx)⟩
 exact⟨hN,c8b hN h3 h4 h6⟩
theorem d1l{b:a2x}(hb:a8G b){l:List a1n}(hl:b0r l (b.2.1.length:Int)){rows:List (List Int)}(hd:doO l b.2.1=some rows){ss:List Sub}(hs:b0s (fun s=>a3q s ((a2Q b:Nat):Int)) ss=some rows)
  {start rate:Int}(hst:0≤start∧start≤4194304-((a2Q b:Nat):Int))(hr:1≤rate∧rate≤1048576):
  b1C (start,((a2Q b:Nat):Int),(rate,((b.2.1.length:Nat):Int),b.1,()),l,ss,())=some b:=by
 obtain⟨hN,hQ⟩:=c2i hb;obtain⟨k1,k2⟩:=c0p l hN rfl hl.2.2.2 hd;have hlen:=c2h hs;obtain⟨h1,h2,h3,h4,h5,h6,h7⟩:=hb;have hfr:frP (start,((a2Q b:Nat):Int),(rate,((b.2.1.length:Nat):Int),b.1,()),l,ss,()):=⟨⟨hr.1,hr.2,by show(1:Int)≤((b.2.1.length:Nat):Int);omega,by show((b.2.1.length:Nat):Int)≤8;omega,h1,h2⟩,by show(1:Int)≤((a2Q b:Nat):Int);omega,by show((a2Q b:Nat):Int)≤4096;omega,hst.1,hst.2,hl⟩;have hch:((ss.length:Nat):Int)=((b.2.1.length:Nat):Int):=by omega
 have hQ':a5k rows:=c8b k1 (by omega) (by omega) h6;have hm':b0r l ((rows.length:Nat):Int):=by rw[k2];exact hl
 have hu:=c9x l hN rfl hl.2.2.2 hd;have hbe:((b.1,b.2.1,()):a2x)=b:=rfl;unfold b1C;rw[if_pos ⟨hfr,hch⟩];simp only[hs,oB];rw[if_pos ⟨hQ',hm'⟩,hu];simp only[oB,hbe];rw[if_pos ⟨h1,h2,h3,h4,h5,h6,h7⟩]
end Go.Ab
namespace Go.Ab
open IntKind(wrap)
theorem c3K(s:Sub)(m:Nat)(hm:m≤5000)(ht:s.2.2.2.2.2.2.1.length=3):∃t,a5Y (s,(m:Int))=some t∧(t=true→SmallS s∧s.2.2.2.2.2.2.2.2.1.length≤m∧s.2.2.2.2.2.2.2.2.2.2.1.length≤m):=by
 unfold a5Y
 by_cases h1:((s.2.2.2.2.2.1.length:Nat):Int)≤40
 rotate_left;exact⟨false,by rw[decide_eq_false h1];rfl,fun h=>by cases h⟩
 by_cases h2:((s.2.2.2.2.2.2.2.1.length:Nat):Int)≤6
 rotate_left;exact⟨false,by rw[decide_eq_true h1,decide_eq_false h2];rfl,fun h=>by cases h⟩
 by_cases h3:((s.2.2.2.2.2.2.2.2.1.length:Nat):Int)≤(m:Int)
 rotate_left;exact⟨false,by rw[decide_eq_true h1,decide_eq_true h2,decide_eq_false h3];rfl,fun h=>by cases h⟩
 by_cases h4:((s.2.2.2.2.2.2.2.2.2.2.1.length:Nat):Int)≤(m:Int)
 rotate_left;exact⟨false,by rw[decide_eq_true h1,decide_eq_true h2,decide_eq_true h3,decide_eq_false h4];rfl,fun h=>by cases h⟩;refine⟨_,by rw[decide_eq_true h1,decide_eq_true h2,decide_eq_true h3,decide_eq_true h4];rfl,fun h=>?_⟩;have h5:((s.2.2.2.2.2.2.2.2.2.1.2.1.length:Nat):Int)≤300:=of_decide_eq_true h;exact⟨⟨by omega,ht,by omega,by omega,by omega,by omega⟩,by omega,by omega⟩
def a9I:a1A:=(0,0,(0,0,0,()),[],[],())
theorem c8j{ss:List Sub}(hS:∀s∈ss,SmallS s){rows:List (List Int)}(hl:rows.length≤ss.length)(h8:rows.length≤8){n:Nat}(hn:∀r∈rows,r.length=n)(h5:n≤5000)(f:a1A):∀(rest d:List (List Int)) (done:List Sub),d++rest=rows→done.length=d.length→
  a0j a2D (ss,rows,(d.length:Int),a9I,a8c f done,())=some (.inr (false,a9I,()))∨
  ∃outs,a0j a2D (ss,rows,(d.length:Int),a9I,a8c f done,())=some (.inl (a9I,a8c f (done++outs),()))∧b0s (fun s=>a3q s (n:Int)) outs=some rest∧∀s∈outs,SmallS s
 | [],d,done,hd,hdl=>by
  have e:d=rows:=by simpa using hd
  subst e;refine .inr ⟨[],?_,rfl,by simp⟩;rw[a35];exact a0q (by simp only[a2D,dge,cF])
 |r::rest,d,done,hd,hdl=>by
  have hlt:d.length<rows.length:=by rw[←hd];simp
  have hls:d.length<ss.length:=by omega
  have hg:a0o rows (d.length:Int)=some r:=by rw[a0c hlt];subst hd;simp
  have hgs:a0o ss (d.length:Int)=some ss[d.length]:=a0c hls;have hSs:=hS _ (a06 hls);have hrl:r.length=n:=hn r (by rw[←hd];simp);have hmk:=d5w hSs (ss[d.length]).1 (l:=r) (by omega)
  by_cases h0:(a3D (ss[d.length]).1 r ss[d.length]).2=0
  obtain⟨m1,-,-,m2⟩:=d5x hSs h0;rw[hrl]at m2;have b0:((a3D (ss[d.length]).1 r ss[d.length]).2 != 0)=false:=by simpa using h0
  have step:a2D (ss,rows,(d.length:Int),a9I,a8c f done,())=some (.inl (ss,rows,(((d++[r]).length:Nat):Int),a9I,a8c f (done++[(a3D (ss[d.length]).1 r ss[d.length]).1]),())):=by
   simp only[a2D,dlt hlt,cT,hg,hgs,oB,hmk,b0,cF];rw[show(a8c f done).2.2.2.2.1=done from rfl,a1y (show done.length+1<2147483648 by omega),cT,a0h (show d.length<1000000 by omega)];rw[show(((d++[r]).length:Nat):Int)=((d.length+1:Nat):Int)from by simp];rfl
  rw[a0t step];rcases c8j hS hl h8 hn h5 f rest (d++[r]) (done++[(a3D (ss[d.length]).1 r ss[d.length]).1]) (by simpa using hd) (by simp[hdl])with h|⟨outs,k1,k2,k3⟩;exact .inl h;refine .inr ⟨(a3D (ss[d.length]).1 r ss[d.length]).1::outs,?_,?_,fun s hs=>?_⟩;rw[k1];simp;simp only[b0s,m2,k2,oB];rcases mC.1 hs with rfl|hs;exact m1;exact k3 s hs;have b0:((a3D (ss[d.length]).1 r ss[d.length]).2 != 0)=true:=by simpa using h0
  exact .inl (a0q (by simp only[a2D,dlt hlt,cT,hg,hgs,oB,hmk,b0];rfl))
theorem c8U{b:a2x}(hb:a8G b)(fm:a1n)(l:List a1n){ss:List Sub}(hS:∀s∈ss,SmallS s):∃f t,a9i (b,fm,l,ss)=some (f,t)∧
  (t=true→∃outs rows,f=(0,((a2Q b:Nat):Int),fm,l,outs,())∧b0r l (b.2.1.length:Int)∧doO l b.2.1=some rows∧b0s (fun s=>a3q s ((a2Q b:Nat):Int)) outs=some rows∧∀s∈outs,SmallS s):=by
 obtain⟨hN,hQ⟩:=c2i hb;unfold a9i;simp only[d7R,oB]
 by_cases hm:b0r l (b.2.1.length:Int)
 rotate_left;rw[if_neg (fun h=>hm h.2)];exact⟨a9I,false,rfl,fun h=>by cases h⟩;rw[if_pos ⟨hQ,hm⟩];cases hd:doO l b.2.1 with
 |none=>exact⟨a9I,false,rfl,fun h=>by cases h⟩
 |some rows=>
  have b0:((0:Int) != 0)=false:=rfl;simp only[d1j,b0,cF,oB,a8F]
  by_cases hl:((ss.length:Nat):Int)<((rows.length:Nat):Int)
  exact⟨a9I,false,by simp only[hl,decide_true,cT];rfl,fun h=>by cases h⟩;obtain⟨k1,k2⟩:=c0p l hN rfl hm.2.2.2 hd;simp only[hl,decide_false,cF];rcases c8j hS (rows:=rows) (by omega) (by have:=hQ.2.1;omega) (fun r hr=>(k1 r hr).1) (by have:=hb.2.2.2.2.2.1;omega) (0,((a2Q b:Nat):Int),fm,l,([]:List Sub),()) rows [] [] rfl rfl with h|⟨outs,h,h2,h3⟩;refine⟨a9I,false,?_,fun h=>by cases h⟩
  erw[h]
  rfl;refine⟨_,true,?_,fun _=>⟨outs,rows,rfl,hm,rfl,h2,h3⟩⟩
  erw[h]
  rfl
theorem e0V(k:Nat)(hk:k≤62)(y:Int):∃v:Nat,bits .i64 .and y ((2^k-1:Nat):Int)=(v:Int)∧v<2^k:=by
 have hp:2^k≤2^62:=a17 (by omega) hk;have h0:0<2^k:=Nat.pow_pos (by omega);have h:((a02 64 y) &&& (a02 64 ((2^k-1:Nat):Int))).toNat=(a02 64 y).toNat%2^k:=by
  rw[a50];have e:(a02 64 ((2^k-1:Nat):Int)).toNat=2^k-1:=by
   rw[a28];generalize 2^k=p at *;omega
  rw[e,a52]
 have hlt:=a55 (a02 64 y).toNat h0;refine⟨(a02 64 y).toNat%2^k,?_,hlt⟩;show wrap .i64 ((((a02 64 y) &&& (a02 64 ((2^k-1:Nat):Int))).toNat:Nat):Int)=_;rw[h];generalize (a02 64 y).toNat%2^k=z at *;exact a0g (by omega)
theorem c8k(x:a2x×(Int×(List a1n×List Sub)))(ht:∀s∈x.2.2.2,s.2.2.2.2.2.2.1.length=3):b1X x=some true:=by
 obtain⟨b,rate,l,ss⟩:=x;unfold b1X;simp only[d5D,oB,bT,cF];obtain⟨t1,h1,s1⟩:=d2I b 80;rw[show((80:Nat):Int)=80 from rfl]at h1;simp only[h1,oB];cases t1 with
 |false=>rfl
 |true=>
  obtain⟨s1,s2⟩:=s1 rfl;obtain⟨t2,h2,hb⟩:=c8T (b:=b) (fun r hr=>by have:=s2 r hr;omega);simp only[bT,cF,h2,oB];cases t2 with
  |false=>rfl
  |true=>
   have hb:=hb rfl;simp only[bT,cF];cases decide (((l.length:Nat):Int) > 16)with
   |true=>rfl
   |false=>
    simp only[cF,oB];cases hs10:decide (((ss.length:Nat):Int) > 10)with
    |true=>rfl
    |false=>
     have hs10:ss.length≤10:=by simp only[decide_eq_false_iff_not]at hs10;omega
     simp only[cF];have hall:=a1l (f:=a4s) (β:=(Int×(List a1n×(List Sub×(a2x×Unit)))) ⊕ (Bool×Unit)) ss (fun i=>(rate,l,ss,(i:Int),b,())) (fun s=>(a5Y (s,(100:Int)))==some true) (bt:=Sum.inl (rate,l,ss,b,())) (bf:=Sum.inr (true,()))
      (fun i hi hp=>by
       have hp:a5Y (ss[i],(100:Int))=some true:=by simpa using hp
       simp only[a4s,dlt hi,cT,a0c hi,oB,hp,bT,cF,a0h (show i<1000000 by omega)])
      (fun i hi hp=>by
       obtain⟨t,h,-⟩:=c3K ss[i] 100 (by omega) (ht _ (a06 hi));rw[show((100:Nat):Int)=100 from rfl]at h;have ht':t=false:=by
        cases t with
        |false=>rfl
        |true=>simp only[h]at hp;cases hp
       subst ht';simp only[a4s,dlt hi,cT,a0c hi,oB,h,a19])
      (by simp only[a4s,dge,cF])
     simp only[nZ]at hall;rw[hall];cases hA:ss.all (fun s=>(a5Y (s,(100:Int)))==some true)with
     |false=>rfl
     |true=>
      have hS:∀s∈ss,SmallS s:=fun s hs=>by
       have h0:=lA.1 hA s hs;obtain⟨t,h,k⟩:=c3K s 100 (by omega) (ht s hs);rw[show((100:Nat):Int)=100 from rfl]at h
       have:t=true:=by rw[h]at h0;simpa using h0
       exact(k this).1
      obtain⟨v,hv,hv8⟩:∃v:Nat,bits .i64 .and rate 65535=(v:Int)∧v<65536:=e0V 16 (by omega) rate;have hw:wrap .i64 ((v:Int)+1)=(v:Int)+1:=a0g (by omega);simp only[cT,oB,hv,hw];obtain⟨f,t,hf,hft⟩:=c8U hb ((v:Int)+1,((b.2.1.length:Nat):Int),b.1,()) l hS;rw[hf];simp only[oB];cases t with
      |false=>rfl
      |true=>
       obtain⟨outs,rows,rfl,hm,hd,hmo,hSo⟩:=hft rfl;have hbl:=d1l hb hm hd hmo (start:=0) (rate:=(v:Int)+1) ⟨by omega,by have:=hb.2.2.2.2.2.1;omega⟩ (by omega);obtain⟨L,hL,-,hput,hread,-⟩:=d1k hSo hbl;have hmay:=d2H (f:=(0,((a2Q b:Nat):Int),((v:Int)+1,((b.2.1.length:Nat):Int),b.1,()),l,outs,())) hSo;have hblk:=c8g (f:=(0,((a2Q b:Nat):Int),((v:Int)+1,((b.2.1.length:Nat):Int),b.1,()),l,outs,())) hSo;rw[hbl]at hmay hblk;have hr:=hread [] (by simp);rw[a35]at hr;have ho8:outs.length≤8:=by have:=c2h hmo;have:=(c0p l (c2i hb).1 rfl hm.2.2.2 hd).2;have:=hb.2.2.2.1;omega
       have hsf:=c4K (f:=(0,((a2Q b:Nat):Int),((v:Int)+1,((b.2.1.length:Nat):Int),b.1,()),l,outs,())) hSo (by have:=hm.2.2.1;show l.length<_;omega) (by show outs.length<_;omega);have hsb:=c4I (b:=b) (fun r hr=>by have:=s2 r hr;unfold short;omega) (by omega);simp only[bT,cF,hput,oB,hr,hblk,d6t,hmay,Option.isSome_some,cT,beq_self_eq_true,hsf,hsb]
end Go.Ab
namespace Go.Proofs.YtimgpmdfgkgobaaGreatDoor
open Go.Ab Go.ChangeShapes Go.WideShapes Go.ChangeAt Go.RowKit
theorem c0c{α:Type}{f:Nat→Option (α×a0V×List Nat)}:∀(L:List α)(i:Nat),(∀(j:Nat) x,L[j]?=some x→f (i+j)=some (x,[],[]))→a0d f L.length i=some (L,[],[])
 | [],_,_=>rfl
 |a::L,i,h=>by
  have h0:=h 0 a rfl;have h1:=c0c L (i+1) (fun j x hx=>by have:=h (j+1) x (by simpa using hx);rw[←this];congr 1;omega);simp only[lC,a0d];simp only[a66]at h0;rw[h0,h1];rfl
section
variable {H:Type} {enc:TypeId×Value→H} {P:Program} {w:World} {base:Nat} {spare:Nat→Bool} {held:Bool}
theorem c6j{k:IntKind}{n:Nat}{t e:TypeId}{fuel:Nat}{cs:List Value}{L:List Int}{p:List MemPlace}(ht:P.underlying t=some (.array n e))(he:P.underlying e=some (.int k))(hc:P.cellsOf e=1)
  (h:DataW.trod enc P w base spare held fuel t cs=some (.agg (L.map fun i=>.lit (.int k i)),p)):L.length=n∧∀(j:Nat) x,L[j]?=some x→cs[j]?=some (.int k x):=by
 obtain⟨xs,m,rfl,hx,-,hn,hel⟩:=DataW.trod_array ht h;simp only[pJ,DataW.agg.injEq]at hx;have hl:L.length=n:=by rw[←hn];simpa using congrArg a45 hx.1
 refine⟨hl,fun j x hj=>?_⟩;obtain⟨hjl,-⟩:=lS.1 hj;have h1:=hel j (by omega);rw[hc]at h1;obtain⟨y,hy⟩:∃y,xs[j]?=some y:=⟨_,lG (by omega)⟩;rw[hy]at h1;obtain⟨i,e1,e2,-⟩:=DataW.trod_int he h1;have h2:=congrArg (fun l=>l[j]?) hx.1;simp only[List.getElem?_map,hj,hy,Option.map_some,e2]at h2;simp only[sj,DataW.lit.injEq,Lit.int.injEq,true_and]at h2;subst h2;have h3:=congrArg (fun l=>l[0]?) e1;simpa[a97,a98]using h3
end
def c9z : String := (Rows.frameTellsRow.laid.map Prod.fst).headD ""
theorem e0W:Tryz.prog.globalNamed c9z=some 0:=by kernel_rfl
def d4c:TypeId:=((Tryz.prog.globals[0]?).map (·.type)).getD 0
theorem d5E:(Tryz.prog.globals[0]?).map (·.type)=some d4c:=by kernel_rfl
def d4d:TypeId:=match Tryz.prog.underlying d4c with
 |some (.array _ e)=>e
 |_=>0
theorem e0X:Tryz.prog.underlying d4c=some (.array 64 d4d):=by kernel_rfl
theorem d7S:Tryz.prog.underlying d4d=some (.int .u8):=by kernel_rfl
theorem d7T:Tryz.prog.cellsOf d4d=1:=by kernel_rfl
@[reducible] def laidTab:List (String×DataW Unit):=[(c9z,Rows.laid_math_bits_deBruijn64tab)]

theorem d6v {g:Nat} {t:Ty} {x:t.den} (h:G0 g=some ⟨t,x⟩):g=0∧(⟨t,x⟩:(t:Ty)×t.den)=⟨.arr 64 (.int .u8),b2m⟩:=by
 unfold G0 find at h
 cases g with
 |zero=>exact⟨rfl,(Option.some.inj h).symm⟩
 |succ n=>exact absurd h (by simp[find])
theorem c8l{W:World}(h:laidMetH Tryz.prog laidTab W):∀g t x,G0 g=some ⟨t,x⟩→g<W.heap.size∧dec (a0a W none) t ((Src.at g 0).rd (a0a W none))=some (x,[],[]):=by
 rw[MakeChecks.laidMetH_plain _ _ _ (by kernel_rfl)]at h;obtain⟨ps,⟨g0,t0,cs0,f0,p0,q0,hg0,ht0,hv0,hd0,_⟩,_,_⟩:=h;obtain rfl:=Option.some.inj (e0W.symm.trans hg0);obtain rfl:=Option.some.inj (d5E.symm.trans ht0);have e0:(Rows.laid_math_bits_deBruijn64tab:DataW Unit)=.agg (b2m.map fun i=>.lit (.int .u8 i)):=rfl;rw[e0]at hd0;obtain⟨hl,hc⟩:=c6j e0X d7S d7T hd0;have hcell:∀(j:Nat) x,b2m[j]?=some x→W.cell? ⟨0,j,none⟩=some (.int .u8 x):=fun j x hx=>by
  rw[World.var?_cell hg0 hv0 j];simpa using hc j x hx
 intro g t x hG;obtain⟨rfl,e⟩:=d6v hG;cases e;refine⟨c9g (hcell 0 0 rfl),?_⟩;exact c0c (f:=fun i=>dec (a0a W none) (.int .u8) fun j=>(Src.at 0 0).rd (a0a W none) (i*1+j)) b2m 0 (fun j x hx=>by
  have:=hcell j x hx
  simp only[dec,Src.rd,a0a,Nat.zero_add,a89,a66,this,if_true])
set_option maxRecDepth 100000 in
theorem d4e (os:Os) (args:Array Value):laidMetH Tryz.prog laidTab ((World.doorLaid Tryz.prog 400 os).forCall (fun _ _=>0) ⟨#[],args,[]⟩).memory:=
 laidMetH_of_parts3 (fuel:=8) (laidMet_of_run' 8 (by kernel_rfl) (by kernel_rfl)) (by kernel_rfl) (by kernel_rfl)
end Go.Proofs.YtimgpmdfgkgobaaGreatDoor
