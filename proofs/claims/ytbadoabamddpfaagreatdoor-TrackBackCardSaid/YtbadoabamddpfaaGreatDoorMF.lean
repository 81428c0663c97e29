/- Part of the proof: QH. Conditions: as each statement tells. -/
import Derived.KernelRfl
import Derived.Test.YtbadoabamddpfaaGreatDoorME
noncomputable section
set_option linter.unusedSimpArgs false
set_option linter.unusedVariables false
open BitVec renaming ofInt→a04,ofInt_natCast→a29,toNat_ofNat→a35,toNat_ofInt→a36,toNat_or→a57,toNat_and→a77
open Bool renaming and_self→a02,not_eq_true'→a24,or_eq_true→a41,true_and→a43,not_false→a46,and_eq_true_iff→a87,or_eq_false_iff→a88,eq_iff_iff→b19
open Int renaming eq_ofNat_of_zero_le→a01,cast_ofNat_Int→a09,natCast_dvd_natCast→a22,toNat→a25,tmod→a31,tmod_eq_emod_of_nonneg→a38,fdiv_eq_ediv_of_nonneg→a39,tdiv_eq_ediv_of_nonneg→a54,tdiv→a56,dvd_mul_of_dvd_left→a58,mul_nonneg→a59,natCast_nonneg→a72,mul_fdiv_cancel_left→a75,dvd_add_left→a79,mul_comm→a80,toNat_of_nonneg→a92,fdiv→a93,dvd_zero→a98,emod_eq_of_lt→b00,sub_mul→b06,natCast_mul→b22,natCast_add→b23
open List renaming replicate→a00,drop_eq_getElem_cons→a03,nil_append→a05,all_cons→a06,getElem_mem→a07,append_eq→a08,length_nil→a19,take_length→a20,length_take→a21,drop_zero→a23,getElem?_append_right→a27,length_singleton→a37,append_nil→a42,mem_of_mem_take→a44,mem_of_mem_drop→a45,length→a47,length_eq_zero_iff→a48,length_drop→a55,flatMap_cons→a60,getElem?_set_self→a61,take_succ_eq_append_getElem→a62,eq_nil_or_concat→a63,singleton_append→a64,replicate_succ'→a66,getElem?_set_ne→a67,mem_cons_self→a71,mem_singleton→a73,sum_cons→a74,cons_append→a76,take_of_length_le→a83,mem_append_left→a89,mem_replicate→a95,take→b02,ext_getElem?→b03,getElem_zip→b04,drop_length→b07,not_mem_nil→b09,mem_flatMap→b17,length_set→b20,foldl_cons→b21,getD→b24,drop→b25
open Nat renaming pow_le_pow_right→a16,two_pow_pos→a18,mod_eq_of_lt→a28,mul_le_mul_right→a30,lt_trans→a32,le_refl→a34,div_le_self→a40,lt_of_le_of_lt→a49,mod_lt→a50,div_lt_iff_lt_mul→a51,two_pow_add_eq_or_of_lt→a52,pow_succ→a53,and_two_pow_sub_one_eq_mod→a65,pow_dvd_pow→a68,mul_comm→a69,testBit_two_pow_mul_add→a70,div_eq_of_lt→a78,add_sub_cancel_left→a81,div_add_mod→a82,min_eq_left→a84,mul_one→a85,mul_le_mul→a86,div_mul_le_self→a90,mul_assoc→a91,one_le_two_pow→a94,le_of_lt→a96,add_zero→a97,or_lt_two_pow→a99,add_mod_right→b01,mul_add→b05,lt_of_not_le→b08
open Option renaming map_eq_some_iff→a26,bind_eq_some_iff→a33
namespace Go.Ab
variable {L P R d ks l part r t wm:List Int}{N a b i m o v w:Nat}{c:List (List Int)}{g k lag n sign warm x:Int}{zn:List Nat}{α:Type}
open IntKind(wrap)
def a6n(n warm:Int):Bool:=decide (1≤n)&&(decide (n≤4096)&&(decide (0≤warm)&&decide (warm≤n)))
theorem b3K(n warm:Int):a7s (n,warm)=some (a6n n warm):=by
 grind[a7s,a6n]
theorem d2i(h:o≤8):1≤2^o∧2^o≤256:=by
 have:o=0∨o=1∨o=2∨o=3∨o=4∨o=5∨o=6∨o=7∨o=8:=by omega
 grind
theorem c3h(h:o≤64):A0i .i64 (N:Int) (o:Int)=((N / 2^o:Nat):Int):=by
 unfold A0i;show a93 (N:Int) (2^(min (o:Int).toNat 64))=_
 grind
theorem b8L(h:o≤64)(g:N*2^o<9223372036854775808):A0h .i64 (N:Int) (o:Int)=((N*2^o:Nat):Int):=by
 unfold A0h;show wrap .i64 ((N:Int)*2^(min (o:Int).toNat 64))=_
 grind[a0C]
def b5k(o N:Nat)(warm:Int):List Int:=
 if N%2^o=0∧warm≤((N / 2^o:Nat):Int)then(((N / 2^o:Nat):Int)-warm)::a00 (2^o-1) ((N / 2^o:Nat):Int)else[]
def a1G(order n warm:Int):List Int:=bif a6n n warm&&(decide (0≤order)&&decide (order≤8))then b5k order.toNat n.toNat warm else[]
theorem a1Y(order n warm:Int):a2R (order,n,warm)=some (a1G order n warm):=by
 unfold a2R a1G;simp only[b3K,oB];cases hr:a6n n warm with
 |false=>rfl
 |true=>
  simp[a6n]at hr;simp only[bT,cF,a43]
  by_cases h1:order<0
  grind
  by_cases h2:order > 8
  grind
  obtain⟨o,rfl⟩:=a01 (show 0≤order by omega);obtain⟨N,rfl⟩:=a01 (show 0≤n by omega);have p:o≤8:=by omega
  have q:N≤4096:=by omega
  have hp:=d2i p;have m:N / 2^o*2^o≤N:=a90 N _;have l:(0:Int)≤(o:Int):=by omega
  have g8:(o:Int)≤8:=by omega
  simp only[h1,h2,l,g8,decide_true,decide_false,cF,cT,a02,oB,c3h (N:=N) (show o≤64 by omega),b8L (N:=N / 2^o) (show o≤64 by omega) (by omega),tN];have g:=a82 N (2^o);rw[a69]at g
  by_cases hm:N%2^o=0
  have k:(((N / 2^o*2^o:Nat):Int) != (N:Int))=false:=by simp_all
  by_cases hw:warm≤((N / 2^o:Nat):Int)
  have c:decide (((N / 2^o:Nat):Int)<warm)=false:=decide_eq_false (Int.not_lt.2 hw);have e:wrap .i64 (((N / 2^o:Nat):Int)-warm)=((N / 2^o:Nat):Int)-warm:=a0C (by have:=a40 N (2^o);omega);simp only[k,c,e,cF,oB,b5k,hm,hw,and_self,if_true];have d:A0h .i64 (1:Int) (o:Int)=((2^o:Nat):Int):=by have:=b8L (N:=1) (show o≤64 by omega) (by omega);simp_all
  have:=a1w (f:=a6z) (fun i=>((o:Int),((N / 2^o:Nat):Int),(((N / 2^o:Nat):Int)-warm)::a00 i ((N / 2^o:Nat):Int),())) (2^o-1)
   (b:=((((N / 2^o:Nat):Int)-warm)::a00 (2^o-1) ((N / 2^o:Nat):Int),())) (fun i hi=>by
    have a:decide ((((((N / 2^o:Nat):Int)-warm)::a00 i ((N / 2^o:Nat):Int)).length:Int)<((2^o:Nat):Int))=true:=by
     grind
    have h:lim (((((N / 2^o:Nat):Int)-warm)::a00 i ((N / 2^o:Nat):Int)).length+1)=true:=a0U (by grind);have j:a00 i ((N / 2^o:Nat):Int)++[((N / 2^o:Nat):Int)]=a00 (i+1) ((N / 2^o:Nat):Int):=by grind[a66]
    simp only[a6z,h1,decide_false,cF,d,a,cT,h,a08,a76,j])
   (by
    have a:decide ((((((N / 2^o:Nat):Int)-warm)::a00 (2^o-1) ((N / 2^o:Nat):Int)).length:Int)<((2^o:Nat):Int))=false:=by
     simp_all
    simp only[a6z,h1,decide_false,cF,d,a])
  simp_all;have c:decide (((N / 2^o:Nat):Int)<warm)=true:=decide_eq_true (Int.not_le.1 hw);simp_all[b5k];have k:(((N / 2^o*2^o:Nat):Int) != (N:Int))=true:=by grind
  simp only[k,cT,oB,b5k,hm,false_and,if_false]
@[reducible] def Prt:Type:=Int×((List Int)×Unit)
variable {p:Prt}
def kB(k:Int):Bool:=(decide (0≤k)&&decide (k≤25)) || (k==31)
def a5A(p:Prt)(n warm:Int):Bool:=!((a1G p.1 n warm).length==0)&&((a1G p.1 n warm).length==p.2.1.length&&p.2.1.all kB)
theorem b3L(g:short p.2.1):a9a (p,n,warm)=some (a5A p n warm):=by
 have:=a1Q (f:=a4l) p.2.1 (fun i=>(p.2.1,(p.2.1.length:Int),(i:Int),())) kB (bt:=Sum.inl ()) (bf:=Sum.inr (false,()))
  (fun i h hp=>by
   simp[kB]at hp
   by_cases h1:p.2.1[i]<0
   omega
   by_cases h2:p.2.1[i] > 25
   have b:p.2.1[i]=31:=by omega
   have a:(p.2.1[i] != 31)=false:=by simp_all
   simp[a4l,a0D h,h,h1,h2,a,a0B (a32 h g)];simp[a4l,a0D h,h,h1,h2,a0B (a32 h g)])
  (fun i h hp=>by
   have hp:¬ (kB p.2.1[i]=true):=by simp_all
   simp only[kB,a41,bA,dT,beq_iff_eq]at hp
   grind[a4l,a0D])
  (by simp[a4l])
 simp at this;unfold a9a a5A;simp[a1Y]
 by_cases h0:(a1G p.1 n warm).length=0
 simp_all
 ·have e:((((a1G p.1 n warm).length:Nat):Int)==0)=false:=by simp_all
  have k:((a1G p.1 n warm).length==0)=false:=by simp_all
  simp[e,k]
  by_cases h1:(a1G p.1 n warm).length=p.2.1.length
  all_goals grind
@[reducible] def Sub:Type:=Int×(Int×(Int×(Int×(Int×((List Int)×((List Int)×((List Stg)×((List Int)×(Prt×((List Int)×Unit))))))))))
variable {s:Sub}
structure SmallS (s:Sub):Prop where
 coefs:s.2.2.2.2.2.1.length≤40
 taps:s.2.2.2.2.2.2.1.length=3
 stages:s.2.2.2.2.2.2.2.1.length≤6
 warm:s.2.2.2.2.2.2.2.2.1.length≤5000
 rest:s.2.2.2.2.2.2.2.2.2.2.1.length≤5000
 ks:s.2.2.2.2.2.2.2.2.2.1.2.1.length≤300
theorem b3M(x y:List Int):eqT (.arr 3 (.int .i64)) x y=decide (x=y):=by
 show((List.zipWith (fun(a b:Int)=>a==b) x y).all id&&x.length==y.length)=_
 induction x generalizing y with
 |nil=>cases y<;>simp
 |cons a x ih=>
  cases y with
  |nil=>simp
  |cons b y=>
   grind[List.zipWith_cons_cons]
theorem b5K{l:List Int}(h:short l):a3J l=some l:=a8h h
theorem b8k{l:List Stg}(h:short l):a1m l=some l:=by
 have g:lim (0+l.length)=true:=a0U (by unfold short at h;omega);simp_all[a1m,w0z]
def a3O(k:Int)(s:Sub)(n:Int):Prop:=
 k=0∨k=1∨(k=2∧0≤s.2.2.1∧s.2.2.1≤4∧s.2.2.1≤n)∨(k=3∧a9F s.2.2.2.2.2.1 s.2.2.2.1=true∧(s.2.2.2.2.2.1.length:Int)≤n)∨
  (k=4∧a9F s.2.2.2.2.2.1 s.2.2.2.1=true∧(s.2.2.2.2.2.1.length:Int)≤n∧b2b s.2.2.2.2.1 s.2.2.2.2.2.2.1=true)∨
  (k=5∧0<s.2.2.2.2.2.2.2.1.length∧a9k s.2.2.2.2.2.2.2.1=true)
open Classical in
def b3N (k:Int) (s:Sub) (n:Int):Bool:=decide (a3O k s n)
theorem b5l{s:Sub}(h:SmallS s)(k n:Int):a7W (k,s,n)=some (b3N k s n):=by
 have a:short s.2.2.2.2.2.1:=by have:=h.coefs;unfold short;omega
 have b:short s.2.2.2.2.2.2.2.1:=by have:=h.stages;unfold short;omega
 unfold a7W b3N a3O
 by_cases k0:k=0
 simp_all
 by_cases k1:k=1
 simp_all;have g:(k==0)=false:=by grind
 have f:(k==1)=false:=by grind
 simp only[g,f,cF,oB]
 by_cases k2:k=2
 subst k2
 grind
 by_cases k3:k=3
 subst k3
 grind[a9y]
 by_cases k4:k=4
 subst k4;cases hl:a9F s.2.2.2.2.2.1 s.2.2.2.1<;>by_cases h2:(s.2.2.2.2.2.1.length:Int)≤n<;>simp[a9y a,b4O h.taps,hl,h2]
 by_cases k5:k=5
 ·subst k5
  by_cases h1:0<s.2.2.2.2.2.2.2.1.length
  all_goals simp_all[b3G]
 grind
def a2k(s:Sub)(n:Int):Int:=if s.1=0 then 1 else if s.1=1 then n else if s.1=2 then s.2.2.1 else if s.1=3∨s.1=4 then(s.2.2.2.2.2.1.length:Int)else 0
theorem b2q(s:Sub)(n:Int):a4v (s,n)=some (a2k s n):=by
 grind[a4v,a2k]
def b5m(s:Sub):Prop:=
 (s.1≠2→s.2.2.1=0)∧(s.1≠3∧s.1≠4→s.2.2.2.1=0)∧(s.1≠4→s.2.2.2.2.1=0)∧(s.1≠4→s.2.2.2.2.2.2.1=[0,0,0])∧(s.1≠3∧s.1≠4→s.2.2.2.2.2.1=[])∧(s.1≠5→s.2.2.2.2.2.2.2.1=[])
open Classical in
def b5n (s:Sub):Bool:=decide (b5m s)
theorem b1w{c x:Bool}:(bif c then some x else some false)=some (c&&x):=by grind
theorem d2j(l:List α):(((l.length:Nat):Int)==0)=decide (l=[]):=by
 cases l with
 |nil=>rfl
 |cons a l=>rfl
theorem c1h(x:Int):(x==0)=decide (x=0):=rfl
theorem c3i{s:Sub}(h:SmallS s):b1G s=some (b5n s):=by
 have e:short s.2.2.2.2.2.1:=by have:=h.coefs;unfold short;omega
 have g:short s.2.2.2.2.2.2.2.1:=by have:=h.stages;unfold short;omega
 obtain⟨k,w,o,sh,lag,c,t,st,j,p,r,u⟩:=s;simp only at e g;unfold b1G a6b b5n b5m;have i:(a00 3 (0:Int))=[0,0,0]:=rfl
 by_cases k2:k=2
 simp_all[b3M,b1w,c1h]
 by_cases k4:k=4
 simp_all[b3M,b1w,c1h,b5K]
 by_cases k3:k=3
 simp_all[b3M,b1w,c1h,b5K]
 by_cases k5:k=5
 simp_all[b3M,b1w,c1h,b8k];have f:(k==2)=false:=by grind
 have a:(k==3)=false:=by grind
 have b:(k==4)=false:=by grind
 have d:(k==5)=false:=by grind
 simp[f,a,b,d,k2,k3,k4,k5,b3M,i,b1w,d2j,c1h]
theorem a6u(k:Int):a5Z k=some (decide (k≠0∧k≠1)):=by
 unfold a5Z
 by_cases h0:k=0
 simp_all
 ·by_cases h1:k=1
  all_goals grind
def a1s(s:Sub)(n:Int):Prop:=
 1≤n∧n≤4096∧a3O s.1 s n∧b5m s∧0≤s.2.1∧s.2.1≤30∧(s.1=0→s.2.1=0)∧(s.2.2.2.2.2.2.2.2.1.length:Int)=a2k s n∧s.2.2.2.2.2.2.2.2.1.all a0A=true∧s.2.2.2.2.2.2.2.2.2.2.1.all a0A=true∧
  (s.1=0∨s.1=1→s.2.2.2.2.2.2.2.2.2.2.1=[]∧s.2.2.2.2.2.2.2.2.2.1.1=0∧s.2.2.2.2.2.2.2.2.2.1.2.1=[])∧
  (s.1≠0∧s.1≠1→(s.2.2.2.2.2.2.2.2.2.2.1.length:Int)=n-a2k s n∧a5A s.2.2.2.2.2.2.2.2.2.1 n (a2k s n)=true)
theorem c4A(h:SmallS s)(a:1≤n)(b:n≤4096)(f:a3O s.1 s n):0≤a2k s n∧a2k s n≤4096:=by
 have c:=h.coefs;unfold a2k;rcases f with k|k|⟨k,g⟩|⟨k,g⟩|⟨k,g⟩|⟨k,g⟩<;>simp[k]<;>omega
open Classical in
theorem c6Z {s:Sub} (h:SmallS s) (n:Int):a9X (s,n)=some (decide (a1s s n)):=by
 have hw:short s.2.2.2.2.2.2.2.2.1:=by have:=h.warm;unfold short;omega
 have hr:short s.2.2.2.2.2.2.2.2.2.2.1:=by have:=h.rest;unfold short;omega
 have hk:short s.2.2.2.2.2.2.2.2.2.1.2.1:=by have:=h.ks;unfold short;omega
 unfold a9X
 by_cases h1:1≤n
 rotate_left
 ·have e1:decide (n<1)=true:=by simp_all
  have:¬ a1s s n:=fun hp=>h1 hp.1
  simp_all
 have e1:decide (n<1)=false:=by simp_all
 by_cases h2:n≤4096
 rotate_left
 ·have e2:decide (n > 4096)=true:=by simp_all
  have:¬ a1s s n:=fun hp=>h2 hp.2.1
  simp_all
 have e2:decide (n > 4096)=false:=by simp_all
 by_cases h3:a3O s.1 s n
 rotate_left
 ·have e3:b3N s.1 s n=false:=by simp[b3N,h3]
  have:¬ a1s s n:=fun hp=>h3 hp.2.2.1
  simp_all[b5l]
 have e3:b3N s.1 s n=true:=by simp[b3N,h3]
 by_cases h4:b5m s
 rotate_left
 ·have e4:b5n s=false:=by simp[b5n,h4]
  have:¬ a1s s n:=fun hp=>h4 hp.2.2.2.1
  simp_all[b5l,c3i]
 have e4:b5n s=true:=by simp[b5n,h4]
 simp only[e1,e2,b5l h,e3,c3i h,e4,cF,bT,oB]
 by_cases h5:0≤s.2.1
 rotate_left
 ·have e5:decide (s.2.1<0)=true:=by simp_all
  have:¬ a1s s n:=fun hp=>h5 hp.2.2.2.2.1
  simp_all
 have e5:decide (s.2.1<0)=false:=by simp_all
 by_cases h6:s.2.1≤30
 rotate_left
 ·have e6:decide (s.2.1 > 30)=true:=by simp_all
  have:¬ a1s s n:=fun hp=>h6 hp.2.2.2.2.2.1
  simp_all
 have e6:decide (s.2.1 > 30)=false:=by simp_all
 simp only[e5,e6,cF]
 by_cases h7:s.1=0→s.2.1=0
 rotate_left
 ·have h7a:s.1=0:=Classical.byContradiction fun hc=>h7 fun e=>absurd e hc
  have h7b:(s.2.1 != 0)=true:=by
   simp_all
  have e7:(s.1==0)=true:=by simp_all
  have:¬ a1s s n:=fun hp=>h7 hp.2.2.2.2.2.2.1
  grind
 have e7:(bif s.1==0 then some (n,(s.2.1 != 0,(s,())))else some (n,(false,(s,()))))=some (n,(false,(s,()))):=by
  grind
 simp only[e7,oB,cF,b2q]
 by_cases h8:(s.2.2.2.2.2.2.2.2.1.length:Int)=a2k s n
 rotate_left
 ·have e8:(((s.2.2.2.2.2.2.2.2.1.length:Nat):Int) != a2k s n)=true:=by simp_all
  have:¬ a1s s n:=fun hp=>h8 hp.2.2.2.2.2.2.2.1
  grind
 have e8:(((s.2.2.2.2.2.2.2.2.1.length:Nat):Int) != a2k s n)=false:=by simp_all
 simp only[e8,cF,a4s hw,a4s hr,oB]
 cases h9:s.2.2.2.2.2.2.2.2.1.all a0A with
 |false=>
  have:¬ a1s s n:=fun hp=>by rw[hp.2.2.2.2.2.2.2.2.1]at h9;grind
  simp_all
 |true=>
  cases h10:s.2.2.2.2.2.2.2.2.2.2.1.all a0A with
  |false=>
   have:¬ a1s s n:=fun hp=>by rw[hp.2.2.2.2.2.2.2.2.2.1]at h10;grind
   simp_all
  |true=>
   simp only[bT,cF,oB,a6u]
   have hwr:=c4A h h1 h2 h3
   by_cases k01:s.1≠0∧s.1≠1
   ·have e11:wrap .i64 (n-a2k s n)=n-a2k s n:=a0C (by omega)
    simp[k01,e11,b3L hk]
    by_cases h11:(s.2.2.2.2.2.2.2.2.2.2.1.length:Int)=n-a2k s n
    ·have e12:(((s.2.2.2.2.2.2.2.2.2.2.1.length:Nat):Int)==n-a2k s n)=true:=by simp_all
     simp only[e12,cT]
     congr 1
     rw[b19,dT]
     constructor
     ·intro hp
      exact⟨h1,h2,h3,h4,h5,h6,h7,h8,h9,h10,fun hc=>absurd hc (by omega),fun _=>⟨h11,hp⟩⟩
     ·intro hp;exact(hp.2.2.2.2.2.2.2.2.2.2.2 k01).2
    ·have e12:(((s.2.2.2.2.2.2.2.2.2.2.1.length:Nat):Int)==n-a2k s n)=false:=by simp_all
     have:¬ a1s s n:=fun hp=>h11 (hp.2.2.2.2.2.2.2.2.2.2.2 k01).1
     grind
   ·have k01':s.1=0∨s.1=1:=by omega
    simp[k01,d2j]
    simp only[c1h,b1w]
    congr 1
    rw[b19,dT]
    simp
    constructor
    ·rintro⟨g1,g2,g3⟩
     exact⟨h1,h2,h3,h4,h5,h6,h7,h8,h9,h10,fun _=>⟨g1,g2,g3⟩,fun hc=>absurd hc k01⟩
    ·intro hp;exact hp.2.2.2.2.2.2.2.2.2.2.1 k01'
theorem b9A{α:Type}[DecidableEq α](q:α→α→Bool)(g:∀a b,q a b=decide (a=b)):∀(x y:List α),x.length=y.length→((x.zip y).all fun p=>q p.1 p.2)=decide (x=y)
 | [],[],_=>by simp
 |a::x,b::y,h=>by
  have f:=b9A q g x y (by simpa using h);simp only[List.zip_cons_cons,a06];rw[f,g]
  by_cases h1:a=b<;>by_cases h2:x=y<;>simp[h1,h2]
theorem c4B{x y:List Int}(h:short x):a5b (x,y)=some (decide (x=y)):=by
 unfold a5b
 by_cases hl:x.length=y.length
 have e:(((x.length:Nat):Int) != ((y.length:Nat):Int))=false:=by rw[hl];simp
 have j:(x.zip y).length=x.length:=by rw[List.length_zip];omega
 have:=a1Q (f:=a4A) (x.zip y) (fun i=>(x,y,(i:Int),())) (fun p=>p.1==p.2) (bt:=Sum.inl ()) (bf:=Sum.inr (false,()))
  (fun i hi hp=>by
   have k:i<x.length:=by omega
   have c:i<y.length:=by omega
   rw[b04]at hp;have hp:x[i]=y[i]:=by simpa using hp
   have g:(x[i] != y[i])=false:=by rw[hp];simp
   simp only[a4A,dlt k,cT,a0D k,a0D c,oB,g,cF,a0B (a32 k h)])
  (fun i hi hp=>by
   have k:i<x.length:=by omega
   have c:i<y.length:=by omega
   rw[b04]at hp;have g:(x[i] != y[i])=true:=by simpa using hp
   simp only[a4A,dlt k,cT,a0D k,a0D c,oB,g])
  (by rw[j];simp[a4A])
 simp only[nZ]at this;simp only[e,cF,this,b9A (fun(a b:Int)=>a==b) (fun _ _=>rfl) x y hl];cases decide (x=y)<;>rfl;have e:(((x.length:Nat):Int) != ((y.length:Nat):Int))=true:=by simp only[bne_iff_ne,ne_eq];omega
 have:¬ x=y:=fun d=>hl (by rw[d])
 simp only[e,cT,this,decide_false]
theorem c7a(h:a3O k s n):k=0∨k=1∨k=2∨k=3∨k=4∨k=5:=by
 unfold a3O at h;omega
def b8M(warm rest:List Int)(o:Int):Option (List Int):=bif warm.all a0A&&rest.all a0A then a4a (a4G o.toNat) rest warm else none
def backP(s:Sub):Option (List Int):=
 if s.1=1 then some s.2.2.2.2.2.2.2.2.1
 else if s.1=2 then b8M s.2.2.2.2.2.2.2.2.1 s.2.2.2.2.2.2.2.2.2.2.1 s.2.2.1
 else if s.1=3 then b3H s.2.2.2.2.2.2.2.2.1 s.2.2.2.2.2.2.2.2.2.2.1 s.2.2.2.2.2.1 s.2.2.2.1
 else if s.1=4 then(b3H s.2.2.2.2.2.2.2.2.1 s.2.2.2.2.2.2.2.2.2.2.1 s.2.2.2.2.2.1 s.2.2.2.1).bind fun l=>b4l l s.2.2.2.2.1 s.2.2.2.2.2.2.1
 else b2p s.2.2.2.2.2.2.2.2.2.2.1 s.2.2.2.2.2.2.2.1
def c3j(s:Sub)(n:Int):Option (List Int):=
 if s.1=0 then some (a00 n.toNat (s.2.2.2.2.2.2.2.2.1.getD 0 0))else(backP s).bind (upO s.2.1)
theorem b4Q{w r c:List Int}{s:Int}{l}(h:b3H w r c s=some l):l.length=w.length+r.length:=by
 unfold b3H at h;cases hc:(w.all a0A&&r.all a0A)with
 |false=>simp_all
 |true=>
  rw[hc]at h;exact(b3d _ r w l (a87.1 hc).1 h).2
theorem c4C{w r:List Int}{o:Int}{l}(h:b8M w r o=some l):l.length=w.length+r.length:=by
 unfold b8M at h;cases hc:(w.all a0A&&r.all a0A)with
 |false=>simp_all
 |true=>
  rw[hc]at h;exact(b3d _ r w l (a87.1 hc).1 h).2
theorem c3k{l}(h:b4l r lag t=some l):l.length=r.length:=by
 unfold b4l at h;cases hc:r.all a0A with
 |false=>simp_all
 |true=>
  rw[hc]at h
  have:=(b3d _ r [] l rfl h).2
  simp_all
theorem c1I:∀(st:List Stg)(r:List Int){l},lO st r=some l→l.length=r.length
 | [],r,l,h=>by simp_all[lO]
 |s::st,r,l,h=>by
  simp only[lO]at h
  split at h
  rename_i f g;rw[c1I st f h,b5J _ _ _ g];simp;cases h
theorem c2x{r:List Int}{st:List Stg}{l}(h:b2p r st=some l):l.length=r.length:=by
 grind[b2p,c1I]
theorem c3l(h:SmallS s){l}(g:backP s=some l):l.length<100000:=by
 have b:=h.warm;have a:=h.rest;unfold backP at g
 split at g
 grind
 split at g
 grind[c4C]
 split at g
 grind[b4Q]
 split at g
 obtain⟨c,f,k⟩:=a33.1 g;rw[c3k k,b4Q f];omega
 grind[c2x]
theorem c7b(a:1≤n)(c:n≤4096)(d:s.2.2.2.2.2.2.2.2.1.length=1):
  y0m a6Z (n,(0:Int),([]:List Int),s,())=some (a00 n.toNat (s.2.2.2.2.2.2.2.2.1.getD 0 0),()):=by
 obtain⟨N,rfl⟩:=a01 (show 0≤n by omega);have k:m0h s.2.2.2.2.2.2.2.2.1 (0:Int)=some (s.2.2.2.2.2.2.2.2.1.getD 0 0):=c3b (by omega) (by omega)
 have:=a1w (f:=a6Z) (fun i=>((N:Int),(i:Int),a00 i (s.2.2.2.2.2.2.2.2.1.getD 0 0),s,())) N
  (b:=(a00 N (s.2.2.2.2.2.2.2.2.1.getD 0 0),())) (fun i hi=>by
   have h:lim ((a00 i (s.2.2.2.2.2.2.2.2.1.getD 0 0)).length+1)=true:=a0U (by grind);have g:a00 i (s.2.2.2.2.2.2.2.2.1.getD 0 0)++[s.2.2.2.2.2.2.2.2.1.getD 0 0]=a00 (i+1) (s.2.2.2.2.2.2.2.2.1.getD 0 0):=by grind[a66]
   simp only[a6Z,dlt hi,cT,k,oB,h,a08,g,a0B (show i<1000000 by omega)])
  (by simp[a6Z])
 simp_all
theorem c4D(h:SmallS s)(hp:a1s s n):b2S (s,n)=some (a4V (c3j s n)):=by
 have a:=fun l (d:backP s=some l)=>c3l h d;obtain⟨z,A,C,-,x,v,-,g,K,I,-⟩:=hp;have F:=h.rest;have G:=h.warm;have H:=h.taps;have D:=c7b (s:=s) z A;obtain⟨k,w,o,sh,lag,c,t,st,f,p,r,u⟩:=s;simp only at *;have L:∀l,l.length<100000→a9c (l,w)=some (a4V (upO w l)):=fun l d=>c3d x v d;unfold b2S c3j;rcases C with b|b|⟨b,j,m,y⟩|⟨b,j,m⟩|⟨b,j,m,y⟩|⟨b,j,m⟩
 grind[a2k,a4V]
 simp_all[backP]
 ·subst b;obtain⟨O,rfl⟩:=a01 j;have m:(O:Int)≤4:=m;simp only[a2k]at g;have q:f.length=O:=by grind
  have i:=c2u (warm:=f) (rest:=r) (o:=O) (by omega) q (by omega);simp only[backP]at a⊢;simp[i];have e:(bif f.all a0A&&r.all a0A then a4a (a4G O) r f else none)=b8M f r (O:Int):=rfl;rw[e];cases d:b8M f r (O:Int)with
  |none=>rfl
  |some l=>simp_all[a4V]
 ·subst b;simp only[a2k]at g;have q:f.length=c.length:=by grind
  have i:=b5j (rest:=r) j q (by omega);simp only[backP]at a⊢;simp[i];cases d:b3H f r c sh with
  |none=>rfl
  |some l=>simp_all[a4V]
 ·subst b;simp only[a2k]at g;have q:f.length=c.length:=by grind
  have i:=b5j (rest:=r) j q (by omega);simp only[backP]at a⊢;simp[i];cases d:b3H f r c sh with
  |none=>rfl
  |some l=>
   have E:=b4Q d;have B:=c3c (rest:=l) y H (by omega);simp[a4V,B]
   grind[a4V]
 ·subst b;have i:=c2w (rest:=r) m (by omega);simp only[backP]at a⊢;simp[i];cases d:b2p r st with
  |none=>rfl
  |some l=>simp_all[a4V]
open Classical in
def a2j (s:Sub) (n:Int):Option (List Int):=if a1s s n then c3j s n else none
theorem b9B(h:SmallS s)(n:Int):b2k (s,n)=some (match a2j s n with|some r=>(r,0)|none=>([],1)):=by
 unfold b2k a2j;simp only[c6Z h,oB]
 by_cases hp:a1s s n
 simp[hp,c4D h hp]
 grind[a4V]
 simp_all
theorem b9C(h:SmallS s)(n:Int):a9L (s,n)=some (a2j s n).isSome:=by
 unfold a9L;simp only[b9B h,oB];cases a2j s n<;>rfl
@[reducible] def Wr:Type:=(List Int)×(Int×Unit)
def c1i(w:Wr)(b:Int):Wr:=
 let bs:=if w.2.1%8=0 then w.1++[0]else w.1
 (bs.set (w.2.1 / 8).toNat (bits .u8 .or (bs.getD (w.2.1 / 8).toNat 0) (A0h .u8 b (7-w.2.1%8))),w.2.1+1,())
def wL(L:List Int):Wr:=L.foldl c1i ([],0,())
theorem c1j(L:List Int)(b:Int):wL (L++[b])=c1i (wL L) b:=by simp[wL]
theorem b9D:∀(n:Nat)(L:List Int),L.length=n→(wL L).2.1=L.length∧(wL L).1.length=(L.length+7) / 8
 |0,L,h=>by
  rw[a48.1 h];exact⟨rfl,rfl⟩
 |n+1,L,h=>by
  obtain⟨g,b,rfl⟩:∃g b,L=g++[b]:=by
   rcases a63 L with rfl|⟨g,b,e⟩
   all_goals simp_all
  obtain⟨f,k⟩:=b9D n g (by simp_all);rw[c1j];simp only[c1i,b20,lN,a37,f]
  grind
theorem a5L(L:List Int):(wL L).2.1=L.length∧(wL L).1.length=(L.length+7) / 8:=b9D _ L rfl
theorem b9E{L:List Int}(l:L.length<1000000000)(b:Int):a2b (wL L,b)=some (wL (L++[b])):=by
 obtain⟨g,k⟩:=a5L L;have p:a31 ((L.length:Nat):Int) 8=((L.length:Nat):Int)%8:=a38 (by omega);have m:a56 ((L.length:Nat):Int) 8=((L.length:Nat):Int) / 8:=a54 (by omega);have c:wrap .i64 (((L.length:Nat):Int) / 8)=((L.length:Nat):Int) / 8:=a0C (by omega);have d:wrap .i64 (7-((L.length:Nat):Int)%8)=7-((L.length:Nat):Int)%8:=a0C (by omega);have e:wrap .i64 (((L.length:Nat):Int)+1)=((L.length:Nat):Int)+1:=a0C (by omega);have i:decide ((0:Int)≤((L.length:Nat):Int) / 8)=true:=by rfl
 have j:decide (7-((L.length:Nat):Int)%8<0)=false:=by grind
 rw[c1j];generalize wL L=wr at g k⊢;obtain⟨f,n,u⟩:=wr;have g:n=((L.length:Nat):Int):=g;have k:f.length=(L.length+7) / 8:=k;subst g;unfold a2b c1i
 by_cases h:((L.length:Nat):Int)%8=0
 have hb:(((L.length:Nat):Int)%8==0)=true:=by grind
 have o:lim (f.length+1)=true:=a0S (by omega);have a:decide (((L.length:Nat):Int) / 8<(((f++[0]).length:Nat):Int))=true:=by grind
 simp_all
 grind
def a6P(v:Int)(i:Nat):Int:=wrap .u8 (bits .u64 .and (A0i .u64 v (i:Int)) 1)
def pb(v:Int):Nat→List Int
 |0=>[]
 |i+1=>a6P v i::pb v i
theorem b4o(v:Int):∀n,(pb v n).length=n
 |0=>rfl
 |n+1=>by simp[pb,b4o v n]
def a0O(v:Int)(n:Nat)(L:List Int):List Int:=bif A0i .u64 v (n:Int) != 0 then L else L++pb v n
theorem a0V(v:Int)(n:Nat)(L:List Int):L.length≤(a0O v n L).length∧(a0O v n L).length≤L.length+n:=by
 grind[a0O,b4o]
def a8i(v:Int)(n:Nat):Int:=bif A0i .u64 v (n:Int) != 0 then 1 else 0
theorem c3m{v:Int}:∀(n:Nat)(L:List Int),L.length+n<1000000000→y0m a3Y (v,(n:Int)-1,wL L,())=some (wL (L++pb v n),())
 |0,L,_=>by simp_all[a0E,a3Y,pb]
 |n+1,L,h=>by
  have e:((n+1:Nat):Int)-1=(n:Int):=by omega
  have g:wrap .i64 ((n:Int)-1)=(n:Int)-1:=a0C (by omega);have f:decide ((n:Int)≥0)=true:=by simp
  have k:decide ((n:Int)<0)=false:=by simp
  rw[e,a0F (s':=(v,(n:Int)-1,wL (L++[a6P v n]),())) (by
   simp only[a3Y,f,k,cT,cF,show wrap .u8 (bits .u64 .and (A0i .u64 v (n:Int)) 1)=a6P v n from rfl,b9E (show L.length<1000000000 by omega),oB,g])]
  rw[c3m n (L++[a6P v n]) (by simp;omega),pb]
  simp
theorem a3d{v:Int}{n:Nat}(a:n≤63)(k:L.length<999999000):a0H (wL L,v,(n:Int))=some (a8i v n,wL (a0O v n L)):=by
 unfold a0H a8i a0O;have g:decide ((n:Int)<0)=false:=by simp
 have f:decide ((n:Int) > 64)=false:=by grind
 have h:wrap .i64 ((n:Int)-1)=(n:Int)-1:=a0C (by omega);simp[g,f];cases (A0i .u64 v (n:Int) != 0)with
 |true=>rfl
 |false=>simp only[cF,h,c3m n L (by omega),oB]
def unL(n:Nat)(L:List Int):List Int:=L++a00 n 0++[1]
theorem c3n{n:Nat}(c:n≤4096)(a:L.length<999990000):a2o (wL L,(n:Int))=some (0,wL (unL n L)):=by
 unfold a2o unL;have g:decide ((n:Int)<0)=false:=by simp
 have k:decide ((n:Int) > 4096)=false:=by grind
 simp only[g,k,cF,oB]
 have:=a1w (f:=a3k) (fun i=>((n:Int),(i:Int),wL (L++a00 i 0),())) n (b:=(wL (L++a00 n 0),())) (fun i hi=>by
   have h:L++a00 i (0:Int)++[0]=L++a00 (i+1) 0:=by simp_all[a66]
   simp only[a3k,dlt hi,cT,b9E (show(L++a00 i (0:Int)).length<1000000000 by grind),oB,h,a0B (show i<1000000 by omega)])
  (by simp[a3k])
 grind[b9E]
theorem b0X(n:Nat)(L:List Int):(unL n L).length=L.length+n+1:=by simp[unL];rfl
def a0T(x:Int)(n:Nat):Int:=bits .u64 .and (wrap .u64 x) (wrap .u64 ((A0h .u64 1 (n:Int))-1))
def a1x(n:Nat)(l:List Int)(L:List Int):List Int:=l.foldl (fun L x=>a0O (a0T x n) n L) L
theorem a6o(n:Nat):∀(l L:List Int),L.length≤(a1x n l L).length∧(a1x n l L).length≤L.length+n*l.length
 | [],L=>by simp[a1x]
 |x::l,L=>by
  have h:=a0V (a0T x n) n L;have g:=a6o n l (a0O (a0T x n) n L);have e:a1x n (x::l) L=a1x n l (a0O (a0T x n) n L):=rfl;rw[e,lC,b05,a85];omega
theorem b3O{n:Nat}(f:n≤63)(g:L.length<999999000):a2H (wL L,x,(n:Int))=some (wL (a0O (a0T x n) n L)):=by
 unfold a2H;have h:decide ((n:Int)<0)=false:=by simp
 simp only[h,cF,show bits .u64 .and (wrap .u64 x) (wrap .u64 ((A0h .u64 1 (n:Int))-1))=a0T x n from rfl,a3d f g,oB]
def a1d(x w:Int):Bool:=decide (1≤w)&&(decide (w≤31)&&(decide (A0h .i64 (-1) (w-1)≤x)&&decide (x≤wrap .i64 (A0h .i64 1 (w-1)-1))))
theorem a6p(a:w≤32):a1R (x,(w:Int))=some (a1d x w):=by
 unfold a1R a1d b3s b2x
 by_cases h1:1≤(w:Int)
 by_cases h2:(w:Int)≤31
 have h:decide ((w:Int)<1)=false:=by simp_all
 have g:decide ((w:Int) > 31)=false:=by simp_all
 have e:wrap .i64 ((w:Int)-1)=(w:Int)-1:=a0C (by omega);have f:decide ((w:Int)-1<0)=false:=by simp_all
 have k:decide ((w:Int)≥1)=true:=by simp_all
 simp[h1,h2,h,g,f,e]
 grind
 grind
 grind
theorem c4E(b:w≤32):a9O (x,(w:Int))=some (a1d x w):=by
 unfold a9O a1d b8I b7h
 by_cases h1:1≤(w:Int)
 by_cases h2:(w:Int)≤31
 have f:decide ((w:Int)<1)=false:=by simp_all
 have k:decide ((w:Int) > 31)=false:=by simp_all
 have e:wrap .i64 ((w:Int)-1)=(w:Int)-1:=a0C (by omega);have g:wrap .u64 ((w:Int)-1)=(w:Int)-1:=a0K (by omega);have a:decide ((w:Int)-1<0)=false:=by simp_all
 have h:decide ((w:Int)≥1)=true:=by simp_all
 simp only[h,h1,h2,f,k,a,e,g,decide_true,cT,cF,oB,a43]
 grind
 grind
 grind
def a1H(x:Int):Nat→Nat→Nat
 |0,w=>w
 |k+1,w=>bif (x != 0)&&!a1d x w then a1H x k (w+1)else w
theorem b8N(x:Int):∀(k w:Nat),a1H x k w≤w+k
 |0,w=>a34 _
 |k+1,w=>by
  simp[a1H];cases (x != 0)&&!a1d x w with
  |true=>have:=b8N x k (w+1);grind
  |false=>simp
def a0I(l:List Int):Nat:=l.foldl (fun w x=>a1H x (32-w) w) 0
theorem b6C:∀(l:List Int)(w:Nat),w≤32→l.foldl (fun w x=>a1H x (32-w) w) w≤32
 | [],w,h=>h
 |x::l,w,h=>b6C l _ (show a1H x (32-w) w≤32 by grind[b8N])
theorem a6v(l:List Int):a0I l≤32:=b6C l 0 (by omega)
theorem c1J{x:Int}{l:List Int}{n i:Int}:∀(k w:Nat),w+k=32→y0m a2N ((w:Int),x,l,n,i,())=some (((a1H x k w:Nat):Int),l,n,i,())
 |0,w,h=>by
  obtain rfl:w=32:=by omega
  simp_all[a0E,a2N,a1H]
 |k+1,w,h=>by
  have g:decide ((w:Int)<32)=true:=by grind
  simp[a1H];cases hx:(x != 0)with
  |false=>simp_all[a0E,a2N]
  |true=>
   cases hf:a1d x w with
   |true=>exact a0E (by simp only[a2N,hx,g,a6p (show w≤32 by omega),hf,oB,cT,cF,bT,Bool.and_false])
   |false=>
    rw[a0F (s':=(((w+1:Nat):Int),x,l,n,i,())) (by simp only[a2N,hx,g,a6p (show w≤32 by omega),hf,oB,cT,a46,a0B (show w<1000000 by omega)])];exact c1J k (w+1) (by omega)
theorem a2l(c:short l):a1r l=some ((a0I l:Nat):Int):=by
 have c:l.length<1000000:=c
 have:=a1P (f:=a5P) l (fun i (w:Nat)=>((w:Int),l,(l.length:Int),(i:Int),())) (fun w x=>(.inl (a1H x (32-w) w):Nat ⊕ (Int×Unit))) (fun _ w=>w≤32) (fun w=>((w:Int),()))
  (fun i h w e=>⟨fun d k=>by
   simp at k;subst k;refine⟨?_,by grind[b8N]⟩;simp only[a5P,dlt h,cT,a0D h,oB,c1J (32-w) w (by omega),a0B (show i<1000000 by omega)],fun b hb=>(by grind)⟩)
  (fun w _=>by simp[a5P]) (a:=0) (by omega)
 simp at this;unfold a1r;rw[this];have g:∀(l:List Int)(w:Nat),a2K (fun w x=>(.inl (a1H x (32-w) w):Nat ⊕ (Int×Unit))) l w=.inl (l.foldl (fun w x=>a1H x (32-w) w) w):=by
  intro l
  induction l with
  |nil=>intro w;rfl
  |cons x l ih=>simp_all[a2K]
 rw[g];rfl
theorem b0Y(x:Int):a7v x=some (a0A x):=by
 grind[a7v,a0A]
def a0P(x:Int):Nat:=if 0≤x then(2*x).toNat else(-2*x-1).toNat
theorem a9G(h:a0A x=true):a0P x<2147483648:=by
 grind[a1D,a0P]
theorem b0Z(h:a0A x=true):a9f x=some ((a0P x:Nat):Int):=by
 have f:=a1D.1 h;unfold a9f a0P;simp only[b0Y,h,oB,bT,cF]
 by_cases h0:0≤x
 have g:decide (x≥0)=true:=by simp_all
 simp only[g,cT,if_pos h0]
 grind[a0C,a0K]
 have g:decide (x≥0)=false:=by simp_all
 simp only[g,cF,if_neg h0]
 grind[a0C,a0K]
theorem a6w{N o:Nat}(h:o≤64):A0i .u64 (N:Int) (o:Int)=((N / 2^o:Nat):Int):=c3h h
theorem b2r(h:o≤64)(g:N*2^o<9223372036854775808):A0h .u64 (N:Int) (o:Int)=((N*2^o:Nat):Int):=by
 unfold A0h;show wrap .u64 ((N:Int)*2^(min (o:Int).toNat 64))=_
 grind[a0K]
theorem c3o{y k:Nat}(c:y<18446744073709551616)(f:k≤62):bits .u64 .and (y:Int) (wrap .u64 (A0h .u64 1 (k:Int)-1))=((y%2^k:Nat):Int):=by
 have hp:2^k≤2^62:=a16 (by simp) f;have a:1≤2^k:=a94;have b:(2:Nat)^62=4611686018427387904:=by rfl
 have h:A0h .u64 1 (k:Int)=((2^k:Nat):Int):=by have:=b2r (N:=1) (o:=k) (by omega) (by omega);simp_all
 have g:wrap .u64 (((2^k:Nat):Int)-1)=((2^k-1:Nat):Int):=by grind[a0K]
 rw[h,g];show wrap .u64 (((a04 64 (y:Int)) &&& (a04 64 ((2^k-1:Nat):Int))).toNat:Int)=_;rw[a29,a29,a77,a35,a35,a28 c,a28 (by omega),a65]
 have:y%2^k<2^k:=a50 _ (by omega)
 exact a0K (by omega)
theorem b3P{q:Nat}(h:q<2147483648):wrap .i64 (q:Int)=(q:Int):=a0C (by omega)
def a6Q(k:Nat)(x:Int)(L:List Int):List Int:=
 if a0P x / 2^k<32 then a0O ((a0P x%2^k:Nat):Int) k (unL (a0P x / 2^k) L)else a0O ((a0P x:Nat):Int) 32 (unL 32 L)
def a4H(k:Nat)(l:List Int)(L:List Int):List Int:=l.foldl (fun L x=>a6Q k x L) L
theorem b7l{k:Nat}(h:k≤25)(x:Int)(L:List Int):L.length≤(a6Q k x L).length∧(a6Q k x L).length≤L.length+100:=by
 grind[a6Q,a0V,b0X]
theorem b6D{k:Nat}(h:k≤25):∀(l L:List Int),L.length≤(a4H k l L).length∧(a4H k l L).length≤L.length+100*l.length
 | [],L=>by simp[a4H]
 |x::l,L=>by
  have g:=b7l h x L;have f:=b6D h l (a6Q k x L);have e:a4H k (x::l) L=a4H k l (a6Q k x L):=rfl
  grind
theorem a8X{k:Nat}(h:k≤25):a1N (k:Int)=some true:=by
 unfold a1N
 grind
theorem c4F{k:Nat}(x:k≤25)(D:l.length<10000)(t:l.all a0A=true)(C:L.length<900000000):b2U (wL L,(k:Int),l)=some (0,wL (a4H k l L)):=by
 have A:=a1Q (f:=a9s) l (fun i=>((k:Int),l,l,(l.length:Int),(i:Int),wL L,())) (fun _=>true) (bt:=Sum.inl ((k:Int),l,wL L,())) (bf:=Sum.inl ((k:Int),l,wL L,()))
  (fun i h _=>by
   have:=lA.1 t _ (a07 h)
   simp only[a9s,dlt h,cT,a0D h,oB,b0Y,this,bT,cF,a0B (show i<1000000 by omega)])
  (fun i h hp=>by simp_all) (by simp[a9s])
 have p:∀(j i:Nat)(g:List Int),i+j=l.length→g.length+100*j<999990000→y0m a7c ((k:Int),l,(l.length:Int),(i:Int),wL g,())=some (wL (a4H k (l.drop i) g),()):=by
  intro j
  induction j with
  |zero=>
   intro i g hi _;obtain rfl:i=l.length:=by omega
   simp_all[a0E,a7c,a4H]
  |succ j ih=>
   intro i g hi hb;have a:i<l.length:=by omega
   have c:=lA.1 t _ (a07 a);have z:=a9G c;have y:=b7l x l[i] g;have e:decide ((k:Int)<0)=false:=by simp
   have q:A0i .u64 ((a0P l[i]:Nat):Int) (k:Int)=((a0P l[i] / 2^k:Nat):Int):=a6w (by omega);have o:=a40 (a0P l[i]) (2^k);have r:=a82 (a0P l[i]) (2^k);have d:A0h .u64 ((a0P l[i] / 2^k:Nat):Int) (k:Int)=((a0P l[i] / 2^k*2^k:Nat):Int):=b2r (by omega) (by grind);have u:wrap .u64 (((a0P l[i]:Nat):Int)-((a0P l[i] / 2^k*2^k:Nat):Int))=((a0P l[i]%2^k:Nat):Int):=by
    rw[a69 (a0P l[i] / 2^k)]
    grind[a0K]
   have w:wrap .i64 ((a0P l[i] / 2^k:Nat):Int)=((a0P l[i] / 2^k:Nat):Int):=b3P (a49 o z);rw[a03 a,a0F (s':=((k:Int),l,(l.length:Int),((i+1:Nat):Int),wL (a6Q k l[i] g),())) (by
    by_cases hq:a0P l[i] / 2^k<32
    have m:decide (((a0P l[i] / 2^k:Nat):Int)<32)=true:=decide_eq_true (by omega);have s:(unL (a0P l[i] / 2^k) g).length<999999000:=by
     rw[b0X];omega
    have b:=c3n (L:=g) (n:=a0P l[i] / 2^k) (a96 (a32 hq (by simp))) (by omega);have hp:=a3d (L:=unL (a0P l[i] / 2^k) g) (v:=((a0P l[i]%2^k:Nat):Int)) (n:=k) (by omega) s;simp only[a7c,dlt a,cT,a0D a,oB,b0Z c,e,cF,q,m,w,b,d,u,hp,a6Q,if_pos hq,a0B (show i<1000000 by omega)];have m:decide (((a0P l[i] / 2^k:Nat):Int)<32)=false:=decide_eq_false (by omega);have s:=b0X 32 g;have b:a2o (wL g,(32:Int))=some (0,wL (unL 32 g)):=c3n (L:=g) (n:=32) (by omega) (by omega);have hp:a0H (wL (unL 32 g),((a0P l[i]:Nat):Int),(32:Int))=some (a8i ((a0P l[i]:Nat):Int) 32,wL (a0O ((a0P l[i]:Nat):Int) 32 (unL 32 g))):=a3d (L:=unL 32 g) (v:=((a0P l[i]:Nat):Int)) (n:=32) (by omega) (by omega);simp only[a7c,dlt a,cT,a0D a,oB,b0Z c,e,cF,q,m,b,hp,a6Q,if_neg hq,a0B (show i<1000000 by omega)])]
   exact ih (i+1) _ (by omega) (by omega)
 have B:=p l.length 0 L (by omega) (by omega);simp_all[b2U,a8X]
def a1n(zn:List Nat):List Int:=zn.map fun(a:Nat)=>(a:Int)
theorem c2y(n M:Nat):(a00 n M).sum=n*M:=by
 simp
theorem b4R{o:Int}(h:(a1G o n warm).length≠0):∃zn:List Nat,a1G o n warm=a1n zn∧(zn.sum:Int)=n-warm∧zn.length≤256:=by
 unfold a1G at h⊢;cases hr:(a6n n warm&&(decide (0≤o)&&decide (o≤8)))with
 |false=>simp_all
 |true=>
  rw[hr]at h;simp only[cT]at h⊢;simp[a6n]at hr;unfold b5k at h⊢
  split at h
  rename_i g;rw[if_pos g];obtain⟨O,rfl⟩:=a01 hr.2.1;obtain⟨N,rfl⟩:=a01 (show 0≤n by omega);obtain⟨w,rfl⟩:=a01 (show 0≤warm by omega);simp only[tN]at g⊢;have hp:=d2i (o:=O) (by omega);have f:=a82 N (2^O);rw[g.1,a97]at f;have k:w≤N / 2^O:=by omega
  generalize N / 2^O=M at g k f⊢;generalize 2^O=P at hp f⊢;refine⟨(M-w)::a00 (P-1) M,?_,?_,?_⟩
  grind[a1n,List.map_replicate]
  rw[a74,c2y];obtain⟨q,rfl⟩:∃q,P=q+1:=⟨P-1,by omega⟩
  grind
  simp_all;simp_all
def a9A(k:Int)(part L:List Int):List Int:=
 if k=31 then a1x (a0I part) part (a0O ((a0I part:Nat):Int) 5 (a0O (wrap .u64 k) 5 L))else a4H k.toNat part (a0O (wrap .u64 k) 5 L)
def a4I:List Nat→List Int→List Int→List Int→List Int
 |z::zs,k::ks,l,L=>a4I zs ks (l.drop z) (a9A k (l.take z) L)
 |_,_,_,L=>L
theorem b7m(h:kB k=true)(part L:List Int):L.length≤(a9A k part L).length∧(a9A k part L).length≤L.length+10+100*part.length:=by
 unfold a9A;have a:=a0V (wrap .u64 k) 5 L;split;have b:=a0V ((a0I part:Nat):Int) 5 (a0O (wrap .u64 k) 5 L);have c:=a6o (a0I part) part (a0O ((a0I part:Nat):Int) 5 (a0O (wrap .u64 k) 5 L));have f:=a6v part
 have:a0I part*part.length≤32*part.length:=a30 _ f
 omega;rename_i g;simp[kB]at h
 grind[b6D]
theorem a8j(h:i<zn.length):b24 (a1n zn) i 0=((zn[i]:Nat):Int):=by
 simp_all[a1n]
theorem a1u(h:List Nat):(a1n h).length=h.length:=by simp[a1n]
theorem b5L(h:i<zn.length):(zn.drop i).sum=zn[i]+(zn.drop (i+1)).sum:=by
 grind[a03]
theorem c3p{part rest:List Int}{wd:Nat}{a b:Int}{z:List Int}{p:Prt}(k:wd≤32)(hp:part.length<10000):∀(j i:Nat)(L:List Int),i+j=part.length→L.length+64*j<999990000→
  y0m a8u (rest,(wd:Int),a,b,part,(part.length:Int),(i:Int),z,wL L,p,())=some (rest,a,b,z,wL (a1x wd (part.drop i) L),p,())
 |0,i,L,hi,_=>by
  obtain rfl:i=part.length:=by omega
  simp_all[a0E,a8u,a1x]
 |j+1,i,L,hi,hb=>by
  have h:i<part.length:=by omega
  have g:decide ((wd:Int)<0)=false:=by simp
  have f:=a0V (a0T part[i] wd) wd L;rw[a03 h,a0F (s':=(rest,(wd:Int),a,b,part,(part.length:Int),((i+1:Nat):Int),z,wL (a0O (a0T part[i] wd) wd L),p,())) (by
   simp only[a8u,dlt h,cT,a0D h,oB,g,cF,show bits .u64 .and (wrap .u64 part[i]) (wrap .u64 ((A0h .u64 1 (wd:Int))-1))=a0T part[i] wd from rfl,a3d (show wd≤63 by omega) (show L.length<999999000 by omega),a0B (show i<1000000 by omega)])]
  exact c3p k hp j (i+1) _ (by omega) (by omega)
theorem b5o{zn:List Nat}{p:Prt}(N:p.2.1.length=zn.length)(c:p.2.1.all kB=true)(R:zn.length≤256):∀(j i:Nat)(l L:List Int),i+j=zn.length→(zn.drop i).sum=l.length→l.all a0A=true→l.length≤5000→L.length+10*j+100*l.length<800000000→
  y0m a4q (l,(zn.length:Int),(i:Int),a1n zn,wL L,p,())=some (wL (a4I (zn.drop i) (p.2.1.drop i) l L),())
 |0,i,l,L,hi,_,_,_,_=>by
  obtain rfl:i=zn.length:=by omega
  simp_all[a0E,a4q,a4I]
 |j+1,i,l,L,hi,hsum,hw,hl5,hb=>by
  have h:i<zn.length:=by omega
  have f:i<p.2.1.length:=by omega
  have s:=lA.1 c _ (a07 f);rw[b5L h]at hsum;have B:decide ((0:Int)≤(i:Int))=true:=by simp
  have C:decide ((i:Int)<(((a1n zn).length:Nat):Int))=true:=by simp_all[a1u]
  have D:decide ((0:Int)≤((zn[i]:Nat):Int))=true:=by simp
  have E:decide (((zn[i]:Nat):Int)≤((l.length:Nat):Int))=true:=by grind
  have t:(l.take zn[i]).length=zn[i]:=by simp_all
  have q:(l.drop zn[i]).length=(zn.drop (i+1)).sum:=by grind
  have w:(l.take zn[i]).all a0A=true:=lA.2 fun x A=>lA.1 hw x (a44 A);have y:(l.drop zn[i]).all a0A=true:=lA.2 fun x A=>lA.1 hw x (a45 A);have Q:=b7m s (l.take zn[i]) L;have O:=a0V (wrap .u64 p.2.1[i]) 5 L;have d:a0H (wL L,wrap .u64 p.2.1[i],(5:Int))=some (a8i (wrap .u64 p.2.1[i]) 5,wL (a0O (wrap .u64 p.2.1[i]) 5 L)):=a3d (n:=5) (by omega) (by omega);have G:zn.drop i=zn[i]::zn.drop (i+1):=a03 h;have H:p.2.1.drop i=p.2.1[i]::p.2.1.drop (i+1):=a03 f;rw[G,H,a4I];have r:a4q (l,(zn.length:Int),(i:Int),a1n zn,wL L,p,())=some (.inl (l.drop zn[i],(zn.length:Int),((i+1:Nat):Int),a1n zn,wL (a9A p.2.1[i] (l.take zn[i]) L),p,())):=by
   by_cases h31:p.2.1[i]=31
   have m:(p.2.1[i] != 31)=false:=by simp_all
   have v:=a6v (l.take zn[i]);have u:=a2l (l:=l.take zn[i]) (by unfold short;omega);have P:=a0V ((a0I (l.take zn[i]):Nat):Int) 5 (a0O (wrap .u64 p.2.1[i]) 5 L);have I:wrap .u64 ((a0I (l.take zn[i]):Nat):Int)=((a0I (l.take zn[i]):Nat):Int):=a0K (by omega);have o:a0H (wL (a0O (wrap .u64 p.2.1[i]) 5 L),((a0I (l.take zn[i]):Nat):Int),(5:Int))=some (a8i ((a0I (l.take zn[i]):Nat):Int) 5,wL (a0O ((a0I (l.take zn[i]):Nat):Int) 5 (a0O (wrap .u64 p.2.1[i]) 5 L))):=a3d (n:=5) (by omega) (by omega);have e:=c3p (part:=l.take zn[i]) (rest:=l.drop zn[i]) (a:=(zn.length:Int)) (b:=(i:Int)) (z:=a1n zn) (p:=p) v (by omega) (l.take zn[i]).length 0 (a0O ((a0I (l.take zn[i]):Nat):Int) 5 (a0O (wrap .u64 p.2.1[i]) 5 L)) (by omega) (by omega);simp only[nZ,a23]at e;simp only[a4q,dlt h,B,C,a8j h,D,E,cT,a02,tN,a0D f,oB,d,m,cF,u,I,o,a20,e,a0B (show i<1000000 by omega),a9A,if_pos h31];have m:(p.2.1[i] != 31)=true:=by simp_all
   simp[kB]at s;obtain⟨K,M⟩:=a01 (show 0≤p.2.1[i]by omega);have g:=c4F (k:=K) (l:=l.take zn[i]) (L:=a0O (wrap .u64 p.2.1[i]) 5 L) (by omega) (by omega) w (by omega);rw[←M]at g;have F:K=p.2.1[i].toNat:=by omega
   simp only[a4q,dlt h,B,C,a8j h,D,E,cT,a02,tN,a0D f,oB,d,m,g,a20,a0B (show i<1000000 by omega),a9A,if_neg h31,F]
  rw[a0F r];exact b5o N c R j (i+1) (l.drop zn[i]) _ (by omega) q.symm y (by omega) (by omega)
theorem c1k{k:Nat}(d:k≤25)(g:a0A x=true):∃c,a7w ((k:Int),x)=some c∧0≤c∧c≤65:=by
 have e:=a9G g;have f:A0i .u64 ((a0P x:Nat):Int) (k:Int)=((a0P x / 2^k:Nat):Int):=a6w (by omega);have a:wrap .i64 ((a0P x / 2^k:Nat):Int)=((a0P x / 2^k:Nat):Int):=b3P (a49 (a40 _ _) e);have h:decide ((k:Int)<0)=false:=by simp
 unfold a7w;simp only[a8X d,b0Y,g,oB,bT,cF,b0Z g,h,f,a];generalize a0P x / 2^k=q
 by_cases hq:q<32
 have b:decide ((q:Int)<32)=true:=decide_eq_true (by omega);refine⟨(q:Int)+1+k,?_,by omega,by omega⟩;simp only[b,cT]
 grind[a0C]
 grind
theorem c2z{k:Nat}(o:k≤25)(p:l.all a0A=true)(s:l.length<10000):∃c,a3j ((k:Int),l)=some c∧0≤c∧c≤65*l.length:=by
 have g:∀(j i:Nat)(c:Int),i+j=l.length→0≤c→c≤65*i→∃c',y0m a3L ((k:Int),c,l,(l.length:Int),(i:Int),())=some (c',())∧0≤c'∧c'≤65*l.length:=by
  intro j
  induction j with
  |zero=>
   intro i c hi a f;obtain rfl:i=l.length:=by omega
   simp_all[a0E,a3L]
  |succ j ih=>
   intro i c hi a f;have h:i<l.length:=by omega
   obtain⟨d,b,m,n⟩:=c1k o (lA.1 p _ (a07 h));have e:wrap .i64 (c+d)=c+d:=a0C (by omega);rw[a0F (s':=((k:Int),c+d,l,(l.length:Int),((i+1:Nat):Int),())) (by simp only[a3L,dlt h,cT,a0D h,oB,b,e,a0B (show i<1000000 by omega)])];exact ih (i+1) _ (by omega) (by omega) (by omega)
 obtain⟨c,f,q,r⟩:=g l.length 0 0 (by omega) (by omega) (by omega);simp_all[a3j]
theorem c7c{n:Nat}(g:w≤32)(f:n<10000):0≤(w:Int)*(n:Int)∧(w:Int)*(n:Int)≤32*n:=by
 have h:w*n≤32*n:=a30 _ g;omega
theorem c1l(h:l.length<10000):∃c,a5H l=some c∧0≤c∧c≤5+32*l.length:=by
 have g:=c7c (a6v l) h;refine⟨5+((a0I l:Nat):Int)*((l.length:Nat):Int),?_,by omega,by omega⟩;unfold a5H;simp only[a2l (show short l by unfold short;omega),oB]
 grind[a0C]
theorem b4p{zn:List Nat}{p:Prt}(H:p.2.1.length=zn.length)(g:p.2.1.all kB=true)(I:zn.length≤256):∀(j i:Nat)(l:List Int)(c:Int),i+j=zn.length→(zn.drop i).sum=l.length→l.all a0A=true→l.length≤5000→4≤c→c+10*j+65*l.length<1000000→
  ∃c',y0m a1t (l,c,(zn.length:Int),(i:Int),a1n zn,p,())=some (c',())∧4≤c'
 |0,i,l,c,hi,_,_,_,hc,_=>by
  obtain rfl:i=zn.length:=by omega
  simp_all[a0E,a1t]
 |j+1,i,l,c,hi,hsum,hw,hl5,hc,hb=>by
  have h:i<zn.length:=by omega
  have f:i<p.2.1.length:=by omega
  have q:=lA.1 g _ (a07 f);rw[b5L h]at hsum;have z:decide ((0:Int)≤(i:Int))=true:=by simp
  have A:decide ((i:Int)<(((a1n zn).length:Nat):Int))=true:=by simp_all[a1u]
  have B:decide ((0:Int)≤((zn[i]:Nat):Int))=true:=by simp
  have C:decide (((zn[i]:Nat):Int)≤((l.length:Nat):Int))=true:=by grind
  have s:(l.take zn[i]).length=zn[i]:=by simp_all
  have b:(l.drop zn[i]).length=(zn.drop (i+1)).sum:=by grind
  have v:(l.take zn[i]).all a0A=true:=lA.2 fun x y=>lA.1 hw x (a44 y);have w:(l.drop zn[i]).all a0A=true:=lA.2 fun x y=>lA.1 hw x (a45 y);have e:∃d,a1t (l,c,(zn.length:Int),(i:Int),a1n zn,p,())=some (.inl (l.drop zn[i],c+d,(zn.length:Int),((i+1:Nat):Int),a1n zn,p,()))∧0≤d∧d≤10+65*zn[i]:=by
   by_cases h31:p.2.1[i]=31
   have a:(p.2.1[i]==31)=true:=by simp_all
   obtain⟨r,m,t,u⟩:=c1l (l:=l.take zn[i]) (by omega);have n:wrap .i64 (5+r)=5+r:=a0C (by omega);have o:wrap .i64 (c+(5+r))=c+(5+r):=a0C (by omega);refine⟨5+r,?_,by omega,by omega⟩;simp only[a1t,dlt h,z,A,a8j h,B,C,cT,a02,tN,a0D f,oB,a,m,n,o,a20,a0B (show i<1000000 by omega)];have a:(p.2.1[i]==31)=false:=by simp_all
   simp[kB]at q;obtain⟨K,D⟩:=a01 (show 0≤p.2.1[i]by omega);obtain⟨r,m,t,u⟩:=c2z (k:=K) (by omega) v (by omega);rw[←D]at m;have n:wrap .i64 (5+r)=5+r:=a0C (by omega);have o:wrap .i64 (c+(5+r))=c+(5+r):=a0C (by omega);refine⟨5+r,?_,by omega,by omega⟩;simp only[a1t,dlt h,z,A,a8j h,B,C,cT,cF,a02,tN,a0D f,oB,a,m,n,o,a20,a0B (show i<1000000 by omega)]
  obtain⟨d,E,F,G⟩:=e;rw[a0F E];exact b4p H g I j (i+1) (l.drop zn[i]) _ (by omega) b.symm w (by omega) (by omega) (by omega)
structure PartsOk (p:Prt) (n warm:Int) (l:List Int) (zn:List Nat):Prop where
 may:a5A p n warm=true
 sizes:a1G p.1 n warm=a1n zn
 sum:zn.sum=l.length
 len:zn.length≤256
 ks:p.2.1.length=zn.length
 all:p.2.1.all kB=true
 wide:l.all a0A=true
 short:l.length≤5000
 row:a6n n warm=true
 rest:(l.length:Int)=n-warm
 order:0≤p.1∧p.1≤8
theorem PartsOk.of{p:Prt}{n warm:Int}{l:List Int}(h:a5A p n warm=true)(i:(l.length:Int)=n-warm)(j:l.all a0A=true)(e:l.length≤5000):∃g,PartsOk p n warm l g:=by
 have f:=h;simp only[a5A,bA,a24,beq_eq_false_iff_ne,ne_eq,beq_iff_eq]at f;obtain⟨c,o,d⟩:=f;obtain⟨g,a,m,b⟩:=b4R c;have k:a6n n warm=true∧0≤p.1∧p.1≤8:=by
  grind[a1G]
 exact⟨g,h,a,by omega,b,by simp_all[a1u],d,j,e,k.1,i,k.2⟩
theorem b1x{n warm:Int}{l:List Int}(h:a6n n warm=true)(c:(l.length:Int)=n-warm)(d:l.all a0A=true)(a:l.length≤5000):a7b (n,warm,l)=some true:=by
 have e:wrap .i64 (n-warm)=n-warm:=by
  simp[a6n]at h;exact a0C (by omega)
 have k:(((l.length:Nat):Int) != n-warm)=false:=by simp_all
 have f:b3w=a2w:=rfl;have g:short l:=by unfold short;omega
 have b:=a4s g;simp_all[a2t,a7b,b3K]
theorem b9F(h:PartsOk p n warm l zn):∃c,a4y (p,n,warm,l)=some c∧4≤c:=by
 have k:Go.Ab.short p.2.1:=by have:=h.ks;have:=h.len;unfold Go.Ab.short;omega
 have a:=h.short;have b:=h.len;obtain⟨c,g,f⟩:=b4p h.ks h.all h.len zn.length 0 l 4 (by omega) (by rw[a23];exact h.sum) h.wide h.short (by omega) (by omega);simp at g;refine⟨c,?_,f⟩;unfold a4y;simp only[b3L k,h.may,b1x h.row h.rest h.wide h.short,oB,bT,cF,a1Y,h.sizes,a1u,g]
def a4i(p:Prt)(zn:List Nat)(l L:List Int):List Int:=a4I zn p.2.1 l (a0O (wrap .u64 p.1) 4 L)
theorem c3q(h:PartsOk p n warm l zn)(i:L.length<700000000):b1N (wL L,p,n,warm,l)=some (0,wL (a4i p zn l L)):=by
 have e:=h.short;have j:=h.len;obtain⟨c,a,b⟩:=b9F h;have k:(c==0)=false:=by grind
 have d:=a0V (wrap .u64 p.1) 4 L;have f:a0H (wL L,wrap .u64 p.1,(4:Int))=some (a8i (wrap .u64 p.1) 4,wL (a0O (wrap .u64 p.1) 4 L)):=a3d (n:=4) (by omega) (by omega);have g:=b5o h.ks h.all h.len zn.length 0 l (a0O (wrap .u64 p.1) 4 L) (by omega) (by rw[a23];exact h.sum) h.wide h.short (by omega);simp at g;unfold b1N;simp only[a,oB,k,cF,f,a1Y,h.sizes,a1u,g,a4i]
theorem b9G{c:List Int}{wd:Nat}(k:wd≤32)(g:c.length<10000):∀(j i:Nat)(L:List Int),i+j=c.length→L.length+64*j<999990000→
  y0m a5R ((wd:Int),c,(c.length:Int),(i:Int),wL L,())=some (wL (a1x wd (c.drop i) L),())
 |0,i,L,hi,_=>by
  obtain rfl:i=c.length:=by omega
  simp_all[a0E,a5R,a1x]
 |j+1,i,L,hi,hb=>by
  have h:i<c.length:=by omega
  have f:=a0V (a0T c[i] wd) wd L;rw[a03 h,a0F (s':=((wd:Int),c,(c.length:Int),((i+1:Nat):Int),wL (a0O (a0T c[i] wd) wd L),())) (by
   simp only[a5R,dlt h,cT,a0D h,oB,b3O (show wd≤63 by omega) (show L.length<999999000 by omega),a0B (show i<1000000 by omega)])]
  exact b9G k g j (i+1) _ (by omega) (by omega)
theorem c1K{t:List Int}{n wd:Int}{s:Sub}(a:t.length=3):∀(j i:Nat)(L:List Int),i+j=3→L.length+64*j<999990000→
  y0m b0E (n,wd,t,(i:Int),wL L,s,())=some (n,wd,wL (a1x 8 (t.drop i) L),s,())
 |0,i,L,hi,_=>by
  obtain rfl:i=t.length:=by omega
  grind[a0E,b0E,a1x]
 |j+1,i,L,hi,hb=>by
  have h:i<t.length:=by omega
  have f:decide ((i:Int)<3)=true:=by grind
  have k:=a0V (a0T t[i] 8) 8 L;have g:a2H (wL L,t[i],(8:Int))=some (wL (a0O (a0T t[i] 8) 8 L)):=b3O (n:=8) (by omega) (by omega);rw[a03 h,a0F (s':=(n,wd,t,((i+1:Nat):Int),wL (a0O (a0T t[i] 8) 8 L),s,())) (by
   simp only[b0E,f,cT,a0D h,oB,g,a0B (show i<1000000 by omega)])]
  exact c1K a j (i+1) _ (by omega) (by omega)
theorem c1L{l:List Int}{n:Int}{wd:Nat}{s:Sub}(k:wd≤32)(g:l.length<10000):∀(j i:Nat)(L:List Int),i+j=l.length→L.length+64*j<999990000→
  y0m b0G (n,(wd:Int),l,(l.length:Int),(i:Int),wL L,s,())=some (n,wL (a1x wd (l.drop i) L),s,())
 |0,i,L,hi,_=>by
  obtain rfl:i=l.length:=by omega
  simp_all[a0E,b0G,a1x]
 |j+1,i,L,hi,hb=>by
  have h:i<l.length:=by omega
  have f:=a0V (a0T l[i] wd) wd L;rw[a03 h,a0F (s':=(n,(wd:Int),l,(l.length:Int),((i+1:Nat):Int),wL (a0O (a0T l[i] wd) wd L),s,())) (by
   simp only[b0G,dlt h,cT,a0D h,oB,b3O (show wd≤63 by omega) (show L.length<999999000 by omega),a0B (show i<1000000 by omega)])]
  exact c1L k g j (i+1) _ (by omega) (by omega)
def a6q(s:Stg)(L:List Int):List Int:=a0O (wrap .u64 s.2.1) 4 (a0O (wrap .u64 (wrap .i64 (s.1-1))) 5 L)
def a2P(st:List Stg)(L:List Int):List Int:=st.foldl (fun L s=>a6q s L) L
theorem b6E(s:Stg)(L:List Int):(a6q s L).length≤L.length+9:=by
 grind[a0V,a6q]
theorem b5p:∀(st:List Stg)(L:List Int),(a2P st L).length≤L.length+9*st.length
 | [],L=>by simp[a2P]
 |s::st,L=>by
  have h:=b6E s L;have g:=b5p st (a6q s L);have e:a2P (s::st) L=a2P st (a6q s L):=rfl
  grind
theorem b8l{st:List Stg}{n wd:Int}{s:Sub}(a:st.length<10000):∀(j i:Nat)(L:List Int),i+j=st.length→L.length+64*j<999990000→
  y0m b0F (n,wd,st,(st.length:Int),(i:Int),wL L,s,())=some (n,wd,wL (a2P (st.drop i) L),s,())
 |0,i,L,hi,_=>by
  obtain rfl:i=st.length:=by omega
  simp_all[a0E,b0F,a2P]
 |j+1,i,L,hi,hb=>by
  have h:i<st.length:=by omega
  have k:=a0V (wrap .u64 (wrap .i64 (st[i].1-1))) 5 L;have b:=b6E st[i] L;have g:a0H (wL L,wrap .u64 (wrap .i64 (st[i].1-1)),(5:Int))=some (a8i (wrap .u64 (wrap .i64 (st[i].1-1))) 5,wL (a0O (wrap .u64 (wrap .i64 (st[i].1-1))) 5 L)):=a3d (n:=5) (by omega) (by omega);have f:a0H (wL (a0O (wrap .u64 (wrap .i64 (st[i].1-1))) 5 L),wrap .u64 st[i].2.1,(4:Int))=some (a8i (wrap .u64 st[i].2.1) 4,wL (a6q st[i] L)):=a3d (n:=4) (by omega) (by omega);rw[a03 h,a0F (s':=(n,wd,st,(st.length:Int),((i+1:Nat):Int),wL (a6q st[i] L),s,())) (by
   simp only[b0F,dlt h,cT,a0D h,oB,g,f,a0B (show i<1000000 by omega)])]
  exact b8l a j (i+1) _ (by omega) (by omega)
def a6r(s:Sub)(L:List Int):List Int:=
 a1x (a0I s.2.2.2.2.2.1) s.2.2.2.2.2.1 (a0O ((a0I s.2.2.2.2.2.1:Nat):Int) 5 (a0O (wrap .u64 s.2.2.2.1) 4 (a0O (wrap .u64 (wrap .i64 (((s.2.2.2.2.2.1.length:Nat):Int)-1))) 5 L)))
theorem c2A{s:Sub}(h:s.2.2.2.2.2.1.length≤40)(L:List Int):(a6r s L).length≤L.length+2000:=by
 unfold a6r;have f:=a0V (wrap .u64 (wrap .i64 (((s.2.2.2.2.2.1.length:Nat):Int)-1))) 5 L;have k:=a0V (wrap .u64 s.2.2.2.1) 4 (a0O (wrap .u64 (wrap .i64 (((s.2.2.2.2.2.1.length:Nat):Int)-1))) 5 L);have a:=a0V ((a0I s.2.2.2.2.2.1:Nat):Int) 5 (a0O (wrap .u64 s.2.2.2.1) 4 (a0O (wrap .u64 (wrap .i64 (((s.2.2.2.2.2.1.length:Nat):Int)-1))) 5 L));have b:=a6o (a0I s.2.2.2.2.2.1) s.2.2.2.2.2.1 (a0O ((a0I s.2.2.2.2.2.1:Nat):Int) 5 (a0O (wrap .u64 s.2.2.2.1) 4 (a0O (wrap .u64 (wrap .i64 (((s.2.2.2.2.2.1.length:Nat):Int)-1))) 5 L)));have g:=a6v s.2.2.2.2.2.1
 have:a0I s.2.2.2.2.2.1*s.2.2.2.2.2.1.length≤32*40:=a86 g h
 omega
theorem b8m(h:s.2.2.2.2.2.1.length≤40)(l:L.length<900000000):a8t (wL L,s)=some (wL (a6r s L)):=by
 have e:=a0V (wrap .u64 (wrap .i64 (((s.2.2.2.2.2.1.length:Nat):Int)-1))) 5 L;have i:=a0V (wrap .u64 s.2.2.2.1) 4 (a0O (wrap .u64 (wrap .i64 (((s.2.2.2.2.2.1.length:Nat):Int)-1))) 5 L);have j:=a0V ((a0I s.2.2.2.2.2.1:Nat):Int) 5 (a0O (wrap .u64 s.2.2.2.1) 4 (a0O (wrap .u64 (wrap .i64 (((s.2.2.2.2.2.1.length:Nat):Int)-1))) 5 L));have k:=a6v s.2.2.2.2.2.1;have f:wrap .u64 ((a0I s.2.2.2.2.2.1:Nat):Int)=((a0I s.2.2.2.2.2.1:Nat):Int):=a0K (by omega);have a:a0H (wL L,wrap .u64 (wrap .i64 (((s.2.2.2.2.2.1.length:Nat):Int)-1)),(5:Int))=some (a8i (wrap .u64 (wrap .i64 (((s.2.2.2.2.2.1.length:Nat):Int)-1))) 5,wL (a0O (wrap .u64 (wrap .i64 (((s.2.2.2.2.2.1.length:Nat):Int)-1))) 5 L)):=a3d (n:=5) (by omega) (by omega);have b:a0H (wL (a0O (wrap .u64 (wrap .i64 (((s.2.2.2.2.2.1.length:Nat):Int)-1))) 5 L),wrap .u64 s.2.2.2.1,(4:Int))=some (a8i (wrap .u64 s.2.2.2.1) 4,wL (a0O (wrap .u64 s.2.2.2.1) 4 (a0O (wrap .u64 (wrap .i64 (((s.2.2.2.2.2.1.length:Nat):Int)-1))) 5 L))):=a3d (n:=4) (by omega) (by omega);have d:a0H (wL (a0O (wrap .u64 s.2.2.2.1) 4 (a0O (wrap .u64 (wrap .i64 (((s.2.2.2.2.2.1.length:Nat):Int)-1))) 5 L)),((a0I s.2.2.2.2.2.1:Nat):Int),(5:Int))=some (a8i ((a0I s.2.2.2.2.2.1:Nat):Int) 5,wL (a0O ((a0I s.2.2.2.2.2.1:Nat):Int) 5 (a0O (wrap .u64 s.2.2.2.1) 4 (a0O (wrap .u64 (wrap .i64 (((s.2.2.2.2.2.1.length:Nat):Int)-1))) 5 L)))):=a3d (n:=5) (by omega) (by omega);have g:=b9G (c:=s.2.2.2.2.2.1) k (by omega) s.2.2.2.2.2.1.length 0 (a0O ((a0I s.2.2.2.2.2.1:Nat):Int) 5 (a0O (wrap .u64 s.2.2.2.1) 4 (a0O (wrap .u64 (wrap .i64 (((s.2.2.2.2.2.1.length:Nat):Int)-1))) 5 L))) (by omega) (by omega);simp at g;unfold a8t;simp only[a,b,a2l (show short s.2.2.2.2.2.1 by unfold short;omega),f,d,g,oB,a6r]
def b2d(s:Sub)(L:List Int):List Int:=
 a0O ((a0I s.2.2.2.2.2.2.2.2.1:Nat):Int) 5 (a0O (wrap .u64 s.2.1) 5 (a0O (wrap .u64 s.1) 3 L))
def a2u(s:Sub)(L:List Int):List Int:=
 if s.1=2 then a0O (wrap .u64 s.2.2.1) 3 L
 else if s.1=3 then a6r s L
 else if s.1=4 then a6r s (a1x 8 s.2.2.2.2.2.2.1 (a0O (wrap .u64 (wrap .i64 (s.2.2.2.2.1-1))) 10 L))
 else if s.1=5 then a2P s.2.2.2.2.2.2.2.1 (a0O (wrap .u64 ((s.2.2.2.2.2.2.2.1.length:Nat):Int)) 2 L)
 else L
theorem c3r(h:SmallS s)(L:List Int):(a2u s L).length≤L.length+3000:=by
 have f:=h.coefs;have k:=h.taps;have g:=h.stages
 grind[a2u,a0V,c2A,a6o,b5p]
theorem b6F:∀(zs:List Nat)(ks l L:List Int),ks.all kB=true→(a4I zs ks l L).length≤L.length+10*zs.length+100*l.length
 |z::zs,k::ks,l,L,h=>by
  simp only[a06,bA]at h;have g:=b7m h.1 (l.take z) L;have f:=b6F zs ks (l.drop z) (a9A k (l.take z) L) h.2;rw[a21]at g;rw[a55]at f;simp only[a4I,lC];omega
 | [],_,_,_,_=>by simp_all[a4I]
 |_::_,[],_,_,_=>by grind[a4I]
def a5e(s:Sub)(zn:List Nat)(L:List Int):List Int:=
 if s.1=0∨s.1=1 then a1x (a0I s.2.2.2.2.2.2.2.2.1) s.2.2.2.2.2.2.2.2.1 (a2u s (b2d s L))
 else a4i s.2.2.2.2.2.2.2.2.2.1 zn s.2.2.2.2.2.2.2.2.2.2.1 (a1x (a0I s.2.2.2.2.2.2.2.2.1) s.2.2.2.2.2.2.2.2.1 (a2u s (b2d s L)))
theorem b5M(h:SmallS s)(R:L.length<100000000):
  ∃(e:Int)(L':List Int),a9M (wL L,s,n)=some (e,wL L')∧(e=0∨L'=L)∧L'.length≤L.length+700000∧
   ((a2j s n).isSome=true→e=0∧∃a,L'=a5e s a L∧(s.1≠0∧s.1≠1→PartsOk s.2.2.2.2.2.2.2.2.2.1 n ((s.2.2.2.2.2.2.2.2.1.length:Nat):Int) s.2.2.2.2.2.2.2.2.2.2.1 a))∧((a2j s n).isSome=false→e=1∧L'=L):=by
 unfold a9M;simp only[b9C h,oB];cases hs:(a2j s n).isSome with
 |false=>exact⟨1,L,rfl,.inr rfl,by omega,fun h=>(by grind),fun _=>⟨rfl,rfl⟩⟩
 |true=>
  have hp:a1s s n:=by
   grind[a2j]
  obtain⟨P,Q,z,-,-,-,-,u,D,A,-,o⟩:=hp;have b:=c7a z;have m:=a6v s.2.2.2.2.2.2.2.2.1;have r:short s.2.2.2.2.2.2.2.2.1:=by have:=h.warm;unfold short;omega
  have c:=h.warm;have q:=h.rest;have B:=h.stages;have C:=h.taps;have q1:=a0V (wrap .u64 s.1) 3 L;have S:=a0V (wrap .u64 s.2.1) 5 (a0O (wrap .u64 s.1) 3 L);have T:=a0V ((a0I s.2.2.2.2.2.2.2.2.1:Nat):Int) 5 (a0O (wrap .u64 s.2.1) 5 (a0O (wrap .u64 s.1) 3 L));have y:wrap .u64 ((a0I s.2.2.2.2.2.2.2.2.1:Nat):Int)=((a0I s.2.2.2.2.2.2.2.2.1:Nat):Int):=a0K (by omega);have H:a0H (wL L,wrap .u64 s.1,(3:Int))=some (a8i (wrap .u64 s.1) 3,wL (a0O (wrap .u64 s.1) 3 L)):=a3d (n:=3) (by omega) (by omega);have I:a0H (wL (a0O (wrap .u64 s.1) 3 L),wrap .u64 s.2.1,(5:Int))=some (a8i (wrap .u64 s.2.1) 5,wL (a0O (wrap .u64 s.2.1) 5 (a0O (wrap .u64 s.1) 3 L))):=a3d (n:=5) (by omega) (by omega);have v:a0H (wL (a0O (wrap .u64 s.2.1) 5 (a0O (wrap .u64 s.1) 3 L)),((a0I s.2.2.2.2.2.2.2.2.1:Nat):Int),(5:Int))=some (a8i ((a0I s.2.2.2.2.2.2.2.2.1:Nat):Int) 5,wL (b2d s L)):=a3d (n:=5) (by omega) (by omega);have K:(b2d s L).length≤L.length+13:=by unfold b2d;omega
  generalize hM:b2d s L=M at v K;have U:=c3r h M;have N:=a6o (a0I s.2.2.2.2.2.2.2.2.1) s.2.2.2.2.2.2.2.2.1 (a2u s M);have V:a0I s.2.2.2.2.2.2.2.2.1*s.2.2.2.2.2.2.2.2.1.length≤32*5000:=a86 m c;have g:=c1L (l:=s.2.2.2.2.2.2.2.2.1) (n:=n) (s:=s) m (by omega) s.2.2.2.2.2.2.2.2.1.length 0 (a2u s M) (by omega) (by omega);simp at g

  have i:=b8l (st:=s.2.2.2.2.2.2.2.1) (n:=n) (wd:=((a0I s.2.2.2.2.2.2.2.2.1:Nat):Int)) (s:=s) (by omega) s.2.2.2.2.2.2.2.1.length 0 (a0O (wrap .u64 ((s.2.2.2.2.2.2.2.1.length:Nat):Int)) 2 M) (by omega) (by grind[a0V]);have X:=a0V (wrap .u64 (wrap .i64 (s.2.2.2.2.1-1))) 10 M;have Y:=a6o 8 s.2.2.2.2.2.2.1 (a0O (wrap .u64 (wrap .i64 (s.2.2.2.2.1-1))) 10 M);have j:=c1K (t:=s.2.2.2.2.2.2.1) (n:=n) (wd:=((a0I s.2.2.2.2.2.2.2.2.1:Nat):Int)) (s:=s) C 3 0 (a0O (wrap .u64 (wrap .i64 (s.2.2.2.2.1-1))) 10 M) (by rfl) (by omega);simp at i j;have E:a0H (wL M,wrap .u64 s.2.2.1,(3:Int))=some (a8i (wrap .u64 s.2.2.1) 3,wL (a0O (wrap .u64 s.2.2.1) 3 M)):=a3d (n:=3) (by omega) (by omega);have F:a0H (wL M,wrap .u64 (wrap .i64 (s.2.2.2.2.1-1)),(10:Int))=some (a8i (wrap .u64 (wrap .i64 (s.2.2.2.2.1-1))) 10,wL (a0O (wrap .u64 (wrap .i64 (s.2.2.2.2.1-1))) 10 M)):=a3d (n:=10) (by omega) (by omega);have G:a0H (wL M,wrap .u64 ((s.2.2.2.2.2.2.2.1.length:Nat):Int),(2:Int))=some (a8i (wrap .u64 ((s.2.2.2.2.2.2.2.1.length:Nat):Int)) 2,wL (a0O (wrap .u64 ((s.2.2.2.2.2.2.2.1.length:Nat):Int)) 2 M)):=a3d (n:=2) (by omega) (by omega);have w:=b8m (s:=s) h.coefs (L:=M) (by omega);have x:=b8m (s:=s) h.coefs (L:=a1x 8 s.2.2.2.2.2.2.1 (a0O (wrap .u64 (wrap .i64 (s.2.2.2.2.1-1))) 10 M)) (by omega);simp only[bT,cF,a2l r,oB,H,I,y,v];generalize hPM:a1x (a0I s.2.2.2.2.2.2.2.2.1) s.2.2.2.2.2.2.2.2.1 (a2u s M)=PM at g N

  have tail:∀(d:s.1≠0∧s.1≠1),∃a,PartsOk s.2.2.2.2.2.2.2.2.2.1 n ((s.2.2.2.2.2.2.2.2.1.length:Nat):Int) s.2.2.2.2.2.2.2.2.2.2.1 a:=fun d=>by
   simp_all[PartsOk.of]
  rcases b with k|k|k|k|k|k;have f:a2u s M=M:=by unfold a2u;grind
  rw[f]at g;refine⟨0,PM,?_,.inl rfl,by omega,fun _=>⟨rfl,[],by simp_all[a5e],fun h=>absurd k (by omega)⟩,fun h=>by grind⟩;simp only[k,show((0:Int)==2)=false from rfl,show((0:Int)==4)=false from rfl,show((0:Int)==3)=false from rfl,show((0:Int)==5)=false from rfl,cF,oB,g,a6u]
  simp
  have f:a2u s M=M:=by unfold a2u;grind
  rw[f]at g;refine⟨0,PM,?_,.inl rfl,by omega,fun _=>⟨rfl,[],by simp_all[a5e],fun h=>absurd k (by omega)⟩,fun h=>by grind⟩;simp only[k,show((1:Int)==2)=false from rfl,show((1:Int)==4)=false from rfl,show((1:Int)==3)=false from rfl,show((1:Int)==5)=false from rfl,cF,oB,g,a6u]
  simp
  all_goals
   obtain⟨a,p⟩:=tail (by omega);have Z:=c3q (L:=PM) p (by omega);have O:(a4i s.2.2.2.2.2.2.2.2.2.1 a s.2.2.2.2.2.2.2.2.2.2.1 PM).length≤L.length+700000:=by
    have z1:=a0V (wrap .u64 s.2.2.2.2.2.2.2.2.2.1.1) 4 PM;have z2:=b6F a s.2.2.2.2.2.2.2.2.2.1.2.1 s.2.2.2.2.2.2.2.2.2.2.1 (a0O (wrap .u64 s.2.2.2.2.2.2.2.2.2.1.1) 4 PM) p.all;have z3:=p.len
    grind[a4i]
   refine⟨0,a4i s.2.2.2.2.2.2.2.2.2.1 a s.2.2.2.2.2.2.2.2.2.2.1 PM,?_,.inl rfl,O,fun _=>⟨rfl,a,by simp_all[a5e],fun _=>p⟩,fun h=>by grind⟩
  have f:a2u s M=a0O (wrap .u64 s.2.2.1) 3 M:=by unfold a2u;grind
  rw[f]at g;simp only[k,show((2:Int)==2)=true from rfl,cT,E,oB,g,a6u]
  grind
  have f:a2u s M=a6r s M:=by unfold a2u;grind
  rw[f]at g;simp only[k,show((3:Int)==2)=false from rfl,show((3:Int)==4)=false from rfl,show((3:Int)==3)=true from rfl,cT,cF,w,oB,g,a6u]
  grind
  have f:a2u s M=a6r s (a1x 8 s.2.2.2.2.2.2.1 (a0O (wrap .u64 (wrap .i64 (s.2.2.2.2.1-1))) 10 M)):=by unfold a2u;grind
  rw[f]at g;simp only[k,show((4:Int)==2)=false from rfl,show((4:Int)==4)=true from rfl,cT,cF,F,j,x,oB,g,a6u]
  grind
  have f:a2u s M=a2P s.2.2.2.2.2.2.2.1 (a0O (wrap .u64 ((s.2.2.2.2.2.2.2.1.length:Nat):Int)) 2 M):=by unfold a2u;grind
  rw[f]at g;simp only[k,show((5:Int)==2)=false from rfl,show((5:Int)==4)=false from rfl,show((5:Int)==3)=false from rfl,show((5:Int)==5)=true from rfl,cT,cF,G,i,oB,g,a6u]
  grind
theorem b4S(h:List Nat):(a1n h).map a25=h:=by
 unfold a1n;rw[List.map_map]
 have:a25∘(fun(a:Nat)=>(a:Int))=id:=by rfl
 simp_all
def a4S(s:Sub)(n:Int):Int:=
 if(a2j s n).isSome=true then(((a5e s ((a1G s.2.2.2.2.2.2.2.2.2.1.1 n ((s.2.2.2.2.2.2.2.2.1.length:Nat):Int)).map a25) []).length:Nat):Int)else 0
theorem c1m(h:s.1≠0∧s.1≠1→PartsOk s.2.2.2.2.2.2.2.2.2.1 n ((s.2.2.2.2.2.2.2.2.1.length:Nat):Int) s.2.2.2.2.2.2.2.2.2.2.1 zn)(L:List Int):
  a5e s zn L=a5e s ((a1G s.2.2.2.2.2.2.2.2.2.1.1 n ((s.2.2.2.2.2.2.2.2.1.length:Nat):Int)).map a25) L:=by
 by_cases hk:s.1=0∨s.1=1
 unfold a5e;rw[if_pos hk,if_pos hk];rw[(h (not_or.1 hk)).sizes,b4S]
theorem c5c(h:SmallS s)(n:Int):a5s (s,n)=some (a4S s n):=by
 obtain⟨e,f,g,-,-,k,a⟩:=b5M h (n:=n) (L:=[]) (by simp);have b:wL []=(([]:List Int),(0:Int),()):=rfl;rw[b]at g;obtain⟨d,-⟩:=a5L f;unfold a5s a4S;simp only[g,oB,a8T];cases hs:(a2j s n).isSome with
 |false=>
  obtain⟨rfl,rfl⟩:=a hs;rfl
 |true=>
  obtain⟨rfl,i,rfl,c⟩:=k hs;rw[if_pos rfl,←c1m c];simp only[d,show((0:Int) != 0)=false from rfl,cF]
def dif:List Int→List Int
 |a::b::r=>W (b-a)::dif (b::r)
 |_=>[]
theorem a5B:∀l:List Int,(dif l).length=l.length-1
 | []=>rfl
 | [_]=>rfl
 |a::b::r=>by simp[dif,a5B (b::r)]
theorem c1n:∀(l:List Int)(i:Nat)(x y:Int),l[i]?=some x→l[i+1]?=some y→(dif l)[i]?=some (W (y-x))
 |a::b::r,0,x,y,h1,h2=>by simp at h1 h2;subst h1;subst h2;rfl
 |a::b::r,i+1,x,y,h1,h2=>by
  simp only[dif,List.getElem?_cons_succ]at h1 h2⊢;exact c1n (b::r) i x y h1 h2
 | [_],0,x,y,h1,h2=>by simp at h2
 | [_],i+1,x,y,h1,h2=>by simp at h1
 | [],i,x,y,h1,h2=>by simp at h1
def a1J:Nat→List Int→List Int
 |0,l=>l
 |o+1,l=>dif (a1J o l)
theorem a5M(l:List Int):∀o,(a1J o l).length=l.length-o
 |0=>rfl
 |o+1=>by simp only[a1J,a5B,a5M l o];omega
theorem b5N(h:short l)(o:Nat):short (a1J o l):=by
 have h:l.length<1000000:=h;show(a1J o l).length<1000000;rw[a5M];omega
def b1a(l:List Int)(i:Nat):List Int:=(dif l).take i++l.drop i
theorem b4T(h:i≤l.length-1):(b1a l i).length=l.length:=by
 simp only[b1a,lN,a21,a55,a5B];omega
theorem c1M{j:Nat}(h:i≤l.length-1)(g:i≤j):(b1a l i).getD j 0=l.getD j 0:=by
 have e:((dif l).take i).length=i:=by rw[a21,a5B];omega
 rw[lD,lD,b1a,a27 (by omega),e,List.getElem?_drop];congr 2;omega
theorem c8n(h:i<l.length-1):(b1a l i).set i (W (l.getD (i+1) 0-l.getD i 0))=b1a l (i+1):=by
 have e:((dif l).take i).length=i:=by rw[a21,a5B];omega
 have f:l[i]?=some l[i]:=lG (by omega);have k:l[i+1]?=some l[i+1]:=lG (by omega);have a:=c1n l i _ _ f k;have g:i<(dif l).length:=by rw[a5B];omega
 simp only[b1a];rw[List.set_append,if_neg (by omega),e,Nat.sub_self,a03 (show i<l.length by omega),List.set_cons_zero,a62 g,aA];have b:(dif l)[i]=W (l.getD (i+1) 0-l.getD i 0):=by
  rw[lG g]at a;rw[Option.some.inj a,lD,lD,f,k];rfl
 rw[b];rfl
theorem c6a{o:Int}(d:short l)(h:1≤l.length):y0m a5n ((0:Int),o,k,l,())=some (o,k,b1a l (l.length-1),()):=by
 have d:l.length<1000000:=d;have r:b1a l 0=l:=by simp[b1a]
 have:=a1w (f:=a5n) (fun i:Nat=>((i:Int),o,k,b1a l i,())) (l.length-1) (b:=(o,k,b1a l (l.length-1),()))
  (fun i hi=>by
   have c:wrap .i64 ((i:Int)+1)=((i+1:Nat):Int):=a0B (by omega);have a:=b4T (l:=l) (i:=i) (by omega);have g:decide (((i+1:Nat):Int)<((l.length:Nat):Int))=true:=by simp;omega
   have e:decide ((0:Int)≤((i+1:Nat):Int))=true:=by simp;omega
   have m:decide ((0:Int)≤(i:Int))=true:=by simp
   have n:decide ((i:Int)<((l.length:Nat):Int))=true:=by simp;omega
   have s:a25 ((i+1:Nat):Int)=i+1:=by omega
   have t:a25 (i:Int)=i:=by omega
   have st:=c8n (l:=l) (i:=i) (by omega);have p:=c1M (l:=l) (i:=i) (j:=i+1) (by omega) (by omega);have q:=c1M (l:=l) (i:=i) (j:=i) (by omega) (by omega);simp only[W]at st;simp only[a5n,c,a,g,e,m,n,s,t,p,q,st,a02,cT])
  (by
   have a:=b4T (l:=l) (i:=l.length-1) (by omega);have c:wrap .i64 (((l.length-1:Nat):Int)+1)=((l.length:Nat):Int):=by rw[a0C (by omega)];omega
   have g:decide (((l.length:Nat):Int)<((l.length:Nat):Int))=false:=by simp
   simp only[a5n,c,a,g,cF])
 simp only[nZ,a09,r]at this;exact this
theorem c7d:(b1a l (l.length-1)).take (l.length-1)=dif l:=by
 have e:(dif l).take (l.length-1)=dif l:=a83 (by rw[a5B];omega);rw[b1a,e,List.take_append_of_le_length (by rw[a5B];omega),e]
theorem b6G(A:o≤4)(z:o≤l.length)(g:short l)(v:l.all a0A=true):
  a4B (l,(o:Int))=some (bif (a1J o l).all a0A then(a1J o l,0)else([],6)):=by
 have u:l.length<1000000:=g;have h:=a1w (f:=a7O) (fun k:Nat=>((o:Int),(k:Int),a1J k l,())) o (b:=(a1J o l,()))
  (fun k y=>by
   have c:1≤(a1J k l).length:=by rw[a5M];omega
   have s:(a1J k l).length<1000000:=b5N g k;have a:decide ((k:Int)<(o:Int))=true:=by simp;omega
   have t:=b4T (l:=a1J k l) (i:=(a1J k l).length-1) (by omega);have x:wrap .i64 ((((a1J k l).length:Nat):Int)-1)=(((a1J k l).length-1:Nat):Int):=by rw[a0C (by omega)];omega
   have w2:wrap .i64 ((k:Int)+1)=((k+1:Nat):Int):=a0B (by omega);have n:decide ((0:Int)≤(((a1J k l).length-1:Nat):Int))=true:=by simp
   have p:decide ((((a1J k l).length-1:Nat):Int)≤(((a1J k l).length:Nat):Int))=true:=by simp
   have q:decide ((a1J k l).length-1≤(a1J k l).length)=true:=by simp
   have w:a25 (((a1J k l).length-1:Nat):Int)=(a1J k l).length-1:=by omega
   simp only[a7O,a,cT,c6a (b5N g k) c,oB,t,x,w2,n,p,q,w,a02,c7d,a1J])
  (by
   have a:decide ((o:Int)<(o:Int))=false:=by simp
   simp only[a7O,a,cF])
 have d:decide ((o:Int)<0)=false:=by simp
 have e:decide ((o:Int) > 4)=false:=by simp;omega
 have j:decide (((l.length:Nat):Int)<(o:Int))=false:=by simp;omega
 have m:lim l.length=true:=a0S (by omega);simp only[nZ,a09]at h;have r:a1J 0 l=l:=rfl;rw[r]at h;unfold a4B;simp only[d,e,j,m,cF,cT,oB,a7n g,v,bT,h,a7n (b5N g o)];cases (a1J o l).all a0A<;>rfl
def ex:Nat→(Nat→Int)→Nat→Int
 |0,f,i=>f i
 |o+1,f,i=>ex o f (i+1)-ex o f i
theorem b8O{l:List Int}(g:l.all a0A=true):∀(o i:Nat),i+o<l.length→(a1J o l)[i]?=some (W (ex o (fun j=>l.getD j 0) i))
 |0,i,h=>by
  have h:i<l.length:=by omega
  have e:l.getD i 0=l[i]:=by simp[lD,h]
  simp only[a1J,ex,e];rw[lG h,b7j (lA.1 g _ (a07 h))]
 |o+1,i,h=>by
  have f:=b8O g o i (by omega);have k:=b8O g o (i+1) (by omega);simp only[a1J,ex];rw[c1n _ i _ _ f k];simp only[W,a8g,Int.sub_bmod_bmod,Int.bmod_sub_bmod]
theorem c7e(p:l.all a0A=true){j:Nat}(s:o≤4)(h:o+j<l.length):W (W (ex o (fun j=>l.getD j 0) j)+a4G o (l.take (o+j)))=l.getD (o+j) 0:=by
 have a:a0A (l.getD (o+j) 0)=true:=by
  have e:l.getD (o+j) 0=l[o+j]:=by simp[lD,h]
  rw[e];exact lA.1 p _ (a07 h)
 have g:∀i:Nat,1≤i→i≤o→atB (l.take (o+j)) i=l.getD (o+j-i) 0:=fun i q r=>by
  simp only[atB,a21,a84 (a96 h),lD,List.getElem?_take];rw[if_pos (by omega)]
 have d:ex o (fun j=>l.getD j 0) j+a4G o (l.take (o+j))=l.getD (o+j) 0:=by
  have n:o=0∨o=1∨o=2∨o=3∨o=4:=by omega
  rcases n with rfl|rfl|rfl|rfl|rfl;simp[ex,a4G];simp only[ex,a4G,g 1 (by omega) (by omega)];have f:1+j-1=j:=by omega
  have k:j+1=1+j:=by omega
  rw[f,k];omega;simp only[ex,a4G,g 1 (by omega) (by omega),g 2 (by omega) (by omega)];have f:2+j-1=j+1:=by omega
  have k:2+j-2=j:=by omega
  have b:j+1+1=2+j:=by omega
  rw[f,k,b];omega;simp only[ex,a4G,g 1 (by omega) (by omega),g 2 (by omega) (by omega),g 3 (by omega) (by omega)];have f:3+j-1=j+1+1:=by omega
  have k:3+j-2=j+1:=by omega
  have b:3+j-3=j:=by omega
  have c:j+1+1+1=3+j:=by omega
  rw[f,k,b,c];omega;simp only[ex,a4G,g 1 (by omega) (by omega),g 2 (by omega) (by omega),g 3 (by omega) (by omega),g 4 (by omega) (by omega)];have f:4+j-1=j+1+1+1:=by omega
  have k:4+j-2=j+1+1:=by omega
  have b:4+j-3=j+1:=by omega
  have c:4+j-4=j:=by omega
  have m:j+1+1+1+1=4+j:=by omega
  rw[f,k,b,c,m];omega
 have:W (W (ex o (fun j=>l.getD j 0) j)+a4G o (l.take (o+j)))=W (ex o (fun j=>l.getD j 0) j+a4G o (l.take (o+j))):=by
  simp only[W,a8g,Int.bmod_add_bmod]
 rw[this,d,b7j a]
theorem c3s{l:List Int}(f:l.all a0A=true){o:Nat}(b:o≤4):∀(k j:Nat),o+j+k=l.length→a4a (a4G o) ((a1J o l).drop j) (l.take (o+j))=some l
 |0,j,h=>by
  rw[List.drop_of_length_le (by rw[a5M];omega),a83 (by omega)];rfl
 |k+1,j,h=>by
  have g:j<(a1J o l).length:=by rw[a5M];omega
  have a:=b8O f o j (by omega);rw[lG g]at a;have e:=Option.some.inj a;have c:l.getD (o+j) 0=l[o+j]:=by simp[lD,show o+j<l.length by omega]
  have st:=c7e f b (show o+j<l.length by omega);rw[c]at st;rw[a03 g,e];simp only[a4a,st,lA.1 f _ (a07 (show o+j<l.length by omega)),cT];have d:l.take (o+j)++[l[o+j]]=l.take (o+(j+1)):=by
   rw[show o+(j+1)=(o+j)+1 by omega]
   simp
  rw[d];exact c3s f b k (j+1) (by omega)
theorem a7z{σ β:Type}{f:σ→Option (σ ⊕ β)}(I:Nat→σ→Prop)(Q:β→Prop)(n:Nat)(a:∀i s,i<n→I i s→∃s',f s=some (.inl s')∧I (i+1) s')
  (g:∀s,I n s→∃b,f s=some (.inr b)∧Q b):∀(k i:Nat)(s:σ),i+k=n→I i s→∃b,y0m f s=some b∧Q b
 |0,i,s,h,hi=>by
  obtain rfl:i=n:=by omega
  obtain⟨b,c,d⟩:=g s hi;exact⟨b,a0E c,d⟩
 |k+1,i,s,h,hi=>by
  obtain⟨s',c,d⟩:=a i s (by omega) hi;rw[a0F c];exact a7z I Q n a g k (i+1) s' (by omega) d
theorem b8n(y:Int):0≤wrap .u64 y∧wrap .u64 y<18446744073709551616:=by
 simp only[wrap,IntKind.bits,IntKind.signed]
 simp
 omega
def b2e(n:Int)(x:Int):Bool:=a0A x&&!(a31 x (A0h .i64 1 n) != 0)
def b5O{β:Type}(n:Int)(bad:β)(out:List Int)(x:Int):List Int ⊕ β:=bif b2e n x then .inl (out++[A0i .i64 x n])else .inr bad
def b1b(n:Int)(l:List Int):Option (List Int):=bif l.all (b2e n)then some (l.map fun x=>A0i .i64 x n)else none
theorem b6H{β:Type}(n:Int)(h:β)(g:List Int→β):∀(l out:List Int),a8V g (a2K (b5O n h) l out)=match b1b n l with|some r=>g (out++r)|none=>h
 | [],out=>by simp[a2K,a8V,b1b]
 |x::l,out=>by
  simp only[a2K,b5O,b1b,a06];cases hx:b2e n x with
  |true=>
   simp only[cT,a43];rw[b6H n h g l _];simp only[b1b];cases l.all (b2e n)with
   |true=>simp
   |false=>rfl
  |false=>rfl
theorem c3t{o:Nat}(h:o≤30):A0h .i64 1 (o:Int)=((2^o:Nat):Int):=by
 have g:2^o≤2^30:=a16 (by omega) h
 have:=b8L (N:=1) (o:=o) (by omega) (by omega)
 simpa using this
theorem b5q(m:o≤30)(q:l.length<100000):a7h (l,(o:Int))=some (a4V (b1b (o:Int) l)):=by
 have n:short l:=by unfold short;omega
 have k:¬ (o:Int)<0:=by omega
 have e:¬ (o:Int) > 30:=by omega
 have j:(A0h .i64 (1:Int) (o:Int)==0)=false:=by
  rw[c3t m]
  have:0<2^o:=a18 o
  simp only[beq_eq_false_iff_ne,ne_eq];omega
 unfold a7h;simp only[k,e,decide_false,cF,oB]
 have:=a1P (f:=a6J) l (fun i out=>((o:Int),l,(l.length:Int),(i:Int),out,())) (b5O (o:Int) (Sum.inr ((6:Int),([]:List Int),())))
  (fun i out=>out.length=i) (fun out=>Sum.inl (out,()))
  (fun i h out p=>by
   have c:i<1000000:=by omega
   simp only[a6J,dlt h,cT,a0D h,oB,b5i,b5O,b2e,k,j,decide_false,cF];cases hb:a0A l[i]with
   |true=>
    cases hb2:(a31 l[i] (A0h .i64 1 (o:Int)) != 0)with
    |false=>
     simp only[cT,bT,cF,oB,k,decide_false,a0U (show out.length+1<1000000 by omega),a0B c,a02,a46,hb2];refine⟨fun d g=>?_,fun b hb=>(by cases hb)⟩;simp only[Sum.inl.injEq]at g;subst g;exact⟨rfl,by simp;omega⟩
    |true=>
     refine⟨fun d g=>(by simp at g),fun b hb=>?_⟩;simp only[a43,bT,cF,Sum.inr.injEq]at hb;subst hb;simp[hb2]
   |false=>
    refine⟨fun d g=>(by simp at g),fun b hb=>?_⟩;simp only[Bool.false_and,cF,Sum.inr.injEq]at hb;subst hb;rfl)
  (fun out _=>by simp[a6J]) (a:=[]) rfl
 simp only[nZ,b6H,a05]at this;rw[this];cases b1b (o:Int) l<;>rfl
theorem b8P(h:o≤30)(k:b2e (o:Int) x=true):a0A (A0i .i64 x (o:Int))=true∧A0h .i64 (A0i .i64 x (o:Int)) (o:Int)=x∧a0A x=true:=by
 simp only[b2e,c3t h,bA,a24,bne_eq_false_iff_eq]at k;obtain⟨f,d⟩:=k;obtain⟨c,rfl⟩:=Int.dvd_of_tmod_eq_zero d;have g:=a1D.1 f;have e:min (a25 (o:Int)) (IntKind.bits .i64)=o:=by simp only[tN,IntKind.bits];omega
 have hp:(0:Int)<2^o:=Int.pow_pos (by omega);have b:((2^o:Nat):Int)=2^o:=by simp
 rw[b]at g f⊢;have a:A0i .i64 (2^o*c) (o:Int)=c:=by
  unfold A0i;rw[e];exact a75 _ (by omega)
 rw[a];refine⟨a1D.2 ?_,?_,f⟩;generalize (2:Int)^o=p at hp g;have i:p*c=(p-1)*c+c:=by rw[b06];omega
 by_cases hc:0≤c
 have:=a59 (show 0≤p-1 by omega) hc
 omega
 have:=a59 (show 0≤p-1 by omega) (show 0≤-c by omega)
 rw[Int.mul_neg]at this;omega;unfold A0h;rw[e,a80];exact a0C (by omega)
theorem d0U(h:o≤30)(f:b1b (o:Int) l=some d):d.all a0A=true∧d.length=l.length∧upO (o:Int) d=some l:=by
 unfold b1b at f;cases ha:l.all (b2e (o:Int))with
 |false=>rw[ha]at f;cases f
 |true=>
  rw[ha]at f;simp only[cT,sj]at f;subst f;have g:=lA.1 ha;refine⟨?_,by simp,?_⟩;simp only[List.all_map];exact lA.2 fun x k=>(b8P h (g x k)).1;have a:(l.map fun x=>A0i .i64 x (o:Int)).all (fun x=>a0A x&&a0A (A0h .i64 x (o:Int)))=true:=by
   simp only[List.all_map];refine lA.2 fun x k=>?_
   obtain⟨c,e,i⟩:=b8P h (g x k);simp only[Function.comp,c,e,i,a02]
  unfold upO;rw[a];simp only[cT,sj,List.map_map];have b:l.map ((fun x=>A0h .i64 x (o:Int))∘fun x=>A0i .i64 x (o:Int))=l.map id:=List.map_congr_left (fun x k=>(b8P h (g x k)).2.1);rw[b,List.map_id]
theorem c6b{n warm:Int}(h:a6n n warm=true):(a1G 0 n warm).length≠0:=by
 have g:=h;simp only[a6n,bA,dT]at g;unfold a1G b5k;have e:((n.toNat / 2^(0:Int).toNat:Nat):Int)=n:=by simp;omega
 have f:n.toNat%2^(0:Int).toNat=0:=by simp;omega
 simp only[h,e,f];simp[g.2.2.2]
theorem a8k{N n:Nat}(g:n≤63)(h:N<2^n)(L:List Int):(a0O (N:Int) n L).length=L.length+n:=by
 grind[a0O,a6w,a78,b4o]
def a5C(k:Nat)(x:Int):Nat:=if a0P x / 2^k<32 then a0P x / 2^k+1+k else 65
theorem c3u{k:Nat}(h:k≤25)(x:Int):a5C k x≤65:=by
 grind[a5C]
theorem c7f{k:Nat}(a:k≤25)(g:a0A x=true)(L:List Int):(a6Q k x L).length=L.length+a5C k x:=by
 unfold a6Q a5C;have hp:0<2^k:=a18 k;have h:a0P x%2^k<2^k:=a50 _ hp;have f:=a9G g;split;rw[a8k (by omega) h,b0X];omega
 grind[a8k,b0X]
theorem b9H{k:Nat}(g:k≤25):∀(l L:List Int),l.all a0A=true→(a4H k l L).length=L.length+(l.map (a5C k)).sum
 | [],L,_=>by rfl
 |x::l,L,h=>by
  simp only[a06,bA]at h;have e:a4H k (x::l) L=a4H k l (a6Q k x L):=rfl;rw[e,b9H g l _ h.2,c7f g h.1,List.map_cons,a74];omega
theorem c3v{k:Nat}(c:k≤25)(g:a0A x=true):a7w ((k:Int),x)=some ((a5C k x:Nat):Int):=by
 have d:=a9G g;have f:A0i .u64 ((a0P x:Nat):Int) (k:Int)=((a0P x / 2^k:Nat):Int):=a6w (by omega);have a:wrap .i64 ((a0P x / 2^k:Nat):Int)=((a0P x / 2^k:Nat):Int):=b3P (a49 (a40 _ _) d);have h:decide ((k:Int)<0)=false:=by simp
 unfold a7w a5C;simp only[a8X c,b0Y,g,oB,bT,cF,b0Z g,h,f,a];generalize a0P x / 2^k=q
 by_cases hq:q<32
 have b:decide ((q:Int)<32)=true:=decide_eq_true (by omega);simp only[b,cT,if_pos hq]
 grind[a0C]
 grind
theorem c3w{f:Int→Nat}{M:Nat}(h:∀x,f x≤M):∀l:List Int,(l.map f).sum≤M*l.length
 | []=>by simp
 |x::l=>by
  have:=h x
  have:=c3w h l
  rw[List.map_cons,a74,lC,b05,a85];omega
theorem c3x{f:Int→Nat}{l:List Int}{i:Nat}(h:i<l.length):((l.take (i+1)).map f).sum=((l.take i).map f).sum+f l[i]:=by
 rw[a62 h,pA,List.sum_append];rfl
theorem b8o{k:Nat}(g:k≤25)(c:l.all a0A=true)(d:l.length<10000):a3j ((k:Int),l)=some (((l.map (a5C k)).sum:Nat):Int):=by
 have:=a1w (f:=a3L) (fun i:Nat=>((k:Int),((((l.take i).map (a5C k)).sum:Nat):Int),l,(l.length:Int),(i:Int),())) l.length (b:=((((l.map (a5C k)).sum:Nat):Int),()))
  (fun i hi=>by
   have a:=c3v g (lA.1 c _ (a07 hi));have h:=c3w (c3u g) (l.take (i+1));rw[c3x hi]at h;rw[a21]at h;have e:wrap .i64 (((((l.take i).map (a5C k)).sum:Nat):Int)+((a5C k l[i]:Nat):Int))=((((l.take (i+1)).map (a5C k)).sum:Nat):Int):=by
    grind[c3x,a0C]
   simp only[a3L,dlt hi,cT,a0D hi,oB,a,e,a0B (show i<1000000 by omega)])
  (by simp_all[a3L])
 unfold a3j;simp_all
theorem c8o(x:Int){n:Nat}(f:n≤62):∃N:Nat,a0T x n=(N:Int)∧N<2^n:=by
 obtain⟨h,g⟩:=b8n x;obtain⟨y,k⟩:=a01 h;have hp:0<2^n:=a18 n;refine⟨y%2^n,?_,a50 _ hp⟩
 grind[a0T,c3o]
theorem b4q{n:Nat}(h:n≤62):∀(l L:List Int),(a1x n l L).length=L.length+n*l.length
 | [],L=>by rfl
 |x::l,L=>by
  have e:a1x n (x::l) L=a1x n l (a0O (a0T x n) n L):=rfl;obtain⟨N,g,f⟩:=c8o x h;rw[e,b4q h l,g,a8k (by omega) f,lC,b05,a85];omega
theorem d2k{x:Int}(h:a0A x=true):a1d x ((31:Nat):Int)=true:=by
 have:=a1D.1 h
 have g:A0h .i64 (-1) (((31:Nat):Int)-1)=-1073741824:=by rfl
 have f:wrap .i64 (A0h .i64 1 (((31:Nat):Int)-1)-1)=1073741823:=by rfl
 unfold a1d
 grind
theorem b9I{x:Int}(h:a0A x=true):∀(k w:Nat),w+k=32→1≤k→a1H x k w≤31
 |k+1,w,hk,_=>by
  simp[a1H]
  by_cases h31:w=31
  grind[d2k]
  ·cases (x != 0)&&!a1d x w with
   |true=>exact b9I h k (w+1) (by omega) (by omega)
   |false=>grind
theorem b4r:∀(l:List Int)(w:Nat),l.all a0A=true→w≤31→l.foldl (fun w x=>a1H x (32-w) w) w≤31
 | [],w,_,h=>h
 |x::l,w,hl,h=>by
  simp only[a06,bA]at hl;exact b4r l _ hl.2 (b9I hl.1 (32-w) w (by omega) (by omega))
theorem a1T{l:List Int}(h:l.all a0A=true):a0I l≤31:=b4r l 0 h (by omega)
theorem b3Q(g:l.length<10000):a5H l=some (((5+a0I l*l.length:Nat)):Int):=by
 have h:=a6v l;have f:a0I l*l.length≤32*l.length:=a30 _ h;unfold a5H;simp only[a2l (show short l by unfold short;omega),oB]
 grind[a0C]
def b2f(k:Int)(part:List Int):Nat:=5+(if k=31 then 5+a0I part*part.length else(part.map (a5C k.toNat)).sum)
def a5D:List Nat→List Int→List Int→Nat
 |z::zs,k::ks,l=>b2f k (l.take z)+a5D zs ks (l.drop z)
 |_,_,_=>0
theorem a2m{q:Nat}(h:q<2147483648):wrap .u64 (q:Int)=(q:Int):=a0K (by omega)
theorem c7g(h:kB k=true)(g:part.all a0A=true)(L:List Int):(a9A k part L).length=L.length+b2f k part:=by
 simp[kB]at h;obtain⟨K,rfl⟩:=a01 (show 0≤k by omega)
 grind[a8k,a1T,a9A,b2f,a2m,b4q,b9H]
theorem b9J:∀(zs:List Nat)(ks l L:List Int),ks.all kB=true→l.all a0A=true→(a4I zs ks l L).length=L.length+a5D zs ks l
 |z::zs,k::ks,l,L,h,hw=>by
  simp only[a06,bA]at h;have g:(l.take z).all a0A=true:=lA.2 fun x a=>lA.1 hw x (a44 a);have f:(l.drop z).all a0A=true:=lA.2 fun x a=>lA.1 hw x (a45 a);simp only[a4I,a5D];rw[b9J zs ks _ _ h.2 f,c7g h.1 g];omega
 | [],_,_,_,_,_=>by rfl
 |_::_,[],_,_,_,_=>by rfl
theorem c8p(h:kB k=true)(part:List Int):b2f k part≤10+65*part.length:=by
 simp[kB]at h;unfold b2f;split;have g:a0I part*part.length≤32*part.length:=a30 _ (a6v part);omega
 have:=c3w (c3u (k:=k.toNat) (by omega)) part
 omega
theorem b3R{zn:List Nat}{p:Prt}(E:p.2.1.length=zn.length)(a:p.2.1.all kB=true)(F:zn.length≤256):∀(j i:Nat)(l:List Int)(c:Nat),i+j=zn.length→(zn.drop i).sum=l.length→l.all a0A=true→l.length≤5000→c+10*j+65*l.length<1000000→
  y0m a1t (l,(c:Int),(zn.length:Int),(i:Int),a1n zn,p,())=some (((c+a5D (zn.drop i) (p.2.1.drop i) l:Nat):Int),())
 |0,i,l,c,hi,_,_,_,_=>by
  obtain rfl:i=zn.length:=by omega
  grind[a0E,a1t,a5D]
 |j+1,i,l,c,hi,hsum,hw,hl5,hb=>by
  have h:i<zn.length:=by omega
  have f:i<p.2.1.length:=by omega
  have o:=lA.1 a _ (a07 f);rw[b5L h]at hsum;have z:decide ((0:Int)≤(i:Int))=true:=by simp
  have A:decide ((i:Int)<(((a1n zn).length:Nat):Int))=true:=by simp_all[a1u]
  have B:decide ((0:Int)≤((zn[i]:Nat):Int))=true:=by simp
  have C:decide (((zn[i]:Nat):Int)≤((l.length:Nat):Int))=true:=by grind
  have d:(l.take zn[i]).length=zn[i]:=by simp_all
  have e:(l.drop zn[i]).length=(zn.drop (i+1)).sum:=by grind
  have v:(l.take zn[i]).all a0A=true:=lA.2 fun x y=>lA.1 hw x (a44 y);have w:(l.drop zn[i]).all a0A=true:=lA.2 fun x y=>lA.1 hw x (a45 y);have g:=c8p o (l.take zn[i]);rw[d]at g;have n:a1t (l,(c:Int),(zn.length:Int),(i:Int),a1n zn,p,())=some (.inl (l.drop zn[i],((c+b2f p.2.1[i] (l.take zn[i]):Nat):Int),(zn.length:Int),((i+1:Nat):Int),a1n zn,p,())):=by
   by_cases h31:p.2.1[i]=31
   have b:(p.2.1[i]==31)=true:=by simp_all
   have m:=b3Q (l:=l.take zn[i]) (by omega);have u:b2f p.2.1[i] (l.take zn[i])=5+(5+a0I (l.take zn[i])*(l.take zn[i]).length):=by simp_all[b2f]
   rw[u]at g⊢;generalize 5+a0I (l.take zn[i])*(l.take zn[i]).length=r at m g⊢;have s:wrap .i64 (5+(r:Int))=5+(r:Int):=a0C (by omega);have t:wrap .i64 ((c:Int)+(5+(r:Int)))=((c+(5+r):Nat):Int):=by grind[a0C]
   simp only[a1t,dlt h,z,A,a8j h,B,C,cT,a02,tN,a0D f,oB,b,m,s,t,a20,a0B (show i<1000000 by omega)];have b:(p.2.1[i]==31)=false:=by simp_all
   have q:=o;simp[kB]at q;obtain⟨K,D⟩:=a01 (show 0≤p.2.1[i]by omega);have m:=b8o (k:=K) (by omega) v (by omega);have u:b2f p.2.1[i] (l.take zn[i])=5+((l.take zn[i]).map (a5C K)).sum:=by simp_all[b2f]
   rw[←D]at m;rw[u]at g⊢;generalize ((l.take zn[i]).map (a5C K)).sum=r at m g⊢;have s:wrap .i64 (5+(r:Int))=5+(r:Int):=a0C (by omega);have t:wrap .i64 ((c:Int)+(5+(r:Int)))=((c+(5+r):Nat):Int):=by grind[a0C]
   simp only[a1t,dlt h,z,A,a8j h,B,C,cT,cF,a02,tN,a0D f,oB,b,m,s,t,a20,a0B (show i<1000000 by omega)]
  rw[a0F n,b3R E a F j (i+1) (l.drop zn[i]) _ (by omega) e.symm w (by omega) (by omega)];rw[a03 h,a03 f]
  grind[a5D]
theorem c2B(h:PartsOk p n warm l zn):a4y (p,n,warm,l)=some ((4+a5D zn p.2.1 l:Nat):Int):=by
 have f:Go.Ab.short p.2.1:=by have:=h.ks;have:=h.len;unfold Go.Ab.short;omega
 have k:=h.short;have a:=h.len;have g:=b3R h.ks h.all h.len zn.length 0 l 4 (by omega) (by rw[a23];exact h.sum) h.wide h.short (by omega);simp only[nZ,a09,a23]at g;unfold a4y;simp only[b3L f,h.may,b1x h.row h.rest h.wide h.short,oB,bT,cF,a1Y,h.sizes,a1u,g]
theorem c2C(h:PartsOk p n warm l zn)(L:List Int):(a4i p zn l L).length=L.length+(4+a5D zn p.2.1 l):=by
 obtain⟨o,g⟩:=a01 h.order.1;have f:=h.order.2;unfold a4i;rw[b9J _ _ _ _ h.all h.wide,g,a2m (by omega),a8k (by omega) (by omega)];omega
def a1M(o:Int):Sub:=((0:Int),(0:Int),o,(0:Int),(0:Int),([]:List Int),a00 3 (0:Int),([]:List Stg),([]:List Int),((0:Int),([]:List Int),()),([]:List Int),())
theorem c4G(o:Int):SmallS (a1M o):=⟨by simp[a1M],by simp[a1M],by simp[a1M],by simp[a1M],by simp[a1M],by simp[a1M]⟩
theorem c6c(h:-1048576≤x∧x≤1048575):v0n (v0m x (-1048576)) 1048575=x:=by
 unfold v0n v0m;have g:decide ((-1048576:Int) > x)=false:=decide_eq_false (by omega);have f:decide ((1048575:Int)<x)=false:=decide_eq_false (by omega);simp only[g,cF,f]
theorem d4l(h:a0A x=true):-1048576≤A0i .i64 x ((10:Nat):Int)∧A0i .i64 x ((10:Nat):Int)≤1048575:=by
 have g:=a1D.1 h;have e:A0i .i64 x ((10:Nat):Int)=x / 1024:=by
  show a93 x 1024=_;exact a39 _ (by decide)
 rw[e];omega
theorem c1N{x:Int}(f:a0A x=true){a l:List Int}{n i:Int}:∀(k s:Nat),s+k=10→∃s':Nat,s'≤10∧y0m a3t (a,(s:Int),x,l,n,i,())=some (a,(s':Int),l,n,i,())
 |0,s,h=>by
  obtain rfl:s=10:=by omega
  have g:decide (((10:Nat):Int)<0)=false:=by decide
  have d:=c6c (d4l f);refine⟨10,a34 _,a0E ?_⟩;simp only[a3t,g,cF,a2A,oB,d,bne_self_eq_false]
 |k+1,s,h=>by
  have g:decide ((s:Int)<0)=false:=decide_eq_false (by omega);cases hc:(v0n (v0m (A0i .i64 x (s:Int)) (-1048576)) 1048575 != A0i .i64 x (s:Int))with
  |false=>exact⟨s,by omega,a0E (by simp only[a3t,g,cF,a2A,oB,hc])⟩
  |true=>
   obtain⟨s',b,c⟩:=c1N f (a:=a) (l:=l) (n:=n) (i:=i) k (s+1) (by omega);refine⟨s',b,?_⟩;rw[a0F (s':=(a,((s+1:Nat):Int),x,l,n,i,())) (by simp only[a3t,g,cF,a2A,oB,hc,cT,a0B (show s<1000000 by omega)])];exact c
theorem c4H(x:l.all a0A=true)(z:l.length<100000):∃r,a7P l=some r∧r.length=l.length:=by
 obtain⟨b,q,s,y,w⟩:=a7z (f:=a5o) (fun i st=>∃s:Nat,s≤10∧st=(l,(s:Int),l,(l.length:Int),(i:Int),())) (fun b=>∃s:Nat,s≤10∧b=(l,(s:Int),())) l.length
  (fun i st hi h=>by
   obtain⟨s,t,rfl⟩:=h;obtain⟨s',m,e⟩:=c1N (lA.1 x _ (a07 hi)) (a:=l) (l:=l) (n:=(l.length:Int)) (i:=(i:Int)) (10-s) s (by omega);exact⟨_,by simp only[a5o,dlt hi,cT,a0D hi,oB,e,a0B (show i<1000000 by omega)]<;>rfl,s',m,rfl⟩)
  (fun st h=>by
   obtain⟨s,t,rfl⟩:=h;exact⟨_,by simp only[a5o,dge,cF]<;>rfl,s,t,rfl⟩) l.length 0 _ (by omega) ⟨0,by omega,rfl⟩
 subst w;obtain⟨c,p,o,u,v⟩:=a7z (f:=a5p) (fun i st=>∃o:List Int,st=((s:Int),l,(l.length:Int),(i:Int),o,())∧o.length=l.length) (fun b=>∃o:List Int,b=(o,())∧o.length=l.length) l.length
  (fun i st hi h=>by
   obtain⟨o,rfl,j⟩:=h;have g:decide ((s:Int)<0)=false:=decide_eq_false (by omega);have k:decide ((0:Int)≤(i:Int))=true:=by simp
   have d:decide ((i:Int)<((o.length:Nat):Int))=true:=decide_eq_true (by omega);exact⟨_,by simp only[a5p,dlt hi,cT,a0D hi,oB,g,cF,k,d,a02,a0B (show i<1000000 by omega)]<;>rfl,_,rfl,by simp[j]⟩)
  (fun st h=>by
   obtain⟨o,rfl,j⟩:=h;exact⟨_,by simp only[a5p,dge,cF]<;>rfl,o,rfl,j⟩) l.length 0 _ (by omega) ⟨a00 l.length 0,rfl,by simp⟩
 subst u;refine⟨o,?_,v⟩;have g:decide ((0:Int)≤((l.length:Nat):Int))=true:=by simp
 have k:decide (((l.length:Nat):Int)≤((l.length:Nat):Int))=true:=by simp
 have d:lim l.length=true:=a0U (by omega);simp only[nZ]at q p;unfold a7P;simp only[q,oB,g,k,d,tN,a02,cT,p]
theorem b9K:∀(N:Nat)(num den:Int),den.toNat≤N→∃a b,y0m a3n (num,den,())=some (a,b,())
 |N,num,den,h=>by
  by_cases hd:den≥1099511627776
  ·have g:decide (den≥(1099511627776:Int))=true:=decide_eq_true hd;have e:A0i .i64 den 1=den / 2:=by
    show a93 den 2=_;exact a39 _ (by decide)
   rw[a0F (s':=(A0i .i64 num 1,den / 2,())) (by simp only[a3n,g,cT,e])]
   match N with
   |0=>omega
   |N+1=>exact b9K N _ _ (by omega)
  have g:decide (den≥(1099511627776:Int))=false:=decide_eq_false hd;exact⟨num,den,a0E (by simp only[a3n,g,cF])⟩
theorem b9L{f g:List Int}(t:1≤m)(r:g.length=f.length)(s:f.length<100000)(q:m<1000):∃k,a4N (f,g,(m:Int))=some k:=by
 obtain⟨b,n,d,den,o⟩:=a7z (f:=a3m) (fun i st=>∃d den:Int,st=(f,g,d,den,((m+i:Nat):Int),())) (fun b=>∃d den:Int,b=(d,den,())) (f.length-m)
  (fun i st hi h=>by
   obtain⟨d,den,rfl⟩:=h;have j:m+i<f.length:=by omega
   have e:wrap .i64 (((m+i:Nat):Int)-1)=((m+i-1:Nat):Int):=by rw[a0C (by omega)];omega
   exact⟨_,by simp only[a3m,dlt j,cT,a0D j,e,a0D (show m+i-1<g.length by omega),oB,a0B (show m+i<1000000 by omega)]<;>rfl,_,_,rfl⟩)
  (fun st h=>by
   obtain⟨d,den,rfl⟩:=h;have l:decide (((m+(f.length-m):Nat):Int)<((f.length:Nat):Int))=false:=decide_eq_false (by omega);exact⟨_,by simp only[a3m,l,cF]<;>rfl,_,_,rfl⟩) (f.length-m) 0 (f,g,0,0,(m:Int),()) (by omega) ⟨0,0,rfl⟩
 subst o;obtain⟨a,c,p⟩:=b9K den.toNat d den (a34 _);unfold a4N;simp only[n,oB,p];cases hc:(c==0)with
 |true=>exact⟨0,rfl⟩
 |false=>
  simp only[cF];cases decide ((A0h .i64 a 15).tmod c<0)<;>exact⟨_,rfl⟩
theorem c2D{f g:List Int}{order:Int}(x:1≤m)(u:g.length=f.length)(w:f.length<100000)(v:m<1000):
  ∃f' a:List Int,y0m a3b (order,(m:Int),k,((f.length:Nat):Int)-1,f,g,ks,())=some (order,(m:Int),f',a,ks,())∧f'.length=f.length∧a.length=f.length:=by
 obtain⟨b,l,f',a,s,t⟩:=a7z (f:=a3b) (fun i st=>∃f' a:List Int,st=(order,(m:Int),k,((f.length:Nat):Int)-1-(i:Int),f',a,ks,())∧f'.length=f.length∧a.length=f.length)
  (fun b=>∃f' a:List Int,b=(order,(m:Int),f',a,ks,())∧f'.length=f.length∧a.length=f.length) (f.length-m)
  (fun i st hi h=>by
   obtain⟨f',a,rfl,c,d⟩:=h;have j:decide (((f.length:Nat):Int)-1-(i:Int)≥(m:Int))=true:=decide_eq_true (by omega);have n:decide ((0:Int)≤((f.length:Nat):Int)-1-(i:Int))=true:=decide_eq_true (by omega);have o:decide (((f.length:Nat):Int)-1-(i:Int)<((f'.length:Nat):Int))=true:=decide_eq_true (by omega);have p:decide (((f.length:Nat):Int)-1-(i:Int)<((a.length:Nat):Int))=true:=decide_eq_true (by omega);have e:wrap .i64 (((f.length:Nat):Int)-1-(i:Int)-1)=((f.length:Nat):Int)-1-((i+1:Nat):Int):=by rw[a0C (by omega)];omega
   have q:decide ((0:Int)≤((f.length:Nat):Int)-1-((i+1:Nat):Int))=true:=decide_eq_true (by omega);have r:decide (((f.length:Nat):Int)-1-((i+1:Nat):Int)<((a.length:Nat):Int))=true:=decide_eq_true (by omega);exact⟨_,by simp only[a3b,j,n,o,p,e,q,r,cT,a02,a2A,oB]<;>rfl,_,_,rfl,by simp[c],by simp[d]⟩)
  (fun st h=>by
   obtain⟨f',a,rfl,c,d⟩:=h;have j:decide (((f.length:Nat):Int)-1-((f.length-m:Nat):Int)≥(m:Int))=false:=decide_eq_false (by omega);exact⟨_,by simp only[a3b,j,cF]<;>rfl,f',a,rfl,c,d⟩) (f.length-m) 0 _ (by omega) ⟨f,g,rfl,rfl,u⟩
 subst s;simp only[nZ,Int.sub_zero]at l;exact⟨f',a,l,t⟩
theorem c3y{f g:List Int}(x:o≤32)(v:g.length=f.length)(w:f.length<100000):∃ks:List Int,y0m a3c ((o:Int),(1:Int),f,g,([]:List Int),())=some (ks,())∧ks.length=o:=by
 obtain⟨b,j,ks,r,s⟩:=a7z (f:=a3c) (fun i st=>∃f' a ks:List Int,st=((o:Int),((i+1:Nat):Int),f',a,ks,())∧f'.length=f.length∧a.length=f.length∧ks.length=i)
  (fun b=>∃ks:List Int,b=(ks,())∧ks.length=o) o
  (fun i st hi h=>by
   obtain⟨f',a,ks,rfl,l,n,p⟩:=h;have d:decide (((i+1:Nat):Int)≤(o:Int))=true:=decide_eq_true (by omega);obtain⟨k,q⟩:=b9L (f:=f') (g:=a) (m:=i+1) (by omega) (by omega) (by omega) (by omega);have e:wrap .i64 (((f'.length:Nat):Int)-1)=((f'.length:Nat):Int)-1:=a0C (by omega);obtain⟨t,u,j,r,s⟩:=c2D (f:=f') (g:=a) (ks:=ks++[k]) (m:=i+1) (order:=(o:Int)) (k:=k) (by omega) (by omega) (by omega) (by omega);have c:lim (ks.length+1)=true:=a0U (by omega);exact⟨_,by simp only[a3c,d,cT,q,oB,c,e,a08,j,a0B (show i+1<1000000 by omega)]<;>rfl,t,u,ks++[k],rfl,by omega,by omega,by simp[p]⟩)
  (fun st h=>by
   obtain⟨f',a,ks,rfl,l,n,p⟩:=h;have d:decide (((o+1:Nat):Int)≤(o:Int))=false:=decide_eq_false (by omega);exact⟨_,by simp only[a3c,d,cF]<;>rfl,ks,rfl,p⟩) o 0 _ (by omega) ⟨f,g,[],rfl,rfl,v,rfl⟩
 subst r;exact⟨ks,j,s⟩
theorem c3z(h:l.all a0A=true)(t:l.length≤4096)(s:1≤o)(m:o≤32):∃ks:List Int,a6K (l,(o:Int))=some (ks,0)∧ks.length=o:=by
 have p:short l:=by unfold short;omega
 obtain⟨r,e,q⟩:=c4H h (by omega);have n:short r:=by unfold short;omega
 obtain⟨ks,i,j⟩:=c3y (f:=r) (g:=r) m rfl (by omega);have k:decide ((o:Int)<1)=false:=decide_eq_false (by omega);have a:decide ((o:Int) > 32)=false:=decide_eq_false (by omega);have b:decide (((l.length:Nat):Int) > 4096)=false:=decide_eq_false (by omega);have c:decide ((0:Int)≤(o:Int))=true:=by simp
 have d:lim o=true:=a0U (by omega);refine⟨ks,?_,j⟩;unfold a6K;simp only[k,a,b,c,d,cF,cT,oB,a5Y p,h,bT,e,a8h n,tN,a02,i]
theorem b3S{σ β:Type}{f:σ→Option (σ ⊕ β)}(I:Nat→σ→Prop)(Q:β→Prop)(n:Nat)(a:∀i s,i<n→I i s→(∃s',f s=some (.inl s')∧I (i+1) s')∨(∃b,f s=some (.inr b)∧Q b))
  (g:∀s,I n s→∃b,f s=some (.inr b)∧Q b):∀(k i:Nat)(s:σ),i+k=n→I i s→∃b,y0m f s=some b∧Q b
 |0,i,s,h,hi=>by
  obtain rfl:i=n:=by omega
  obtain⟨b,c,d⟩:=g s hi;exact⟨b,a0E c,d⟩
 |k+1,i,s,h,hi=>by
  rcases a i s (by omega) hi with⟨s',c,d⟩|⟨b,c,d⟩;rw[a0F c];exact b3S I Q n a g k (i+1) s' (by omega) d;exact⟨b,a0E c,d⟩
theorem c4I(g:ks.length≤32):∃b,y0m a2d (ks,ks,(ks.length:Int),(0:Int),())=some b∧(b=.inl (ks,())∨b=.inr (([]:List Int),(1:Int),())):=
 b3S (f:=a2d) (fun i s=>s=(ks,ks,(ks.length:Int),(i:Int),())) (fun b=>b=.inl (ks,())∨b=.inr (([]:List Int),(1:Int),())) ks.length
  (fun i s hi h=>by
   subst h;cases h1:decide (ks[i]<(-16383:Int))with
   |true=>exact Or.inr ⟨_,by simp only[a2d,dlt hi,cT,a0D hi,oB,h1]<;>rfl,Or.inr rfl⟩
   |false=>
    cases h2:decide (ks[i] > (16383:Int))with
    |true=>exact Or.inr ⟨_,by simp only[a2d,dlt hi,cT,cF,a0D hi,oB,h1,h2]<;>rfl,Or.inr rfl⟩
    |false=>exact Or.inl ⟨_,by simp only[a2d,dlt hi,cT,cF,a0D hi,oB,h1,h2,a0B (show i<1000000 by omega)]<;>rfl,rfl⟩)
  (fun s h=>by
   subst h;exact⟨_,by simp only[a2d,dge,cF]<;>rfl,Or.inl rfl⟩) ks.length 0 _ (by omega) rfl
theorem c4J{c a:List Int}(t:c.length=i)(hi:i≤32):
  ∃g:List Int,y0m a3T (c,(i:Int),k,a,n,(i:Int),c,(c.length:Int),(0:Int),([]:List Int),())=some (k,a,n,(i:Int),g,())∧g.length=i:=by
 obtain⟨b,p,g,q,r⟩:=a7z (f:=a3T) (fun j s=>∃g:List Int,s=(c,(i:Int),k,a,n,(i:Int),c,(c.length:Int),(j:Int),g,())∧g.length=j)
  (fun b=>∃g:List Int,b=(k,a,n,(i:Int),g,())∧g.length=c.length) c.length
  (fun j s l h=>by
   obtain⟨g,rfl,e⟩:=h;have m:wrap .i64 ((i:Int)-1)=(i:Int)-1:=a0C (by omega);have o:wrap .i64 ((i:Int)-1-(j:Int))=((i-1-j:Nat):Int):=by rw[a0C (by omega)];omega
   have d:lim (g.length+1)=true:=a0U (by omega);exact⟨_,by simp only[a3T,dlt l,cT,a0D l,oB,m,o,a0D (show i-1-j<c.length by omega),d,a0B (show j<1000000 by omega),a08]<;>rfl,_,rfl,by simp[e]⟩)
  (fun s h=>by
   obtain⟨g,rfl,e⟩:=h;exact⟨_,by simp only[a3T,dge,cF]<;>rfl,g,rfl,e⟩) c.length 0 _ (by omega) ⟨[],rfl,rfl⟩
 subst q;exact⟨g,p,by omega⟩
theorem c6d(B:1≤ks.length)(v:ks.length≤32):∃c e,a8B ks=some (c,e)∧(e=0→c.length=ks.length):=by
 obtain⟨b,p,q⟩:=c4I v;have j:decide (((ks.length:Nat):Int)<1)=false:=decide_eq_false (by omega);have l:decide (((ks.length:Nat):Int) > 32)=false:=decide_eq_false (by omega);unfold a8B;simp only[j,l,cF,oB,p];rcases q with rfl|rfl;obtain⟨r,d,c,t,u⟩:=a7z (f:=a5U) (fun i s=>∃c:List Int,s=(c,ks,(ks.length:Int),(i:Int),())∧c.length=i) (fun r=>∃c:List Int,r=(c,())∧c.length=ks.length) ks.length
  (fun i s hi h=>by
   obtain⟨c,rfl,g⟩:=h;have o:wrap .i64 ((i:Int)+1)=((i+1:Nat):Int):=a0B (by omega);have m:decide ((0:Int)≤((i+1:Nat):Int))=true:=by simp;omega
   have w:lim (i+1)=true:=a0U (by omega);obtain⟨A,y,z⟩:=c4J (c:=c) (a:=ks) (i:=i) (k:=ks[i]) (n:=(ks.length:Int)) g (by omega);have x:lim (A.length+1)=true:=a0U (by omega);exact⟨_,by simp only[a5U,dlt hi,cT,a0D hi,oB,o,m,tN,w,a02,y,x,a08]<;>rfl,_,rfl,by simp[z]⟩)
  (fun s h=>by
   obtain⟨c,rfl,g⟩:=h;exact⟨_,by simp only[a5U,dge,cF]<;>rfl,c,rfl,g⟩) ks.length 0 _ (by omega) ⟨[],rfl,rfl⟩
 subst t;simp only[nZ]at d;exact⟨c,0,by simp only[d,oB],fun _=>u⟩;exact⟨[],1,rfl,fun h=>absurd h (by decide)⟩
theorem c4K{c:List Int}{s:Nat}{half:Int}(m:c.length≤32)(e:w≤32):
  ∃out:List Int,y0m a2f (c,(w:Int),(s:Int),half,c,(c.length:Int),(0:Int),([]:List Int),())=some (c,(w:Int),(s:Int),out,()):=by
 obtain⟨b,i,out,l⟩:=b3S (f:=a2f) (fun j st=>∃out:List Int,st=(c,(w:Int),(s:Int),half,c,(c.length:Int),(j:Int),out,())∧out.length=j)
  (fun b=>∃out:List Int,b=(c,(w:Int),(s:Int),out,())) c.length
  (fun j st k h=>by
   obtain⟨out,rfl,d⟩:=h;have a:decide ((s:Int)<0)=false:=decide_eq_false (by omega);have g:lim (out.length+1)=true:=a0U (by omega);cases hf:a1d (A0i .i64 (wrap .i64 (c[j]+half)) (s:Int)) (w:Int)with
   |true=>exact Or.inl ⟨_,by simp only[a2f,dlt k,cT,a0D k,oB,a,cF,a6p e,hf,bT,g,a0B (show j<1000000 by omega),a08]<;>rfl,_,rfl,by simp[d]⟩
   |false=>exact Or.inr ⟨_,by simp only[a2f,dlt k,cT,a0D k,oB,a,cF,a6p e,hf,a46]<;>rfl,out,rfl⟩)
  (fun st h=>by
   obtain⟨out,rfl,d⟩:=h;exact⟨_,by simp only[a2f,dge,cF]<;>rfl,out,rfl⟩) c.length 0 _ (by omega) ⟨[],rfl,rfl⟩
 subst l;exact⟨out,i⟩
theorem c4L{c:List Int}{w:Int}(g:c.length≤32):∃b,y0m a2e (c,w,c,(c.length:Int),(0:Int),())=some b∧(b=.inl (c,w,())∨b=.inr ((0:Int),(1:Int),([]:List Int),())):=
 b3S (f:=a2e) (fun i s=>s=(c,w,c,(c.length:Int),(i:Int),())) (fun b=>b=.inl (c,w,())∨b=.inr ((0:Int),(1:Int),([]:List Int),())) c.length
  (fun i s hi h=>by
   subst h;cases h1:decide (c[i]<(-35184372088832:Int))with
   |true=>exact Or.inr ⟨_,by simp only[a2e,dlt hi,cT,a0D hi,oB,h1]<;>rfl,Or.inr rfl⟩
   |false=>
    cases h2:decide (c[i] > (35184372088832:Int))with
    |true=>exact Or.inr ⟨_,by simp only[a2e,dlt hi,cT,cF,a0D hi,oB,h1,h2]<;>rfl,Or.inr rfl⟩
    |false=>exact Or.inl ⟨_,by simp only[a2e,dlt hi,cT,cF,a0D hi,oB,h1,h2,a0B (show i<1000000 by omega)]<;>rfl,rfl⟩)
  (fun s h=>by
   subst h;exact⟨_,by simp only[a2e,dge,cF]<;>rfl,Or.inl rfl⟩) c.length 0 _ (by omega) rfl
theorem c6e{c:List Int}(B:1≤c.length)(q:c.length≤32)(C:2≤w∧w≤16):∃o sh e,a8C (c,(w:Int))=some (o,sh,e)∧(e=0→o.length=c.length):=by
 obtain⟨b,y,z⟩:=c4L (w:=(w:Int)) q;have t:decide (((c.length:Nat):Int)<1)=false:=decide_eq_false (by omega);have u:decide (((c.length:Nat):Int) > 32)=false:=decide_eq_false (by omega);have v:decide ((w:Int)<2)=false:=decide_eq_false (by omega);have x:decide ((w:Int) > 16)=false:=decide_eq_false (by omega);unfold a8C;simp only[t,u,v,x,cF,oB,y];rcases z with rfl|rfl
 ·obtain⟨r,p,A⟩:=b3S (f:=a2g) (fun i s=>s=(c,(w:Int),(i:Int),())) (fun r=>r=.inl ()∨∃(sh:Int)(o:List Int),r=.inr (sh,(0:Int),o,())∧o.length=c.length) 15
   (fun i s hi h=>by
    subst h;have d:decide ((i:Int)≤14)=true:=decide_eq_true (by omega);have j:decide ((0:Int)≤((c.length:Nat):Int))=true:=by simp
    have l:lim c.length=true:=a0U (by omega);have k:∀g:Int,∃o:List Int,y0m a2f (c,(w:Int),(i:Int),g,c,(c.length:Int),(0:Int),([]:List Int),())=some (c,(w:Int),(i:Int),o,()):=fun g=>c4K q (by omega)
    by_cases hp:(i:Int) > 0
    ·have n:wrap .i64 ((i:Int)-1)=(i:Int)-1:=a0C (by omega);have m:decide ((i:Int)-1<0)=false:=decide_eq_false (by omega);obtain⟨o,a⟩:=k (A0h .i64 1 ((i:Int)-1));cases hc:((((o.length:Nat):Int))==((c.length:Nat):Int))with
     |true=>exact Or.inr ⟨_,by simp only[a2g,d,cT,hp,decide_true,n,m,cF,oB,j,tN,l,a02,a,hc]<;>rfl,Or.inr ⟨_,o,rfl,by have:=beq_iff_eq.1 hc;omega⟩⟩
     |false=>exact Or.inl ⟨_,by simp only[a2g,d,cT,hp,decide_true,n,m,cF,oB,j,tN,l,a02,a,hc,a0B (show i<1000000 by omega)]<;>rfl,rfl⟩
    ·obtain⟨o,a⟩:=k 0;cases hc:((((o.length:Nat):Int))==((c.length:Nat):Int))with
     |true=>exact Or.inr ⟨_,by simp only[a2g,d,cT,hp,decide_false,cF,oB,j,tN,l,a02,a,hc]<;>rfl,Or.inr ⟨_,o,rfl,by have:=beq_iff_eq.1 hc;omega⟩⟩
     |false=>exact Or.inl ⟨_,by simp only[a2g,d,cT,hp,decide_false,cF,oB,j,tN,l,a02,a,hc,a0B (show i<1000000 by omega)]<;>rfl,rfl⟩)
   (fun s h=>by
    subst h;have d:decide (((15:Nat):Int)≤14)=false:=by decide
    exact⟨_,by simp only[a2g,d,cF]<;>rfl,Or.inl rfl⟩) 15 0 (c,(w:Int),(0:Int),()) (by omega) rfl
  rcases A with rfl|⟨sh,o,rfl,a⟩;exact⟨[],0,6,by simp only[p,oB],fun h=>absurd h (by decide)⟩;exact⟨o,sh,0,by simp only[p,oB],fun _=>a⟩
 exact⟨[],0,1,rfl,fun h=>absurd h (by decide)⟩
theorem c7h(q:l.all a0A=true)(p:l.length≤4096)(j:1≤o)(m:o≤32)(n:2≤w∧w≤16):∃c sh e,a3N (l,(o:Int),(w:Int))=some (c,sh,e)∧(e=0→c.length=o):=by
 obtain⟨ks,a,s⟩:=c3z q p j m;obtain⟨c,e,b,g⟩:=c6d (ks:=ks) (by omega) (by omega);unfold a3N;simp only[a,oB,show((0:Int) != 0)=false from rfl,cF,b]
 by_cases he:e=0
 subst he;obtain⟨r,sh,k,d,i⟩:=c6e (c:=c) (w:=w) (by have:=g rfl;omega) (by have:=g rfl;omega) n
 have:=g rfl
 exact⟨r,sh,k,by simp only[show((0:Int) != 0)=false from rfl,cF,d,oB],fun h=>by have:=i h;omega⟩;have f:(e != 0)=true:=by simpa using he
 exact⟨[],0,e,by simp only[f,cT],fun h=>absurd h he⟩
theorem c6f(a:l.length<100000)(c:o≤4):∃v,a9u (l,(o:Int))=some v:=by
 obtain⟨b,g,v,k⟩:=a7z (f:=a4C) (fun i s=>∃v:Int,s=((o:Int),v,l,(l.length:Int),(i:Int),())) (fun b=>∃v:Int,b=(v,())) l.length
  (fun i s hi h=>by
   obtain⟨v,rfl⟩:=h;cases hc:decide (wrap .i64 ((i:Int)+(o:Int))≥4)with
   |true=>exact⟨_,by simp only[a4C,dlt hi,cT,a0D hi,oB,hc,a0B (show i<1000000 by omega)]<;>rfl,_,rfl⟩
   |false=>exact⟨_,by simp only[a4C,dlt hi,cT,cF,a0D hi,oB,hc,a0B (show i<1000000 by omega)]<;>rfl,_,rfl⟩)
  (fun s h=>by
   obtain⟨v,rfl⟩:=h;exact⟨_,by simp only[a4C,dge,cF]<;>rfl,v,rfl⟩) l.length 0 ((o:Int),(0:Int),l,(l.length:Int),(0:Int),()) (by omega) ⟨0,rfl⟩
 subst k;refine⟨v,?_⟩;unfold a9u;simp only[g,oB]
theorem b9M(k:o≤4)(b:l.length<100000)(a:l.all a0A=true):∃r e,a4B (l,(o:Int))=some (r,e)∧r.length≤l.length:=by
 by_cases hn:o≤l.length
 ·rw[b6G k hn (by unfold short;omega) a];cases (a1J o l).all a0A with
  |true=>exact⟨_,_,rfl,by rw[a5M];omega⟩
  |false=>exact⟨_,_,rfl,by simp⟩
 have h:decide ((o:Int)<0)=false:=decide_eq_false (by omega);have g:decide ((o:Int) > 4)=false:=decide_eq_false (by omega);have f:decide (((l.length:Nat):Int)<(o:Int))=true:=decide_eq_true (by omega);exact⟨[],1,by unfold a4B;simp only[h,g,f,cF,cT,oB],by simp⟩
theorem b9N(n:l.length<100000)(p:l.all a0A=true):∃o:Nat,a6h l=some (o:Int)∧o≤4:=by
 obtain⟨b,d,o,j,m⟩:=a7z (f:=a2I) (fun i s=>∃(o:Nat)(v:Int),s=(l,(o:Int),v,(i:Int),())∧o≤4) (fun b=>∃o:Nat,b=((o:Int),())∧o≤4) 5
  (fun i s hi h=>by
   obtain⟨o,v,rfl,a⟩:=h;have g:decide ((i:Int)≤4)=true:=decide_eq_true (by omega);obtain⟨r,e,k,q⟩:=b9M (o:=i) (by omega) n p;obtain⟨y,c⟩:=c6f (l:=r) (o:=i) (by omega) (by omega);cases hc:(e != 0)with
   |true=>exact⟨_,by simp only[a2I,g,cT,k,oB,hc,a0B (show i<1000000 by omega)]<;>rfl,o,v,rfl,a⟩
   |false=>
    cases h4:decide (v<0)with
    |true=>exact⟨_,by simp only[a2I,g,cT,cF,k,oB,hc,c,h4,a0B (show i<1000000 by omega)]<;>rfl,i,y,rfl,by omega⟩
    |false=>
     cases h5:decide (y<v)with
     |true=>exact⟨_,by simp only[a2I,g,cT,cF,k,oB,hc,c,h4,h5,a0B (show i<1000000 by omega)]<;>rfl,i,y,rfl,by omega⟩
     |false=>exact⟨_,by simp only[a2I,g,cT,cF,k,oB,hc,c,h4,h5,a0B (show i<1000000 by omega)]<;>rfl,o,v,rfl,a⟩)
  (fun s h=>by
   obtain⟨o,v,rfl,a⟩:=h;have g:decide (((5:Nat):Int)≤4)=false:=by decide
   exact⟨_,by simp only[a2I,g,cF]<;>rfl,o,rfl,a⟩) 5 0 (l,(0:Int),(-1:Int),(0:Int),()) (by omega) ⟨0,-1,rfl,by omega⟩
 subst j;refine⟨o,?_,m⟩;unfold a6h;simp only[d,oB]
def a9B(g:List Int→Int):List Int→List Int→List Int
 | [],_=>[]
 |x::r,done=>W (x-g done)::a9B g r (done++[x])
theorem b3T(g:List Int→Int):∀r done,(a9B g r done).length=r.length
 | [],_=>rfl
 |x::r,done=>by simp[a9B,b3T g r]
theorem c7i(h:a0A x=true):W (W (x-g)+g)=x:=by
 have:=b7j h
 simp_all[a8g]
theorem b5P(g:List Int→Int):∀(r done:List Int),r.all a0A=true→a4a g (a9B g r done) done=some (done++r)
 | [],done,_=>by simp[a9B,a4a]
 |x::r,done,h=>by
  rw[a06,bA]at h;simp only[a9B,a4a,c7i h.1,h.1,cT,b5P g r (done++[x]) h.2,aA,a64]
def b2g(g:List Int→Int)(r done:List Int):Option (List Int):=bif (a9B g r done).all a0A then some (a9B g r done)else none
def b4s{β:Type}(g:List Int→Int)(bad:β)(a:List Int×List Int)(x:Int):(List Int×List Int) ⊕ β:=
 bif a0A (W (x-g a.1))then .inl (a.1++[x],a.2++[W (x-g a.1)])else .inr bad
theorem b5Q{β:Type}(g:List Int→Int)(f:β)(k:List Int×List Int→β):∀(r done acc:List Int),
  a8V k (a2K (b4s g f) r (done,acc))=match b2g g r done with|some e=>k (done++r,acc++e)|none=>f
 | [],done,acc=>by grind[a2K,a8V,b2g,a9B]
 |x::r,done,acc=>by
  simp[a2K,b4s];cases h:a0A (W (x-g done))with
  |true=>
   simp
   rw[b5Q g f k r];simp only[b2g,a9B,a06,h,a43]
   grind
  |false=>simp_all[a8V,b2g,a9B]
theorem b9O{g:List Int→Int}{done e:List Int}(h:b2g g r done=some e):e=a9B g r done∧e.all a0A=true:=by
 unfold b2g at h
 grind
theorem c1O(h:i<l.length):l.take i++[l[i]]=l.take (i+1):=by simp
theorem b5R{l:List Int}{p:Int→Bool}(h:l.all p=true)(i:Nat):(l.take i).all p=true:=by
 grind
theorem c8q{p:Int→Bool}(h:l.all p=true)(i:Nat):(l.drop i).all p=true:=by
 grind
theorem c1P{σ β:Type}{f:σ→Option (σ ⊕ β)}(l:List Int)(k:Nat)(q:k≤l.length)(S:Nat→List Int→σ)(g:List Int×List Int→Int→(List Int×List Int) ⊕ β)(d:List Int→β)
  (j:∀i (h:i<l.length) c,k≤i→c.length=i-k→(∀a',g (l.take i,c) l[i]=.inl a'→f (S i c)=some (.inl (S (i+1) a'.2))∧a'.1=l.take (i+1)∧a'.2.length=i+1-k)∧(∀b,g (l.take i,c) l[i]=.inr b→f (S i c)=some (.inr b)))
  (e:∀c,c.length=l.length-k→f (S l.length c)=some (.inr (d c))):y0m f (S k [])=some (a8V (fun a=>d a.2) (a2K g (l.drop k) (l.take k,[]))):=by
 have h:=a1P (f:=f) (l.drop k) (fun i a=>S (k+i) a.2) g (fun i a=>a.1=l.take (k+i)∧a.2.length=i) (fun a=>d a.2)
  (fun i hi a n=>by
   obtain⟨a1,c⟩:=a;obtain⟨m,o⟩:=n;simp only at m o;subst m;rw[a55]at hi;have p:k+i<l.length:=by omega
   grind)
  (fun a n=>by
   simp_all) (a:=(l.take k,[])) ⟨by simp,rfl⟩
 omega
def b5S(l c:List Int)(s:Int):Option (List Int):=bif l.all a0A then b2g (b1u c s) (l.drop c.length) (l.take c.length)else none
theorem b5r{c:List Int}{s:Int}(v:a9F c s=true)(t:c.length≤l.length)(y:l.length<100000):
  a7i (l,c,s)=some (a4V (b5S l c s)):=by
 have m:short l:=by unfold short;omega
 have k:short c:=by unfold short;omega
 have d:0≤s:=by simp_all[a9F]
 have o:decide (((l.length:Nat):Int)<((c.length:Nat):Int))=false:=by simp_all
 unfold a7i b5S;simp only[a9y k,v,oB,bT,cF,o,a5Y m];cases hw:l.all a0A with
 |false=>rfl
 |true=>
  have p:wrap .i64 (((l.length:Nat):Int)-((c.length:Nat):Int))=((l.length-c.length:Nat):Int):=by grind[a0C]
  have x:decide ((0:Int)≤((l.length-c.length:Nat):Int))=true:=by simp
  have q:lim (l.length-c.length)=true:=a0U (by omega);simp[p,q]
  have:=c1P (f:=a4D) l c.length t (fun i h=>(l,c,s,(i:Int),h,())) (b4s (b1u c s) (.inr ((6:Int),([]:List Int),()))) (fun h=>.inl (h,()))
   (fun i hi h u a=>by
    have n:short (l.take i):=by unfold short;grind
    have e:decide ((0:Int)≤(i:Int))=true:=by simp
    have j:decide ((i:Int)≤((l.length:Nat):Int))=true:=by grind
    have r:lim (h.length+1)=true:=a0U (by omega);constructor
    ·intro w g;unfold b4s at g;cases hq:a0A (W (l[i]-b1u c s (l.take i)))with
     |false=>simp_all
     |true=>
      simp only[hq,cT,Sum.inl.injEq]at g;subst g;refine⟨?_,c1O hi,by grind⟩;simp only[a4D,dlt hi,cT,a0D hi,oB,e,j,a02,tN,b5H n k d,a6l,hq,bT,cF,r,a0B (a32 hi m),a08]
    ·intro b hb;unfold b4s at hb;cases hq:a0A (W (l[i]-b1u c s (l.take i)))with
     |true=>simp_all
     |false=>
      simp[hq]at hb;subst hb;simp only[a4D,dlt hi,cT,a0D hi,oB,e,j,a02,tN,b5H n k d,a6l,hq,a46])
   (fun h a=>by simp[a4D])
  rw[this,b5Q];cases b2g (b1u c s) (l.drop c.length) (l.take c.length)<;>rfl
theorem b5T{c:List Int}{s:Int}(h:b5S l c s=some r):b3H (l.take c.length) r c s=some l∧r.all a0A=true∧r.length=l.length-c.length:=by
 unfold b5S at h;cases hw:l.all a0A with
 |false=>simp_all
 |true=>
  simp[hw]at h;obtain⟨e,g⟩:=b9O h;refine⟨?_,g,by simp_all[b3T]⟩;simp[b3H,b5R hw,g]
  grind[b5P,List.take_append_drop]
def b5s(l:List Int)(lag:Int)(t:List Int):Option (List Int):=bif l.all a0A then b2g (a9z lag t) l []else none
theorem c3A(o:b2b lag t=true)(c:t.length=3)(r:l.length<100000):
  a9h (l,lag,t)=some (a4V (b5s l lag t)):=by
 have a:short l:=by unfold short;omega
 obtain⟨e,j⟩:2≤lag∧lag≤1024:=by simp_all[b2b]
 unfold a9h b5s;simp only[b4O c,o,oB,bT,cF,b4i a];cases hw:l.all a0A with
 |false=>rfl
 |true=>
  have q:decide ((0:Int)≤((l.length:Nat):Int))=true:=by simp
  have d:lim l.length=true:=a0U (by omega);simp[d]
  have:=c1P (f:=a6i) l 0 (Nat.zero_le _) (fun i h=>(l,lag,l,(l.length:Int),(i:Int),h,t,())) (b4s (a9z lag t) (.inr ((6:Int),([]:List Int),()))) (fun h=>.inl (h,()))
   (fun i hi h n k=>by
    have m:lim (h.length+1)=true:=a0U (by omega);have hp:=b4k (lag:=lag) (t:=t) (a96 hi) a c e j;constructor
    ·intro p g;unfold b4s at g;cases hq:a0A (W (l[i]-a9z lag t (l.take i)))with
     |false=>simp_all
     |true=>
      simp only[hq,cT,Sum.inl.injEq]at g;subst g;refine⟨?_,c1O hi,by simp_all⟩;simp only[a6i,dlt hi,cT,a0D hi,oB,hp,a8f,hq,bT,cF,m,a0B (a32 hi a),a08]
    ·intro b hb;unfold b4s at hb;cases hq:a0A (W (l[i]-a9z lag t (l.take i)))with
     |true=>simp_all
     |false=>
      simp_all[a6i,a0D,a8f])
   (fun h k=>by simp[a6i])
  simp only[nZ]at this;rw[this,b5Q,a23,List.take_zero];cases b2g (a9z lag t) l []<;>rfl
theorem b7n(h:b5s l lag t=some r):b4l r lag t=some l∧r.all a0A=true∧r.length=l.length:=by
 unfold b5s at h;cases hw:l.all a0A with
 |false=>simp_all
 |true=>
  simp[hw]at h;obtain⟨e,g⟩:=b9O h;refine⟨?_,g,by rw[e,b3T]⟩;simp[b4l,g];simp_all[b5P]
def rsG:List Int→Fil→List Int
 | [],_=>[]
 |x::r,f=>W (x-a1h f)::rsG r (b3f f x)
theorem b5U:∀r f,(rsG r f).length=r.length
 | [],_=>rfl
 |x::r,f=>by simp[rsG,b5U r]
def rsO:List Int→List Int→Fil→Option (List Int)
 | [],done,_=>some done
 |x::r,done,f=>bif a0A (W (x-a1h f))then rsO r (done++[W (x-a1h f)]) (b3f f x)else none
theorem c7j:∀(r done:List Int)(f:Fil),rsO r done f=bif (rsG r f).all a0A then some (done++rsG r f)else none
 | [],done,f=>by simp[rsO,rsG]
 |x::r,done,f=>by
  simp only[rsO,rsG,a06];cases a0A (W (x-a1h f))with
  |false=>rfl
  |true=>simp only[cT,a43,c7j r,aA,a64]
theorem c5d:∀(r z:List Int)(f:Fil),r.all a0A=true→stO (rsG r f) z f=some (z++r)
 | [],z,f,_=>by simp[rsG,stO]
 |x::r,z,f,h=>by
  rw[a06,bA]at h;have e:W (a1h f+W (x-a1h f))=x:=by rw[Int.add_comm];exact c7i h.1
  simp only[rsG,stO,e,h.1,cT,c5d r _ _ h.2,aA,a64]
theorem b4t{row:List Int}{a:List Stg}{b c:Int}(j:short row):∀(k i:Nat)(done:List Int)(f:Fil),i+k=row.length→done.length=i→FilOk f→
  y0m a5q (a,b,c,(row.length:Int),(i:Int),done++row.drop i,f,())=some (match rsO (row.drop i) done f with
   |some r=>.inl (a,b,c,r,())
   |none=>.inr ((6:Int),([]:List Int),()))
 |0,i,done,f,h,hd,hf=>by
  obtain rfl:i=row.length:=by omega
  rw[b07,a42];exact a0E (b:=Sum.inl (a,b,c,done,())) (by simp[a5q])
 |k+1,i,done,f,h,hd,hf=>by
  have hi:i<row.length:=by omega
  have m:row.length<1000000:=j;have d:decide ((0:Int)≤(i:Int))=true:=by simp
  have l:(done++row.drop i).length=row.length:=by simp;omega
  have e:decide ((i:Int)<(((done++row.drop i).length:Nat):Int))=true:=by rw[l];simp;omega
  have g:rsO (row.drop i) done f=bif a0A (W (row[i]-a1h f))then rsO (row.drop (i+1)) (done++[W (row[i]-a1h f)]) (b3f f row[i])else none:=by
   rw[a03 hi];rfl
  rw[g];cases hw:a0A (W (row[i]-a1h f))with
  |true=>
   rw[a0F (s':=(a,b,c,(row.length:Int),((i+1:Nat):Int),(done++[W (row[i]-a1h f)])++row.drop (i+1),b3f f row[i],())) (by
    simp only[a5q,dlt hi,d,e,cT,a02,a6m hf,oB,tN,b4m hd hi,a5d,hw,bT,cF,b6B hf,c3g hd hi,a0B (show i<1000000 by omega)])]
   exact b4t j k (i+1) _ _ (by omega) (by simp;omega) (c3f hf _)
  |false=>
   exact a0E (by
    simp only[a5q,dlt hi,d,e,cT,a02,a6m hf,oB,tN,b4m hd hi,a5d,hw,a46];rfl)
def lRO:List Stg→List Int→Option (List Int)
 | [],row=>some row
 |s::r,row=>match rsO row [] (b1v s)with
  |some row'=>lRO r row'
  |none=>none
theorem c3B{row:List Int}{f:Fil}(h:rsO row [] f=some d):d=rsG row f∧d.all a0A=true:=by
 rw[c7j]at h;cases hc:(rsG row f).all a0A with
 |true=>simp only[hc,cT,a05,sj]at h;subst h;exact⟨rfl,hc⟩
 |false=>simp[hc]at h
theorem c1Q:∀(a b:List Stg)(row:List Int),lO (a++b) row=match lO a row with|some r=>lO b r|none=>none
 | [],b,row=>rfl
 |s::a,b,row=>by
  simp only[a76,lO];split;exact c1Q a b _;rfl
theorem c3C:∀(st:List Stg)(row d:List Int),row.all a0A=true→lRO st row=some d→lO st.reverse d=some row∧d.all a0A=true∧d.length=row.length
 | [],row,d,hw,h=>by
  simp only[lRO,sj]at h;subst h;exact⟨rfl,hw,rfl⟩
 |s::st,row,d,hw,h=>by
  simp only[lRO]at h
  split at h
  rename_i g c;obtain⟨e,f⟩:=c3B c;obtain⟨k,a,b⟩:=c3C st g d f h;refine⟨?_,a,by rw[b,e,b5U]⟩;rw[List.reverse_cons,c1Q,k];simp only[lO];rw[e,c5d row [] _ hw,a05];cases h
theorem b2P{st:List Stg}(i:∀s∈st,stageB s=true)(l:st.length≤3):∀(j k:Nat)(row:List Int),k+j=st.length→short row→
  y0m a5r (st,(st.length:Int),(k:Int),row,())=some (match lRO (st.drop k) row with
   |some r=>.inl (r,())
   |none=>.inr ((6:Int),([]:List Int),()))
 |0,k,row,h,hs=>by
  obtain rfl:k=st.length:=by omega
  rw[b07];exact a0E (by simp[a5r,lRO])
 |j+1,k,row,h,hs=>by
  have f:k<st.length:=by omega
  have g:=i _ (a07 f);have d:=b4t (a:=st) (b:=(st.length:Int)) (c:=(k:Int)) hs row.length 0 [] (b1v st[k]) (by omega) rfl (c5b g);simp only[nZ,a23,a05]at d;have e:((0:Int) != 0)=false:=rfl;rw[a03 f];simp only[lRO];cases hr:rsO row [] (b1v st[k])with
  |some r=>
   rw[hr]at d;rw[a0F (s':=(st,(st.length:Int),((k+1:Nat):Int),r,())) (by simp only[a5r,dlt f,cT,a0D f,oB,b3J g,e,cF,d,a0B (show k<1000000 by omega)])];exact b2P i l j (k+1) r (by omega) (by have:=(c3B hr).1;unfold short at hs⊢;rw[this,b5U];exact hs)
  |none=>
   rw[hr]at d;exact a0E (by simp only[a5r,dlt f,cT,a0D f,oB,b3J g,e,cF,d])
def b3k(l:List Int)(st:List Stg):Option (List Int):=bif l.all a0A then lRO st l else none
theorem c2E{st:List Stg}(k:a9k st=true)(a:l.length<100000):b0P (l,st)=some (a4V (b3k l st)):=by
 have h:=k;simp only[a9k,bA,dT]at h;have f:short st:=by unfold short;omega
 have g:short l:=by unfold short;omega
 unfold b0P b3k;simp only[b3G f,k,oB,bT,cF,b3F g];cases hw:l.all a0A with
 |false=>rfl
 |true=>
  have:=b2P (lA.1 h.2) h.1 st.length 0 l (by omega) g
  simp only[nZ,a23]at this;simp only[bT,cF,cT,a8h g,oB,this];cases lRO st l<;>rfl
theorem b9P{st:List Stg}(h:b3k l st=some r):b2p r st=some l∧r.all a0A=true∧r.length=l.length:=by
 unfold b3k at h;cases hw:l.all a0A with
 |false=>simp[hw]at h
 |true=>
  simp only[hw,cT]at h;obtain⟨f,g,k⟩:=c3C st l r hw h;exact⟨by simp only[b2p,g,cT,f],g,k⟩
theorem p64{w:Nat}(h:w≤64):((2^w:Nat):Int) ∣ 18446744073709551616:=a22.2 (a68 2 h)
theorem d2l(n:Int):∃q,wrap .i64 n=n+18446744073709551616*q:=by
 rw[a8g,Int.bmod];split;exact⟨-(n / 18446744073709551616),by omega⟩;exact⟨-(n / 18446744073709551616)-1,by omega⟩
theorem c8r(h:w≤64)(n:Int):((2^w:Nat):Int) ∣ wrap .i64 n↔((2^w:Nat):Int) ∣ n:=by
 obtain⟨q,g⟩:=d2l n;rw[g]
 grind[a79,a58,p64]
theorem c1R(h:w≤64)(a:Int):2^w ∣ (a04 64 a).toNat↔((2^w:Nat):Int) ∣ a:=by
 have e:(((a04 64 a).toNat:Nat):Int)=a+18446744073709551616*-(a / 18446744073709551616):=by
  rw[a36];omega
 rw[←a22,e]
 grind[a79,a58,p64]
theorem c6g(w x y:Nat):2^w ∣ (x ||| y)↔2^w ∣ x∧2^w ∣ y:=by
 simp_all[Nat.dvd_iff_mod_eq_zero,Nat.or_mod_two_pow]
theorem d2m(h:w≤64)(a b:Int):((2^w:Nat):Int) ∣ bits .i64 .or a b↔((2^w:Nat):Int) ∣ a∧((2^w:Nat):Int) ∣ b:=by
 show((2^w:Nat):Int) ∣ wrap .i64 ((((a04 64 a) ||| (a04 64 b)).toNat:Nat):Int)↔_;rw[c8r h,a22,a57,c6g,c1R h,c1R h]
def orI(l:List Int)(a:Int):Int:=l.foldl (fun a x=>bits .i64 .or a x) a
theorem b5t{w:Nat}(h:w≤64):∀(l:List Int)(a:Int),((2^w:Nat):Int) ∣ orI l a↔((2^w:Nat):Int) ∣ a∧∀x∈l,((2^w:Nat):Int) ∣ x
 | [],a=>by simp[orI]
 |x::l,a=>by
  show((2^w:Nat):Int) ∣ orI l (bits .i64 .or a x)↔_;rw[b5t h l,d2m h];simp_all[and_assoc]
theorem c3D:∀(l:List Int),(∀x∈l,x=0)→orI l 0=0
 | [],_=>rfl
 |x::l,h=>by
  have g:=h x (a71);subst g;show orI l (bits .i64 .or 0 0)=0;rw[show bits .i64 .or 0 0=0 from by rfl];simp_all[c3D]
theorem d2n(k:l.all a0A=true)(h:∃x∈l,x≠0):orI l 0≠0:=by
 intro e;obtain⟨x,g,f⟩:=h;have b:=((b5t (w:=62) (by omega) l 0).1 (by omega)).2 x g;have a:=a1D.1 (lA.1 k x g);omega
def a8M(l:List Int)(w:Nat):Prop:=
 ((∀x∈l,x=0)∧w=0)∨((∃x∈l,x≠0)∧w≤30∧(∀x∈l,((2^w:Nat):Int) ∣ x)∧(w=30∨∃x∈l,¬ ((2^(w+1):Nat):Int) ∣ x))
theorem c6h{v w:Nat}(h:v≤w){x:Int}(g:((2^w:Nat):Int) ∣ x):((2^v:Nat):Int) ∣ x:=
 Int.dvd_trans (a22.2 (a68 2 h)) g
theorem a8M.unique(hv:a8M l v)(g:a8M l w):v=w:=by
 have d:∀{v w:Nat},v≤30→w≤30→(∀x∈l,((2^w:Nat):Int) ∣ x)→(v=30∨∃x∈l,¬ ((2^(v+1):Nat):Int) ∣ x)→w≤v:=by
  grind[c6h]
 rcases hv with⟨f,hv⟩|⟨⟨x,c,h⟩,hv1,hv2,hv3⟩
 ·rcases g with⟨-,g⟩|⟨⟨x,c,h⟩,-⟩
  all_goals grind
 ·rcases g with⟨f,-⟩|⟨-,k,a,b⟩
  all_goals grind
theorem c3E:∀(n N:Nat),N≤n→0<N→∃k m,N=2^k*(2*m+1)
 |0,N,h,h0=>absurd h0 (by omega)
 |n+1,N,h,h0=>by
  by_cases he:N%2=0
  obtain⟨k,m,e⟩:=c3E n (N / 2) (by omega) (by omega);refine⟨k+1,m,?_⟩;rw[a53,a69 (2^k) 2,a91,←e];omega;exact⟨0,N / 2,by omega⟩
theorem d0V{k:Nat}(h:2^k*(2*m+1)<2^64):(2^k*(2*m+1)) &&& (2^64-2^k*(2*m+1))=2^k:=by
 have hp:1≤2^k:=a94;have n:k<64:=by
  refine b08 fun g=>?_
  have d:2^64≤2^k:=a16 (by simp) g
  grind
 have e:2^k*(2*m+1)=(2^k*(2*m)+(2^k-1))+1:=by grind
 have l:2^k*(2*m)+(2^k-1)<2^64:=by omega
 refine Nat.eq_of_testBit_eq fun i=>?_
 have a:(2^64-2^k*(2*m+1)).testBit i=(decide (i<64)&&!(2^k*(2*m)+(2^k-1)).testBit i):=by
  rw[e];exact Nat.testBit_two_pow_sub_succ l i
 have f:=a70 (2*m+1) (b:=0) (i:=k) (by omega) i;rw[a97]at f;have c:=a70 (2*m) (b:=2^k-1) (i:=k) (by omega) i;rw[Nat.testBit_and,a,f,c,Nat.testBit_two_pow]
 by_cases d:i<k
 grind
 by_cases h2:k=i
 simp_all;obtain⟨j,rfl⟩:∃j,i=k+(j+1):=⟨i-k-1,by omega⟩;have o:k+(j+1)-k=j+1:=by omega
 have p:(2*m+1) / 2=m:=by omega
 simp_all[Nat.testBit_succ]
theorem c8s:∀k:Nat,k<64→b1E[(2^k*285870213051353865)%18446744073709551616 / 288230376151711744]?=some (k:Int):=by
 have h:∀k:Fin 64,b1E[(2^k.val*285870213051353865)%18446744073709551616 / 288230376151711744]?=some (k.val:Int):=by decide
 exact fun k g=>h ⟨k,g⟩
theorem c4M{k:Nat}:¬ 2^(k+1) ∣ 2^k*(2*m+1):=by
 rintro⟨c,h⟩
 rw[a53,a91]at h
 grind[Nat.eq_of_mul_eq_mul_left]
theorem c8t(d:0<N)(h:N<18446744073709551616):∃k:Nat,a1y (N:Int)=some (k:Int)∧2^k ∣ N∧¬ 2^(k+1) ∣ N:=by
 obtain⟨k,m,e⟩:=c3E N N (a34 _) d;have n:2^k≤N:=by grind
 have i:k<64:=by
  refine b08 fun g=>?_
  have l:2^64≤2^k:=a16 (by simp) g;omega
 refine⟨k,?_,⟨_,e⟩,e▸c4M⟩;have hb:bits .u64 .and (N:Int) (wrap .u64 (0-(N:Int)))=((2^k:Nat):Int):=by
  have b:wrap .u64 (0-(N:Int))=((18446744073709551616-N:Nat):Int):=by
   grind[wrap,IntKind.bits,IntKind.signed]
  rw[b];show wrap .u64 (((a04 64 (N:Int)) &&& (a04 64 ((18446744073709551616-N:Nat):Int))).toNat:Int)=_;rw[a29,a29,a77,a35,a35,a28 h,a28 (by omega)]
  have:=d0V (k:=k) (m:=m) (by omega)
  rw[←e]at this;rw[show(18446744073709551616:Nat)=2^64 from rfl,this];exact a0K (by omega)
 have j:((N:Int)==0)=false:=by grind
 unfold a1y;rw[hb,j,cF];have f:wrap .u64 (((2^k:Nat):Int)*285870213051353865)=(((2^k*285870213051353865)%18446744073709551616:Nat):Int):=by
  rfl
 have a:=c8s k i;generalize (2^k*285870213051353865)%18446744073709551616=M at f a;have c:=a6w (N:=M) (o:=58) (by omega);rw[f,show(58:Int)=((58:Nat):Int)from rfl,c,show 2^58=288230376151711744 from rfl];generalize M / 288230376151711744=J at a
 grind[a0D,a0C]
theorem c8u{n:Nat}(g:n≤62)(c:Int):A0i .i64 (((2^n:Nat):Int)*c) (n:Int)=c:=by
 have hp:0<2^n:=a18 n;have e:min (a25 (n:Int)) (IntKind.bits .i64)=n:=by grind[IntKind.bits]
 have h:((2^n:Nat):Int)=2^n:=by simp
 unfold A0i
 grind[a75]
theorem c5e{l:List Int}(g:short l):∀(k i:Nat)(a:Int),i+k=l.length→y0m a5m (a,l,(l.length:Int),(i:Int),())=some (orI (l.drop i) a,())
 |0,i,a,h=>by
  obtain rfl:i=l.length:=by omega
  simp_all[a0E,a5m,orI]
 |k+1,i,a,h=>by
  have hi:i<l.length:=by omega
  have f:l.length<1000000:=g;rw[a03 hi,a0F (s':=(bits .i64 .or a l[i],l,(l.length:Int),((i+1:Nat):Int),())) (by
   simp only[a5m,dlt hi,cT,a0D hi,oB,a0B (show i<1000000 by omega)])]
  exact c5e g k (i+1) _ (by omega)
theorem c4N{l:List Int}{r:Nat}(g:r≤30)(h:r=30∨¬ ((2^(r+1):Nat):Int) ∣ orI l 0):r=30∨∃x∈l,¬ ((2^(r+1):Nat):Int) ∣ x:=by
 grind[b5t,a98]
theorem b8Q{l:List Int}(y:short l)(j:l.all a0A=true):∃w:Nat,a3A l=some (w:Int)∧w≤30∧a8M l w:=by
 have a:=c5e y l.length 0 0 (by omega);simp at a;unfold a3A;simp[a]
 by_cases hz:∀x∈l,x=0
 have e:=c3D l hz;exact⟨0,by simp_all,by omega,.inl ⟨hz,rfl⟩⟩
 ·have g:∃x∈l,x≠0:=Classical.byContradiction fun m=>hz fun x g=>Classical.byContradiction fun s=>m ⟨x,g,s⟩;have t:=d2n j g;have n:(orI l 0==0)=false:=by simp_all
  obtain⟨q,u⟩:∃q,wrap .u64 (orI l 0)=orI l 0+18446744073709551616*q:=⟨-(orI l 0 / 18446744073709551616),by
   grind[wrap,IntKind.bits,IntKind.signed]⟩
  obtain⟨B,r2⟩:=b8n (orI l 0);obtain⟨N,d⟩:=a01 B;have b:∀v,v≤64→(2^v ∣ N↔((2^v:Nat):Int) ∣ orI l 0):=fun v hv=>by
   rw[←a22,←d,u]
   grind[a79,a58,p64]
  have h:0<N:=by
   refine Nat.pos_of_ne_zero fun C=>?_
   obtain⟨x,f,A⟩:=g;have E:=((b5t (w:=62) (by omega) l 0).1 ((b 62 (by omega)).1 (by omega))).2 x f;have z:=a1D.1 (lA.1 j x f);omega
  obtain⟨k,p,c,r⟩:=c8t h (by omega);have i:k≤63:=by
   refine Nat.le_of_not_lt fun o=>?_
   have a:2^64≤2^k:=a16 (by simp) (by omega)
   have:=Nat.le_of_dvd h c
   omega
  simp only[n,cF,d,p,oB];have D:v0n (k:Int) 30=((min k 30:Nat):Int):=by rw[b5f];omega
  refine⟨min k 30,by grind,by omega,.inr ⟨g,by omega,?_,?_⟩⟩
  all_goals grind[b5t,Nat.dvd_trans,a68,c4N]
theorem d0W(g:w≤30)(d:l.all a0A=true)(h:a8M l w):b1b (w:Int) l=some (l.map fun x=>A0i .i64 x (w:Int)):=by
 have f:∀x∈l,((2^w:Nat):Int) ∣ x:=by
  rcases h with⟨h,-⟩|⟨-,-,h,-⟩
  all_goals grind[a98]
 have:l.all (b2e (w:Int))=true:=by
  rw[lA];intro x k;obtain⟨c,a⟩:=f x k;have b:a31 x (A0h .i64 1 (w:Int))=0:=by simp_all[c3t]
  simp_all[b2e]
 simp only[b1b,this,cT]
def b7o(k:Nat)(l:List Int):Nat:=(l.map (a5C k)).sum
def rbN(l:List Int):Nat→Nat
 |0=>0
 |i+1=>if b7o (i+1) l<b7o (rbN l i) l then i+1 else rbN l i
theorem c3F(l:List Int):∀i,rbN l i≤i
 |0=>a34 _
 |i+1=>by
  have:=c3F l i
  simp only[rbN]
  split<;>omega
theorem b5V{k:Nat}(h:k≤25)(f:l.all a0A=true)(g:l.length<10000):a3j ((k:Int),l)=some ((b7o k l:Nat):Int):=b8o h f g
theorem d2o(h:a<b):decide ((a:Int)<(b:Int))=true:=decide_eq_true (by omega)
theorem c6i(h:¬ a<b):decide ((a:Int)<(b:Int))=false:=decide_eq_false (by omega)
theorem b7p(g:l.all a0A=true)(h:l.length<10000):b1V l=some ((rbN l 25:Nat):Int):=by
 have:=a1w (f:=a8D) (fun i:Nat=>(l,((rbN l i:Nat):Int),((b7o (rbN l i) l:Nat):Int),((i+1:Nat):Int),())) 25 (b:=(((rbN l 25:Nat):Int),()))
  (fun i hi=>by
   have a:decide (((i+1:Nat):Int)≤25)=true:=decide_eq_true (by omega);have d:wrap .i64 (((i+1:Nat):Int)+1)=((i+1+1:Nat):Int):=a0B (by omega);have c:=b5V (k:=i+1) (by omega) g h
   by_cases hlt:b7o (i+1) l<b7o (rbN l i) l
   simp_all[a8D,rbN];simp only[a8D,a,cT,cF,c,oB,d,c6i hlt,rbN,hlt,if_false])
  (by
   rfl)
 have m:=b5V (k:=0) (by omega) g h;have j:((0+1:Nat):Int)=1:=rfl;have e:rbN l 0=0:=rfl;simp_all[b1V]
def b3l(l:List Int):Int:=if 5+a0I l*l.length<b7o (rbN l 25) l then 31 else((rbN l 25:Nat):Int)
theorem c6j(l:List Int):kB (b3l l)=true:=by
 have:=c3F l 25
 unfold b3l;split;rfl;simp only[kB,a41,bA,dT];omega
theorem b9Q(g:l.all a0A=true)(h:l.length<10000):a8E l=some (b3l l):=by
 have a:=c3F l 25;have f:=b5V (k:=rbN l 25) a g h;unfold a8E b3l
 by_cases hlt:5+a0I l*l.length<b7o (rbN l 25) l
 simp only[b7p g h,b3Q h,f,oB,d2o hlt,cT,hlt,if_true];simp only[b7p g h,b3Q h,f,oB,c6i hlt,cF,hlt,if_false]
def a2C:List Nat→List Int→List Int
 | [],_=>[]
 |z::zs,l=>b3l (l.take z)::a2C zs (l.drop z)
theorem b5u:∀zs l,(a2C zs l).length=zs.length
 | [],_=>rfl
 |z::zs,l=>by simp[a2C,b5u zs]
theorem b9R:∀zs l,(a2C zs l).all kB=true
 | [],_=>rfl
 |z::zs,l=>by simp[a2C,b9R zs,c6j]
theorem b6I{zn:List Nat}{n warm most least order:Int}{L:List Int}{a b:Prt}(m:zn.length≤256):∀(j i:Nat)(rest ks:List Int),i+j=zn.length→(zn.drop i).sum=rest.length→rest.all a0A=true→rest.length≤5000→ks.length=i→
  y0m a7Q (n,warm,most,L,least,order,rest,((zn.length:Nat):Int),(i:Int),a1n zn,a,b,(order,ks,()),())=some (n,warm,most,L,least,order,a,b,(order,ks++a2C (zn.drop i) rest,()),())
 |0,i,rest,ks,h,_,_,_,_=>by
  obtain rfl:i=zn.length:=by omega
  simp_all[a0E,a7Q,a2C]
 |j+1,i,rest,ks,h,hr,hwr,hr5,hki=>by
  have g:i<zn.length:=by omega
  rw[b5L g]at hr;have k:decide ((0:Int)≤(i:Int))=true:=by simp
  have c:decide ((i:Int)<(((a1n zn).length:Nat):Int))=true:=by simp_all[a1u]
  have d:decide ((0:Int)≤((zn[i]:Nat):Int))=true:=by simp
  have e:decide (((zn[i]:Nat):Int)≤((rest.length:Nat):Int))=true:=by grind
  have l:=b9Q (b5R hwr zn[i]) (by grind);have f:lim (ks.length+1)=true:=a0U (by omega);rw[a03 g,a0F (s':=(n,warm,most,L,least,order,rest.drop zn[i],((zn.length:Nat):Int),((i+1:Nat):Int),a1n zn,a,b,(order,ks++[b3l (rest.take zn[i])],()),())) (by
   simp only[a7Q,dlt g,k,c,a8j g,d,e,cT,a02,tN,l,oB,f,a20,a0B (show i<1000000 by omega),a08])]
  rw[b6I m j (i+1) _ _ (by omega) (by grind) (c8q hwr _) (by grind) (by simp_all)];simp_all[a2C]
def zsN(o n warm:Int):List Nat:=(a1G o n warm).map a25
def b3g(o n warm:Int)(l:List Int):Prt:=(o,a2C (zsN o n warm) l,())
def b9S(o n warm:Int)(l:List Int):Nat:=4+a5D (zsN o n warm) (a2C (zsN o n warm) l) l
def a1A(n warm:Int)(l:List Int):Nat→Prt×Nat
 |0=>((0,[],()),0)
 |i+1=>if(a1G (i:Int) n warm).length=0 then a1A n warm l i else
   if(a1A n warm l i).2=0∨b9S (i:Int) n warm l<(a1A n warm l i).2 then(b3g (i:Int) n warm l,b9S (i:Int) n warm l)else a1A n warm l i
def b7G(n warm:Int)(l:List Int):Prt:=(a1A n warm l 7).1
theorem c5f(b:(a1G (o:Int) n warm).length≠0)(a:(l.length:Int)=n-warm)(c:l.all a0A=true)(k:l.length≤5000):
  ∃h,a1G (o:Int) n warm=a1n h∧zsN (o:Int) n warm=h∧h.length≤256∧h.sum=l.length∧a5A (b3g (o:Int) n warm l) n warm=true∧PartsOk (b3g (o:Int) n warm l) n warm l h:=by
 obtain⟨h,e,i,j⟩:=b4R b;have d:zsN (o:Int) n warm=h:=by simp_all[zsN,b4S]
 have hp:a5A (b3g (o:Int) n warm l) n warm=true:=by
  simp only[a5A,b3g,bA,a24,beq_eq_false_iff_ne,ne_eq,beq_iff_eq];simp_all[a1u,b5u,b9R]
 obtain⟨f,g⟩:=PartsOk.of hp a c k
 have:f=h:=by
  have m:=g.sizes
  grind[b3g,b4S]
 grind
theorem b5W{n warm:Int}{l:List Int}(b:a6n n warm=true)(f:(l.length:Int)=n-warm)(a:l.all a0A=true)(g:l.length≤5000):∀i,1≤i→(a1A n warm l i).2≠0∧a5A (a1A n warm l i).1 n warm=true
 |0,h=>absurd h (by omega)
 |i+1,_=>by
  by_cases hs:(a1G (i:Int) n warm).length=0
  ·simp only[a1A,hs,if_true];cases i with
   |zero=>grind[c6b]
   |succ i=>exact b5W b f a g (i+1) (by omega)
  ·obtain⟨c,-,-,-,-,hp,-⟩:=c5f hs f a g;simp only[a1A,hs,if_false];split;simp_all[b9S]
   ·rename_i k;cases i with
    |zero=>exact absurd (Or.inl rfl) k
    |succ i=>exact b5W b f a g (i+1) (by omega)
theorem c8v(f:a6n n warm=true)(g:(l.length:Int)=n-warm)(k:l.all a0A=true)(h:l.length≤5000):a5A (b7G n warm l) n warm=true:=
 (b5W f g k h 7 (by omega)).2
theorem c2F(z:a6n n warm=true)(x:(l.length:Int)=n-warm)(t:l.all a0A=true)(s:l.length≤5000):
  b0Q (n,warm,(6:Int),l)=some (b7G n warm l,0):=by
 have:=a1w (f:=a3B) (fun i:Nat=>(n,warm,(6:Int),l,(((a1A n warm l i).2:Nat):Int),(i:Int),((0:Int),([]:List Int),()),(a1A n warm l i).1,())) 7 (b:=(((0:Int),([]:List Int),()),b7G n warm l,()))
  (fun i hi=>by
   have j:decide ((i:Int)≤v0n (v0m 6 0) 8)=true:=decide_eq_true (by have:v0n (v0m 6 0) 8=6:=rfl;omega);have r:wrap .i64 ((i:Int)+1)=((i+1:Nat):Int):=a0B (by omega)
   by_cases hs:(a1G (i:Int) n warm).length=0
   simp_all[a1A,a3B,a1Y];have hb:((((a1G (i:Int) n warm).length:Nat):Int)==0)=false:=by simp_all
   obtain⟨h,p,o,w,y,-,q⟩:=c5f hs x t s;have d:=b6I (n:=n) (warm:=warm) (most:=6) (least:=(((a1A n warm l i).2:Nat):Int)) (order:=(i:Int)) (L:=l) (a:=((0:Int),([]:List Int),())) (b:=(a1A n warm l i).1) w h.length 0 l [] (by omega) (by simp_all) t s rfl;simp at d;have e:=c2B q;simp only[b3g,o]at e;have k:(((h.length:Nat):Int)==0)=false:=by simp_all[a1u]
   have m:(((a1n h).length:Nat):Int)=((h.length:Nat):Int):=by rw[a1u]
   have v:b3g (i:Int) n warm l=((i:Int),a2C h l,()):=by simp only[b3g,o]
   have u:b9S (i:Int) n warm l=4+a5D h (a2C h l) l:=by simp only[b9S,o]
   by_cases hz:(a1A n warm l i).2=0
   have g:((((a1A n warm l i).2:Nat):Int)==0)=true:=by simp_all
   have c:a1A n warm l (i+1)=(((i:Int),a2C h l,()),4+a5D h (a2C h l) l):=by simp_all[a1A]
   simp only[a3B,j,cT,a1Y,oB,p,m,k,cF,d,e,r,c,g];have g:((((a1A n warm l i).2:Nat):Int)==0)=false:=by simp_all
   by_cases hlt:4+a5D h (a2C h l) l<(a1A n warm l i).2
   have c:a1A n warm l (i+1)=(((i:Int),a2C h l,()),4+a5D h (a2C h l) l):=by simp_all[a1A]
   simp only[a3B,j,cT,a1Y,oB,p,m,k,cF,d,e,r,c,g,d2o hlt];have c:a1A n warm l (i+1)=a1A n warm l i:=by simp only[a1A,hs,if_false,hz,false_or,v,u,hlt]
   simp only[a3B,j,cT,a1Y,oB,p,m,k,cF,d,e,r,c,g,c6i hlt])
  (by
   rfl)
 simp_all[a1A,b0Q,b1x]
def a0Y(k:Int)(s:Sub):Sub:=
 (k,(0:Int),(if k=2 then s.2.2.1 else 0),(if k=3∨k=4 then s.2.2.2.1 else 0),(if k=4 then s.2.2.2.2.1 else 0),(if k=3∨k=4 then s.2.2.2.2.2.1 else[]),
  ((if k=4 then s.2.2.2.2.2.2.1 else a00 3 (0:Int)),(if k=5 then s.2.2.2.2.2.2.2.1 else[]),([]:List Int),((0:Int),([]:List Int),()),([]:List Int),()))
def z0:Prt:=((0:Int),([]:List Int),())
def a1I(s:Sub)(w:Nat)(wm:List Int)(p:Prt)(r:List Int):Sub:=
 (s.1,(w:Int),s.2.2.1,s.2.2.2.1,s.2.2.2.2.1,s.2.2.2.2.2.1,s.2.2.2.2.2.2.1,s.2.2.2.2.2.2.2.1,wm,p,r,())
theorem c7k(h:SmallS s)(k:Int):a6b (k,s)=some (a0Y k s):=by
 have f:short s.2.2.2.2.2.1:=by have:=h.coefs;unfold short;omega
 have g:short s.2.2.2.2.2.2.2.1:=by have:=h.stages;unfold short;omega
 grind[a6b,a0Y,b5K,b8k]
theorem c3G(h:SmallS s)(k:Int):SmallS (a0Y k s):=by
 have g:=h.coefs;have f:=h.taps;have a:=h.stages;refine⟨?_,?_,?_,by simp[a0Y],by simp[a0Y],by simp[a0Y]⟩<;>simp only[a0Y]<;>split<;>first|omega|simp
theorem c6k:a3O (a0Y k s).1 (a0Y k s) n↔a3O k s n:=by
 unfold a3O a0Y
 grind
open Classical in
def a2U (l:List Int):Nat:=if h:∃w,a8M l w then h.choose else 0
theorem d0X{l:List Int}{w:Nat}(h:a8M l w):a2U l=w:=by
 unfold a2U;rw[dif_pos ⟨w,h⟩];exact(Classical.choose_spec (⟨w,h⟩:∃w,a8M l w)).unique h
def a1e(l:List Int):List Int:=l.map fun x=>A0i .i64 x (a2U l:Int)
theorem a9l(h:short l)(g:l.all a0A=true):a3A l=some ((a2U l:Nat):Int)∧a2U l≤30∧a8M l (a2U l):=by
 grind[b8Q,d0X]
theorem a6R(a:l.length≤4096)(f:l.all a0A=true):b1b ((a2U l:Nat):Int) l=some (a1e l)∧(a1e l).all a0A=true∧(a1e l).length=l.length∧upO ((a2U l:Nat):Int) (a1e l)=some l:=by
 obtain⟨-,g,k⟩:=a9l (show short l by unfold short;omega) f;have h:=d0W g f k;exact⟨h,d0U g h⟩
def a4T(k:Int)(s:Sub)(d:List Int):Option (List Int×List Int):=
 if k=2 then(bif (a1J s.2.2.1.toNat d).all a0A then some (d.take s.2.2.1.toNat,a1J s.2.2.1.toNat d)else none)
 else if k=3 then(b5S d s.2.2.2.2.2.1 s.2.2.2.1).map fun r=>(d.take s.2.2.2.2.2.1.length,r)
 else if k=4 then(b5s d s.2.2.2.2.1 s.2.2.2.2.2.2.1).bind fun x=>(b5S x s.2.2.2.2.2.1 s.2.2.2.1).map fun r=>(x.take s.2.2.2.2.2.1.length,r)
 else(b3k d s.2.2.2.2.2.2.2.1).map fun r=>([],r)
theorem c3H(j:k=2∨k=3∨k=4∨k=5)(i:a3O k s (d.length:Int))(n:d.all a0A=true)(h:a4T k s d=some (wm,r)):
  wm.length≤d.length∧r.length=d.length-wm.length∧r.all a0A=true∧wm.all a0A=true:=by
 have f:=i;simp only[a3O]at f;rcases j with rfl|rfl|rfl|rfl
 ·have:0≤s.2.2.1∧s.2.2.1≤(d.length:Int):=by omega
  simp[a4T]at h;cases hq:(a1J s.2.2.1.toNat d).all a0A with
  |false=>simp_all
  |true=>
   simp[hq]at h;obtain⟨rfl,rfl⟩:=h;simp_all[a5M,b5R]
 have:(s.2.2.2.2.2.1.length:Int)≤(d.length:Int):=by omega
 simp only[a4T,show ¬ (3:Int)=2 by simp,if_false,if_true,a26,pJ]at h;obtain⟨c,g,rfl,rfl⟩:=h;obtain⟨-,a,b⟩:=b5T g
 grind
 have:(s.2.2.2.2.2.1.length:Int)≤(d.length:Int):=by omega
 simp only[a4T,show ¬ (4:Int)=2 by simp,show ¬ (4:Int)=3 by simp,if_false,if_true,a33,a26,pJ]at h;obtain⟨x,e,c,g,rfl,rfl⟩:=h;obtain⟨-,l,m⟩:=b7n e;obtain⟨-,a,b⟩:=b5T g
 grind
 simp only[a4T,show ¬ (5:Int)=2 by simp,show ¬ (5:Int)=3 by simp,show ¬ (5:Int)=4 by simp,if_false,a26,pJ]at h;obtain⟨c,g,rfl,rfl⟩:=h;obtain⟨-,a,b⟩:=b9P g;simp_all
theorem c8w(v:k=2∨k=3∨k=4∨k=5)(h:SmallS s)(q:a3O k s (d.length:Int))(D:d.length≤4096)(y:d.all a0A=true)(w:Nat):
  b1U (a1I (a0Y k s) w [] z0 [],d)=some (match a4T k s d with|none=>(6,a1I (a0Y k s) w [] z0 [])|some (wm,r)=>(0,a1I (a0Y k s) w wm z0 r)):=by
 have l:=h.taps;have g:=h.stages;have i:short d:=by unfold short;omega
 obtain⟨k',w',o,sh,lag,c,t,st,z,p,E,u⟩:=s;simp only[a3O]at q l g;unfold b1U;rcases v with rfl|rfl|rfl|rfl;obtain⟨n,C,e⟩:0≤o∧o≤4∧o≤(d.length:Int):=by omega
 obtain⟨O,rfl⟩:=a01 n;have g:short (d.take O):=by unfold short;grind
 have j:decide ((O:Int)≤((d.length:Nat):Int))=true:=by simp_all
 simp only[a1I,a0Y,a4T,if_true,show((2:Int)==2)=true from rfl,cT,b6G (show O≤4 by omega) (show O≤d.length by omega) i y,oB,tN]
 grind[b2q,a2k,a8h]
 ·obtain⟨f,e⟩:a9F c sh=true∧(c.length:Int)≤(d.length:Int):=by simp_all
  have g:short (d.take c.length):=by unfold short;grind
  have m:decide ((0:Int)≤((c.length:Nat):Int))=true:=by simp
  have j:decide (((c.length:Nat):Int)≤((d.length:Nat):Int))=true:=by simp_all
  simp only[a1I,a0Y,a4T,show((3:Int)==2)=false from rfl,show((3:Int)==3)=true from rfl,show ¬ (3:Int)=2 by simp,show ¬ (3:Int)=4 by simp,show ¬ (3:Int)=5 by simp,true_or,if_true,if_false,cT,cF,b5r f (show c.length≤d.length by omega) (show d.length<100000 by omega),oB];cases b5S d c sh with
  |none=>rfl
  |some r=>simp_all[a4V,b2q,a2k,a8h]
 ·obtain⟨f,e,a⟩:a9F c sh=true∧(c.length:Int)≤(d.length:Int)∧b2b lag t=true:=by simp_all
  simp[a1I,a0Y,a4T,c3A a l (show d.length<100000 by omega)];cases hx:b5s d lag t with
  |none=>rfl
  |some x=>
   obtain⟨-,A,B⟩:=b7n hx;have g:short (x.take c.length):=by unfold short;grind
   have m:decide ((0:Int)≤((c.length:Nat):Int))=true:=by simp
   have j:decide (((c.length:Nat):Int)≤((x.length:Nat):Int))=true:=by simp_all
   simp[a4V,b5r f (show c.length≤x.length by omega) (show x.length<100000 by omega)]
   grind[b2q,a2k,a8h]
 ·obtain⟨e,b⟩:0<st.length∧a9k st=true:=by simp_all
  have g:short (d.take 0):=by simp[short]
  simp only[a1I,a0Y,a4T,show((5:Int)==2)=false from rfl,show((5:Int)==3)=false from rfl,show((5:Int)==4)=false from rfl,show((5:Int)==5)=true from rfl,show ¬ (5:Int)=2 by simp,show ¬ (5:Int)=3 by simp,show ¬ (5:Int)=4 by simp,or_self,if_true,if_false,cT,cF,c2E b (show d.length<100000 by omega),oB];cases b3k d st with
  |none=>rfl
  |some r=>
   rfl
open Classical in

def a1q (k:Int) (l:List Int) (s:Sub):Sub×Int:=
 if ¬ (1≤l.length∧l.length≤4096∧a3O k s (l.length:Int))then(a1M 0,1)
 else if l.all a0A=false then(a1M 0,6)
 else if k=0 then(bif l.all (fun x=>x==l.headD 0)then(a1I (a0Y 0 s) 0 [l.headD 0] z0 [],0)else(a1M 0,7))
 else if k=1 then(a1I (a0Y 1 s) (a2U l) (a1e l) z0 [],0)
 else match a4T k s (a1e l)with
  |none=>(a1M 0,6)
  |some (wm,r)=>(a1I (a0Y k s) (a2U l) wm (b7G (l.length:Int) (wm.length:Int) r) r,0)
theorem c6l(h:1≤l.length):m0h l 0=some (l.headD 0):=by
 cases l with
 |nil=>grind
 |cons a l=>rfl
theorem c3I(k:1≤l.length)(c:short l)(a b:Sub):
  y0m a5c (l,l,(l.length:Int),(0:Int),a,b,())=some (bif l.all (fun x=>x==l.headD 0)then .inl (l,a,b,())else .inr ((7:Int),a1M 0,())):=by
 have:=a1Q (f:=a5c) l (fun i=>(l,l,(l.length:Int),(i:Int),a,b,())) (fun x=>x==l.headD 0) (bt:=Sum.inl (l,a,b,())) (bf:=Sum.inr ((7:Int),a1M 0,()))
  (fun i h hp=>by
   have g:(l[i] != l.headD 0)=false:=by simp_all
   simp only[a5c,dlt h,cT,a0D h,oB,c6l k,g,cF,a0B (a32 h c)])
  (fun i h hp=>by
   have g:(l[i] != l.headD 0)=true:=by simp_all
   simp only[a5c,dlt h,cT,a0D h,oB,c6l k,g];rfl)
  (by simp[a5c])
 omega
theorem b8p(h:a3O k s n)(g:k≠0)(f:k≠1):k=2∨k=3∨k=4∨k=5:=by
 rcases h with h|h|⟨h,-⟩|⟨h,-⟩|⟨h,-⟩|⟨h,-⟩;omega;omega
 all_goals omega
theorem d0Y(h:SmallS s)(k:Int)(D:l.length≤100000):b2V (k,l,s)=some (a1q k l s):=by
 have j:short l:=by unfold short;omega
 unfold b2V a1q
 by_cases h1:1≤l.length
 rotate_left;have e:decide (((l.length:Nat):Int)<1)=true:=decide_eq_true (by omega);rw[if_pos (fun g=>h1 g.1)];simp only[e,cT,oB];rfl;have a:decide (((l.length:Nat):Int)<1)=false:=decide_eq_false (by omega)
 by_cases h2:l.length≤4096
 rotate_left;have e:decide (((l.length:Nat):Int) > 4096)=true:=decide_eq_true (by omega);rw[if_pos (fun g=>h2 g.2.1)];simp only[a,e,cT,cF,oB];rfl;have o:decide (((l.length:Nat):Int) > 4096)=false:=decide_eq_false (by omega)
 by_cases h3:a3O k s (l.length:Int)
 rotate_left;have b:b3N k s (l.length:Int)=false:=by simp[b3N,h3]
 rw[if_pos (fun g=>h3 g.2.2)];simp only[a,o,b5l h,b,cF,a46,cT,oB];rfl;have b:b3N k s (l.length:Int)=true:=by simp[b3N,h3]
 rw[if_neg (fun g=>g ⟨h1,h2,h3⟩)];simp only[a,o,b5l h,b,cF,bT,oB,a4s j];cases hw:l.all a0A with
 |false=>rfl
 |true=>
  simp only[bT,cF,c7k h,oB];rw[if_neg (by simp)]
  by_cases h0:k=0
  ·subst h0;have w:=c3I h1 j (a1M 0) (a0Y 0 s);have v:a1M 0=((0:Int),(0:Int),(0:Int),(0:Int),(0:Int),([]:(List Int)),a00 3 (0:Int),([]:(List (Int×Int×Unit))),([]:(List Int)),((0:Int),([]:(List Int)),()),([]:(List Int)),()):=rfl;rw[←v,if_pos rfl];simp only[show((0:Int)==0)=true from rfl,cT,w,oB];cases l.all (fun x=>x==l.headD 0)with
   |false=>rfl
   |true=>simp only[cT,c6l h1,oB];rfl
  ·obtain⟨z,A,-⟩:=a9l j hw;obtain⟨t,n,C,-⟩:=a6R h2 hw;have c:(k==0)=false:=by grind
   rw[if_neg h0];simp only[c,cF,z,oB,b5q A (show l.length<100000 by omega),t,a4V,show((0:Int) != 0)=false from rfl]
   by_cases hk1:k=1
   subst hk1;rfl
   ·have i:(k==1)=false:=by simp_all
    have p:=b8p h3 h0 hk1;rw[if_neg hk1];have m:=c8w p h (d:=a1e l) (by simp_all) (by omega) n (a2U l);have u:((a0Y k s).1,((a2U l:Nat):Int),(a0Y k s).2.2)=a1I (a0Y k s) (a2U l) [] z0 []:=rfl;simp only[i,cF,u,m,oB];cases hr:a4T k s (a1e l)with
    |none=>rfl
    |some q=>
     obtain⟨B,r⟩:=q;obtain⟨E,r2,y,-⟩:=c3H p (by simp_all) n hr;have f:a6n (l.length:Int) (B.length:Int)=true:=by simp_all[a6n]
     have hb:=c2F f (l:=r) (by omega) y (by omega);simp only[show((0:Int) != 0)=false from rfl,cF,a1I,hb,oB]
theorem c7l(h:a5A p n warm=true):p.2.1.length≤256:=by
 simp only[a5A,bA,a24,beq_eq_false_iff_ne,ne_eq,beq_iff_eq]at h;obtain⟨k,g,-,f⟩:=b4R h.1;rw[←h.2.1,g,a1u];exact f
theorem b5X(h:SmallS s)(g:wm.length≤5000)(f:r.length≤5000)(k:p.2.1.length≤300):SmallS (a1I s w wm p r):=
 ⟨h.coefs,h.taps,h.stages,g,f,k⟩
theorem c6m(g:(a1q k l s).2=0):
  1≤l.length∧l.length≤4096∧a3O k s (l.length:Int)∧l.all a0A=true∧
   ((k=0∧l.all (fun x=>x==l.headD 0)=true∧(a1q k l s).1=a1I (a0Y 0 s) 0 [l.headD 0] z0 [])∨
    (k=1∧(a1q k l s).1=a1I (a0Y 1 s) (a2U l) (a1e l) z0 [])∨
     ((k=2∨k=3∨k=4∨k=5)∧∃c r,a4T k s (a1e l)=some (c,r)∧(a1q k l s).1=a1I (a0Y k s) (a2U l) c (b7G (l.length:Int) (c.length:Int) r) r)):=by
 unfold a1q at g⊢
 split at g
 cases g;rename_i f;have f:1≤l.length∧l.length≤4096∧a3O k s (l.length:Int):=Classical.byContradiction f;refine⟨f.1,f.2.1,f.2.2,?_⟩;rw[if_neg (fun h=>h f)]
 split at g
 cases g;rename_i e;have d:l.all a0A=true:=by simpa using e
 refine⟨d,?_⟩;rw[if_neg e]
 split at g
 ·rename_i a;rw[if_pos a];cases hq:l.all (fun x=>x==l.headD 0)with
  |false=>rw[hq]at g;cases g
  |true=>exact .inl ⟨a,rfl,rfl⟩
 rename_i a;rw[if_neg a]
 split at g
 rename_i b;rw[if_pos b];exact .inr (.inl ⟨b,rfl⟩);rename_i b;rw[if_neg b];refine .inr (.inr ⟨b8p f.2.2 a b,?_⟩);cases hr:a4T k s (a1e l)with
 |none=>rw[hr]at g;cases g
 |some q=>
  obtain⟨c,r⟩:=q;exact⟨c,r,rfl,rfl⟩
theorem b3U:b5m (a1I (a0Y k s) w wm p r):=by
 unfold b5m a1I a0Y;refine⟨fun h=>if_neg h,fun h=>if_neg (not_or.2 h),fun h=>if_neg h,fun h=>if_neg h,fun h=>if_neg (not_or.2 h),fun h=>if_neg h⟩
theorem b8R(h:a3O k s n):a3O (a1I (a0Y k s) w wm p r).1 (a1I (a0Y k s) w wm p r) n:=c6k.2 h
theorem c8x(h:l.all (fun x=>x==l.headD 0)=true):a00 l.length (l.headD 0)=l:=by
 refine(List.eq_replicate_iff.2 ⟨rfl,fun x g=>?_⟩).symm
 have:=lA.1 h x g
 simpa using this
theorem c1o(L:SmallS s)(I:(a1q k l s).2=0):
  SmallS (a1q k l s).1∧(a1q k l s).1.1=k∧a1s (a1q k l s).1 (l.length:Int)∧a2j (a1q k l s).1 (l.length:Int)=some l:=by
 obtain⟨T,K,b,z,M⟩:=c6m I;have P:short l:=by unfold short;omega
 obtain⟨-,Y,-⟩:=a9l P z;obtain⟨R,w,B,C⟩:=a6R K z;have n:∀m:Sub,a1s m (l.length:Int)→c3j m (l.length:Int)=some l→a2j m (l.length:Int)=some l:=fun m c d=>by unfold a2j;rw[if_pos c,d]
 have i:=c3G L k;rcases M with⟨rfl,t,e⟩|⟨rfl,e⟩|⟨y,q,r,f,e⟩
 ·rw[e];have g:a1s (a1I (a0Y 0 s) 0 [l.headD 0] z0 []) (l.length:Int):=by
   have N:a0A (l.headD 0)=true:=by
    cases l with
    |nil=>rfl
    |cons a l=>exact lA.1 z _ a71
   exact⟨by omega,by omega,b8R b,b3U,Int.le_refl _,(by decide:(0:Int)≤30),fun _=>rfl,rfl,by simp only[a1I,a06,N,List.all_nil];rfl,rfl,fun _=>⟨rfl,rfl,rfl⟩,fun h=>absurd rfl h.1⟩
  refine⟨b5X i (by simp) (by simp) (by simp[z0]),rfl,g,n _ g ?_⟩;show some (a00 (l.length:Int).toNat (l.headD 0))=some l;rw[tN,c8x t]
 rw[e];have g:a1s (a1I (a0Y 1 s) (a2U l) (a1e l) z0 []) (l.length:Int):=
  ⟨by omega,by omega,b8R b,b3U,a72 _,(by show((a2U l:Nat):Int)≤30;omega),fun h=>absurd h (by decide:¬ (1:Int)=0),by show(((a1e l).length:Nat):Int)=(l.length:Int);rw[B],w,rfl,fun _=>⟨rfl,rfl,rfl⟩,fun h=>absurd rfl h.2⟩
 refine⟨b5X i (by omega) (by simp) (by simp[z0]),rfl,g,n _ g ?_⟩;show upO ((a2U l:Nat):Int) (a1e l)=some l;exact C
 ·rw[e];obtain⟨X,r2,E,Q⟩:=c3H y (by rw[B];exact b) w f;have u:a6n (l.length:Int) (q.length:Int)=true:=by simp only[a6n,bA,dT];omega
  have hp:=c8v u (l:=r) (by omega) E (by omega);generalize b7G (l.length:Int) (q.length:Int) r=p at hp;have O:=c7l hp

  have v:a2k (a1I (a0Y k s) (a2U l) q p r) (l.length:Int)=(q.length:Int)∧backP (a1I (a0Y k s) (a2U l) q p r)=some (a1e l):=by
   simp only[a3O]at b;rcases y with rfl|rfl|rfl|rfl
   ·obtain⟨U,V,D⟩:0≤s.2.2.1∧s.2.2.1≤4∧s.2.2.1≤(l.length:Int):=by simp at b;omega
    simp only[a4T,if_true]at f;cases hq:(a1J s.2.2.1.toNat (a1e l)).all a0A with
    |false=>simp[hq]at f
    |true=>
     simp only[hq,cT,sj,pJ]at f;obtain⟨rfl,rfl⟩:=f;refine⟨?_,?_⟩;show s.2.2.1=_;rw[a21];omega;show b8M ((a1e l).take s.2.2.1.toNat) (a1J s.2.2.1.toNat (a1e l)) s.2.2.1=some (a1e l);have hb:=c3s w (o:=s.2.2.1.toNat) (by omega) ((a1e l).length-s.2.2.1.toNat) 0 (by omega);rw[a23,a97]at hb;unfold b8M;rw[b5R w,hq];exact hb
   have D:(s.2.2.2.2.2.1.length:Int)≤(l.length:Int):=by simp at b;omega
   simp only[a4T,show ¬ (3:Int)=2 by decide,if_false,if_true,a26,pJ]at f;obtain⟨A,c,rfl,rfl⟩:=f;obtain⟨d,-,-⟩:=b5T c;refine⟨?_,?_⟩;show((s.2.2.2.2.2.1.length:Nat):Int)=_;rw[a21];omega;exact d;have D:(s.2.2.2.2.2.1.length:Int)≤(l.length:Int):=by simp at b;omega
   simp only[a4T,show ¬ (4:Int)=2 by decide,show ¬ (4:Int)=3 by decide,if_false,if_true,a33,a26,pJ]at f;obtain⟨x,H,A,c,rfl,rfl⟩:=f;obtain⟨G,-,S⟩:=b7n H;obtain⟨d,-,-⟩:=b5T c;refine⟨?_,?_⟩;show((s.2.2.2.2.2.1.length:Nat):Int)=_;rw[a21];omega;show(b3H (x.take s.2.2.2.2.2.1.length) A s.2.2.2.2.2.1 s.2.2.2.1).bind (fun l=>b4l l s.2.2.2.2.1 s.2.2.2.2.2.2.1)=_;rw[d];exact G;simp only[a4T,show ¬ (5:Int)=2 by decide,show ¬ (5:Int)=3 by decide,show ¬ (5:Int)=4 by decide,if_false,a26,pJ]at f;obtain⟨A,c,rfl,rfl⟩:=f;obtain⟨d,-,-⟩:=b9P c;exact⟨rfl,d⟩
  have j:¬ (k=0∨k=1):=by rcases y with rfl|rfl|rfl|rfl<;>decide
  have g:a1s (a1I (a0Y k s) (a2U l) q p r) (l.length:Int):=by
   unfold a1s;rw[v.1];exact⟨by omega,by omega,b8R b,b3U,a72 _,(by show((a2U l:Nat):Int)≤30;omega),fun h=>absurd (.inl h) j,rfl,Q,E,fun h=>absurd h j,fun _=>⟨(by show((r.length:Nat):Int)=_;omega),hp⟩⟩
  refine⟨b5X i (by omega) (by omega) (by omega),rfl,g,n _ g ?_⟩;have F:¬ (a1I (a0Y k s) (a2U l) q p r).1=0:=fun h=>j (.inl h);unfold c3j;rw[if_neg F,v.2];exact C
theorem c6n:SmallS (a1M 0):=c4G 0
def cS(k o sh:Int)(c:List Int)(st:List Stg):Sub:=
 (k,(0:Int),o,sh,(0:Int),c,a00 3 (0:Int),st,([]:List Int),((0:Int),([]:List Int),()),([]:List Int),())
theorem b1y{k o sh:Int}{c:List Int}{st:List Stg}(h:c.length≤40)(g:st.length≤6):SmallS (cS k o sh c st):=
 ⟨h,rfl,g,by simp[cS],by simp[cS],by simp[cS]⟩
def b3h(d:List Int)(o w:Int):List Int×(Int×Int):=(a3N (d,o,w)).getD ([],0,1)
def b1z(d:List Int)(o w:Int):List Sub:=bif (b3h d o w).2.2==0 then[cS 3 0 (b3h d o w).2.1 (b3h d o w).1 []]else[]
def c6o(d:List Int):Int:=(a6h d).getD 0
def b5Y(d:List Int):Sub×Bool:=(a3u d).getD (a1M 0,false)
def b8S(d:List Int):List Sub:=bif (b5Y d).2 then[(b5Y d).1]else[]
def b1A(i:Nat):List Sub:=(List.range i).map fun(j:Nat)=>cS 2 (j:Int) 0 [] []
def a2n(d:List Int):List Sub:=[cS 0 0 0 [] [],cS 1 0 0 [] [],cS 2 (c6o d) 0 [] []]
def a3E(d:List Int)(k:Int):List Sub:=if 1≤k then b1z d 4 12++b1z d 8 12 else[]
def b2h(d:List Int)(k:Int):List Sub:=if 2≤k then[cS 5 0 0 [] [((16:Int),(4:Int),())],cS 5 0 0 [] [((32:Int),(3:Int),()),((16:Int),(5:Int),())]]++b8S d else[]
def c2M(d:List Int)(k:Int):List Sub:=if 3≤k then b1A 5++(b1z d 1 12++(b1z d 2 12++(b1z d 12 14++b1z d 16 14)))else[]
def a4b(d:List Int)(k:Int):List Sub:=a2n d++(a3E d k++(b2h d k++c2M d k))
def b9T(d:List Int):Prop:=a3u d=some (b5Y d)∧((b5Y d).2=true→SmallS (b5Y d).1)
theorem c3J(a:d.all a0A=true)(k:d.length≤4096)(h:1≤o)(g:o≤32)(f:2≤w∧w≤16):
  a3N (d,(o:Int),(w:Int))=some (b3h d o w)∧((b3h d o w).2.2=0→(b3h d o w).1.length=o):=by
 obtain⟨c,sh,e,b,i⟩:=c7h a k h g f;unfold b3h;simp_all
theorem b1B(d:List Int)(o w:Int):(b1z d o w).length≤1:=by
 grind[b1z]
theorem b1C(c:d.all a0A=true)(b:d.length≤4096)(f:1≤o)(k:o≤32)(a:2≤w∧w≤16){L:List Sub}(e:L.length<1000):
  a0Q ((o:Int),(w:Int),d,L)=some (d,L++b1z d o w):=by
 obtain⟨g,-⟩:=c3J c b f k a;have h:lim (L.length+1)=true:=a0U (by omega);unfold a0Q b1z;simp only[g,oB];cases (b3h d o w).2.2==0 with
 |true=>simp only[cT,h];rfl
 |false=>simp
theorem c6p{L:List Sub}(k:L.length<1000):y0m a2p ((0:Int),L,d,())=some (L++b1A 5,d,()):=by
 have:=a1w (f:=a2p) (fun i:Nat=>((i:Int),L++b1A i,d,())) 5 (b:=(L++b1A 5,d,()))
  (fun i hi=>by
   have g:decide ((i:Int)<5)=true:=decide_eq_true (by omega);have h:lim ((L++b1A i).length+1)=true:=a0U (by simp[b1A];omega);have e:(L++b1A i)++[cS 2 (i:Int) 0 [] []]=L++b1A (i+1):=by simp[b1A,List.range_succ]
   rw[←e];simp only[a2p,g,cT,h,a0B (show i<1000000 by omega)];rfl)
  (by
   rfl)
 simp at this;rw[show b1A 0=[]from rfl,a42]at this;omega
theorem d0Z(a:d.all a0A=true)(c:d.length≤4096)(l:b9T d)(k:Int):a6L (d,k)=some (a4b d k):=by
 obtain⟨o,E,F⟩:=b9N (show d.length<100000 by omega) a;have hb:c6o d=(o:Int):=by simp_all[c6o]
 have D:(b8S d).length≤1:=by grind[b8S]
 have O:=b1B d 4 12;have P:=b1B d 8 12;have M:=b1B d 1 12;have N:=b1B d 2 12;have G:=b1B d 12 14;have y:=fun L (hL:L.length<1000)=>b1C (L:=L) a c (o:=4) (w:=12) (by omega) (by omega) (by omega) hL;have z:=fun L (hL:L.length<1000)=>b1C (L:=L) a c (o:=8) (w:=12) (by omega) (by omega) (by omega) hL;have v:=fun L (hL:L.length<1000)=>b1C (L:=L) a c (o:=1) (w:=12) (by omega) (by omega) (by omega) hL;have x:=fun L (hL:L.length<1000)=>b1C (L:=L) a c (o:=2) (w:=12) (by omega) (by omega) (by omega) hL;have i:=fun L (hL:L.length<1000)=>b1C (L:=L) a c (o:=12) (w:=14) (by omega) (by omega) (by omega) hL;have j:=fun L (hL:L.length<1000)=>b1C (L:=L) a c (o:=16) (w:=14) (by omega) (by omega) (by omega) hL;simp at y z v x i j;have Q:(a2n d).length=3:=rfl;have R:(a3E d k).length≤2:=by unfold a3E;split<;>simp<;>omega
 have S:(b2h d k).length≤3:=by unfold b2h;split<;>simp<;>omega
 have T:(b1A 5).length=5:=rfl;have K:(bif decide (k≥1)then((a0Q ((4:Int),(12:Int),d,a2n d)).bind fun n=>(a0Q ((8:Int),(12:Int),n.1,n.2)).bind fun p=>some (k,p.1,p.2,()))else some (k,d,a2n d,()))=some (k,d,a2n d++a3E d k,()):=by
  unfold a3E
  by_cases h:1≤k
  have e:decide (k≥1)=true:=decide_eq_true h;simp only[e,cT,y (a2n d) (by omega),oB,z (a2n d++b1z d 4 12) (by grind),if_pos h,aA]
  grind
 have C:a6L (d,k)=(a6h d).bind fun A=>
   (show Option (Int×((List Int)×((List Sub)×Unit)))from bif decide (k≥1)then((a0Q ((4:Int),(12:Int),d,[cS 0 0 0 [] [],cS 1 0 0 [] [],cS 2 A 0 [] []])).bind fun n=>(a0Q ((8:Int),(12:Int),n.1,n.2)).bind fun p=>some (k,p.1,p.2,()))else some (k,d,[cS 0 0 0 [] [],cS 1 0 0 [] [],cS 2 A 0 [] []],())).bind fun g=>
   (show Option (Int×((List Sub)×((List Int)×Unit)))from bif decide (g.1≥2)then(bif lim (g.2.2.1.length+1)then(bif lim ((g.2.2.1++[cS 5 0 0 [] [((16:Int),(4:Int),())]]).length+1)then((a3u g.2.1).bind fun q=>
    bif q.2 then(bif lim ((g.2.2.1++[cS 5 0 0 [] [((16:Int),(4:Int),())]]++[cS 5 0 0 [] [((32:Int),(3:Int),()),((16:Int),(5:Int),())]]).length+1)then some (g.1,g.2.2.1++[cS 5 0 0 [] [((16:Int),(4:Int),())]]++[cS 5 0 0 [] [((32:Int),(3:Int),()),((16:Int),(5:Int),())]]++[q.1],g.2.1,())else none)
    else some (g.1,g.2.2.1++[cS 5 0 0 [] [((16:Int),(4:Int),())]]++[cS 5 0 0 [] [((32:Int),(3:Int),()),((16:Int),(5:Int),())]],g.2.1,()))else none)else none)else some (g.1,g.2.2.1,g.2.1,())).bind fun t=>
   (show Option ((List Sub)×Unit)from bif decide (t.1≥3)then((y0m a2p ((0:Int),t.2.1,t.2.2.1,())).bind fun m=>(a0Q ((1:Int),(12:Int),m.2.1,m.1)).bind fun r=>(a0Q ((2:Int),(12:Int),r.1,r.2)).bind fun s=>
    (a0Q ((12:Int),(14:Int),s.1,s.2)).bind fun f=>(a0Q ((16:Int),(14:Int),f.1,f.2)).bind fun b=>some (b.2,()))else some (t.2.1,())).bind fun u=>some u.1:=rfl
 have B:[cS 0 0 0 [] [],cS 1 0 0 [] [],cS 2 (o:Int) 0 [] []]=a2n d:=by unfold a2n;grind
 have U:(bif decide (k≥2)then(bif lim ((a2n d++a3E d k).length+1)then(bif lim ((a2n d++a3E d k++[cS 5 0 0 [] [((16:Int),(4:Int),())]]).length+1)then((a3u d).bind fun q=>
    bif q.2 then(bif lim ((a2n d++a3E d k++[cS 5 0 0 [] [((16:Int),(4:Int),())]]++[cS 5 0 0 [] [((32:Int),(3:Int),()),((16:Int),(5:Int),())]]).length+1)then some (k,a2n d++a3E d k++[cS 5 0 0 [] [((16:Int),(4:Int),())]]++[cS 5 0 0 [] [((32:Int),(3:Int),()),((16:Int),(5:Int),())]]++[q.1],d,())else none)
    else some (k,a2n d++a3E d k++[cS 5 0 0 [] [((16:Int),(4:Int),())]]++[cS 5 0 0 [] [((32:Int),(3:Int),()),((16:Int),(5:Int),())]],d,()))else none)else none)else some (k,a2n d++a3E d k,d,()):Option (Int×((List Sub)×((List Int)×Unit))))=some (k,a2n d++(a3E d k++b2h d k),d,()):=by
  unfold b2h
  by_cases h:2≤k
  have e:decide (k≥2)=true:=decide_eq_true h;have q1:lim ((a2n d++a3E d k).length+1)=true:=a0U (by grind);have H:lim ((a2n d++a3E d k++[cS 5 0 0 [] [((16:Int),(4:Int),())]]).length+1)=true:=a0U (by simp;omega);have I:lim ((a2n d++a3E d k++[cS 5 0 0 [] [((16:Int),(4:Int),())]]++[cS 5 0 0 [] [((32:Int),(3:Int),()),((16:Int),(5:Int),())]]).length+1)=true:=a0U (by simp;omega);simp only[e,q1,H,I,cT,l.1,oB,if_pos h,b8S];cases (b5Y d).2<;>simp
  grind
 have V:(bif decide (k≥3)then((y0m a2p ((0:Int),a2n d++(a3E d k++b2h d k),d,())).bind fun m=>(a0Q ((1:Int),(12:Int),m.2.1,m.1)).bind fun r=>(a0Q ((2:Int),(12:Int),r.1,r.2)).bind fun s=>
    (a0Q ((12:Int),(14:Int),s.1,s.2)).bind fun f=>(a0Q ((16:Int),(14:Int),f.1,f.2)).bind fun b=>some (b.2,()))else some (a2n d++(a3E d k++b2h d k),()):Option ((List Sub)×Unit))=some (a4b d k,()):=by
  unfold a4b c2M
  by_cases h:3≤k
  have e:decide (k≥3)=true:=decide_eq_true h;simp only[e,cT,c6p (L:=a2n d++(a3E d k++b2h d k)) (by simp;omega),oB,if_pos h];rw[v _ (by simp;omega)];simp only[oB];rw[x _ (by simp;omega)];simp only[oB];rw[i _ (by simp;omega)];simp only[oB];rw[j _ (by simp;omega)]
  simp
  grind
 rw[C,E,oB,B];simp only[];rw[K];simp only[oB];simp_all
theorem b9U(l:d.all a0A=true)(i:d.length≤4096)(f:b9T d)(k:Int):∀c∈a4b d k,SmallS c:=by
 have g:∀(o w:Nat),1≤o→o≤32→2≤w∧w≤16→∀c∈b1z d o w,SmallS c:=fun o w a b e c h=>by
  obtain⟨-,m⟩:=c3J l i a b e;unfold b1z at h;cases he:(b3h d o w).2.2==0 with
  |false=>simp_all
  |true=>
   rw[he]at h;simp at h
   grind[b1y]
 intro c h;simp[a4b]at h;rcases h with h|h|h|h;simp[a2n]at h;rcases h with rfl|rfl|rfl<;>exact b1y (by simp) (by simp);unfold a3E at h
 split at h
 simp at h;rcases h with h|h;exact g 4 12 (by omega) (by omega) (by omega) c h;exact g 8 12 (by omega) (by omega) (by omega) c h;simp_all
 ·unfold b2h at h
  split at h
  ·simp only[mA,mC,b09,or_false]at h;rcases h with(rfl|rfl)|h;simp_all[b1y];simp_all[b1y]
   ·unfold b8S at h;cases hg:(b5Y d).2 with
    |false=>simp_all
    |true=>
     rw[hg]at h;simp at h;subst h;exact f.2 hg
  simp_all
 unfold c2M at h
 split at h
 simp only[mA,b1A,List.mem_map]at h;rcases h with⟨j,-,rfl⟩|h|h|h|h;simp_all[b1y];exact g 1 12 (by omega) (by omega) (by omega) c h;exact g 2 12 (by omega) (by omega) (by omega) c h;exact g 12 14 (by omega) (by omega) (by omega) c h;exact g 16 14 (by omega) (by omega) (by omega) c h;simp_all
theorem c8y(g:d.length≤256):a3u d=some (a1M 0,false):=by
 have h:b1T (d,(16:Int),(256:Int))=some (0,7):=by
  unfold b1T
  grind
 unfold a3u;simp only[h,oB,show((7:Int) != 0)=true from rfl,cT];rfl
theorem d2p(g:d.length≤256):b9T d:=by
 have h:=c8y g
 have:b5Y d=(a1M 0,false):=by unfold b5Y;simp_all
 exact⟨by simp_all,fun f=>by simp_all⟩
def b5v(l:List Int)(a:Int×(Bool×Sub))(c:Sub):Int×(Bool×Sub):=
 bif (a1q c.1 l c).2 != 0 then a else bif !a.2.1 || decide (a4S (a1q c.1 l c).1 (l.length:Int)<a.1)then(a4S (a1q c.1 l c).1 (l.length:Int),true,(a1q c.1 l c).1)else a
def b5Z(l:List Int)(cs:List Sub):Int×(Bool×Sub):=cs.foldl (b5v l) (0,false,a1M 0)
theorem b6a{α A β:Type}(g:A→α→A)(h:A→β):∀(l:List α)(a:A),a8V h (a2K (fun a x=>.inl (g a x)) l a)=h (l.foldl g a)
 | [],_=>rfl
 |x::l,a=>b6a g h l (g a x)
theorem c4O(h:SmallS s):SmallS (a1q k l s).1:=by
 by_cases h0:(a1q k l s).2=0
 exact(c1o h h0).1
 have:(a1q k l s).1=a1M 0:=by
  unfold a1q at h0⊢
  grind
 simp_all[c6n]
theorem c7m{cs:List Sub}(e:∀c∈cs,SmallS c)(o:l.length≤4096)(n:cs.length<1000):
  y0m a7j (l,(0:Int),false,cs,((cs.length:Nat):Int),(0:Int),a1M 0,a1M 0,())=some (a1M 0,(b5Z l cs).2.2,()):=by
 have:=a1P (f:=a7j) cs (fun i a=>(l,a.1,a.2.1,cs,((cs.length:Nat):Int),(i:Int),a1M 0,a.2.2,())) (fun a x=>.inl (b5v l a x)) (fun _ _=>True) (fun a=>(a1M 0,a.2.2,()))
  (fun i hi a _=>by
   refine⟨fun m h=>?_,fun b hb=>by grind⟩;simp at h;subst h;refine⟨?_,trivial⟩;have g:=e _ (a07 hi);have d:=c5c (c4O (k:=cs[i].1) (l:=l) g) (l.length:Int);unfold b5v;simp only[a7j,dlt hi,cT,a0D hi,oB,d0Y g cs[i].1 (show l.length≤100000 by omega),d,a0B (show i<1000000 by omega)];cases (a1q cs[i].1 l cs[i]).2 != 0 with
   |true=>rfl
   |false=>
    have j:=a0B (show i<1000000 by omega)
    grind)
  (fun a _=>by simp_all[a7j]) (a:=((0:Int),false,a1M 0)) trivial
 simp at this;rw[this,b6a];rfl
theorem d1a(v:1≤l.length)(c:l.length≤4096)(a:l.all a0A=true)(h:b9T (a1e l))(u:0≤k)(x:k≤3):
  a5t (l,k)=some ((b5Z l (a4b (a1e l) k)).2.2,0):=by
 have d:short l:=by unfold short;omega
 obtain⟨r,s,-⟩:=a9l d a;obtain⟨e,b,t,-⟩:=a6R c a;have i:decide (((l.length:Nat):Int)<1)=false:=decide_eq_false (by omega);have j:decide (((l.length:Nat):Int) > 4096)=false:=decide_eq_false (by omega);have m:decide (k<0)=false:=decide_eq_false (by omega);have n:decide (k > 3)=false:=decide_eq_false (by omega);have f:(a4b (a1e l) k).length<1000:=by
  have g:=fun o w=>b1B (a1e l) o w;have q1:=g 4 12;have y:=g 8 12;have z:=g 1 12;have A:=g 2 12;have B:=g 12 14;have C:=g 16 14;have p:(b8S (a1e l)).length≤1:=by grind[b8S]
  simp only[a4b,a2n,a3E,b2h,c2M,lN]
  grind[b1A]
 have hb:=c7m (l:=l) (b9U b (by omega) h k) c f;have q:a1M 0=((0:Int),(0:Int),(0:Int),(0:Int),(0:Int),([]:(List Int)),a00 3 (0:Int),([]:(List (Int×Int×Unit))),([]:(List Int)),((0:Int),([]:(List Int)),()),([]:(List Int)),()):=rfl;unfold a5t;simp only[←q,i,j,m,n,cF,oB,a4s d,a,bT,r,b5q s (show l.length<100000 by omega),e,a4V,show((0:Int) != 0)=false from rfl,d0Z b (show(a1e l).length≤4096 by omega) h,hb]
theorem a3P(v:Int)(n:Nat)(L:List Int):(a0O v n L).length=L.length+(a0O v n []).length:=by
 unfold a0O;cases (A0i .u64 v (n:Int) != 0)<;>simp
theorem a9P(n:Nat):∀(l L:List Int),(a1x n l L).length=L.length+(a1x n l []).length
 | [],L=>by simp[a1x]
 |x::l,L=>by
  show(a1x n l (a0O (a0T x n) n L)).length=L.length+(a1x n l (a0O (a0T x n) n [])).length;rw[a9P n l,a9P n l (a0O (a0T x n) n []),a3P];omega
theorem b2i:∀(st:List Stg)(L:List Int),(a2P st L).length=L.length+(a2P st []).length
 | [],L=>by simp[a2P]
 |s::st,L=>by
  show(a2P st (a6q s L)).length=L.length+(a2P st (a6q s [])).length;rw[b2i st,b2i st (a6q s [])];unfold a6q;rw[a3P,a3P _ 5 L,a3P _ 4 (a0O _ 5 [])];omega
theorem b6b(s:Sub)(L:List Int):(a6r s L).length=L.length+(a6r s []).length:=by
 unfold a6r;rw[a9P,a3P,a3P _ 4,a3P _ 5 L]
 conv=>rhs;rw[a9P,a3P,a3P _ 4]
 omega
theorem c1S(s:Sub)(L:List Int):(a2u s L).length=L.length+(a2u s []).length:=by
 unfold a2u;split;rw[a3P];split;rw[b6b];split;rw[b6b,a9P,a3P]
 conv=>rhs;rw[b6b,a9P]
 omega;split;rw[b2i,a3P]
 conv=>rhs;rw[b2i]
 omega
 simp
theorem c8z(k:0≤s.1∧s.1≤5)(a:0≤s.2.1∧s.2.1≤30)(f:s.2.2.2.2.2.2.2.2.1.all a0A=true)(L:List Int):(b2d s L).length=L.length+13:=by
 obtain⟨K,g⟩:=a01 k.1;obtain⟨w,h⟩:=a01 a.1
 have:=a1T f
 unfold b2d;rw[g,h,a2m (q:=K) (by omega),a2m (q:=w) (by omega),a8k (n:=5) (by omega) (by omega),a8k (n:=5) (by omega) (by omega),a8k (n:=3) (by omega) (by omega)]
def c6q(s:Sub)(zn:List Nat):Nat:=
 13+(a2u s []).length+a0I s.2.2.2.2.2.2.2.2.1*s.2.2.2.2.2.2.2.2.1.length+if s.1=0∨s.1=1 then 0 else 4+a5D zn s.2.2.2.2.2.2.2.2.2.1.2.1 s.2.2.2.2.2.2.2.2.2.2.1
theorem b6c(h:a3O k s n):0≤k∧k≤5:=by
 rcases h with h|h|⟨h,-⟩|⟨h,-⟩|⟨h,-⟩|⟨h,-⟩<;>omega
theorem b4U(h:(a2j s n).isSome=true):a1s s n:=by
 unfold a2j at h
 split at h
 assumption
 cases h
theorem d1b(h:(a2j s n).isSome=true)(d:s.1≠0∧s.1≠1→PartsOk s.2.2.2.2.2.2.2.2.2.1 n ((s.2.2.2.2.2.2.2.2.1.length:Nat):Int) s.2.2.2.2.2.2.2.2.2.2.1 zn)(L:List Int):
  (a5e s zn L).length=L.length+c6q s zn:=by
 obtain⟨e,i,b,-,k,a,-,-,f,-⟩:=b4U h;have c:=a1T f;have g:=c8z (b6c b) ⟨k,a⟩ f L;unfold a5e c6q
 by_cases hk:s.1=0∨s.1=1
 rw[if_pos hk,if_pos hk,b4q (by omega),c1S,g];omega;rw[if_neg hk,if_neg hk,c2C (d (not_or.1 hk)),b4q (by omega),c1S,g];omega
theorem c8A(h:SmallS s)(f:(a2j s n).isSome=true):∃g,a4S s n=((c6q s g:Nat):Int)∧(s.1≠0∧s.1≠1→PartsOk s.2.2.2.2.2.2.2.2.2.1 n ((s.2.2.2.2.2.2.2.2.1.length:Nat):Int) s.2.2.2.2.2.2.2.2.2.2.1 g):=by
 obtain⟨e,b,-,-,-,a,-⟩:=b5M h (n:=n) (L:=[]) (by simp);obtain⟨-,g,-,k⟩:=a f;refine⟨g,?_,k⟩;unfold a4S;rw[if_pos f,←c1m k,d1b f k]
 simp
structure Shifted (l m:List Int) (n:Nat):Prop where
 len:m.length=l.length
 wl:l.all a0A=true
 wm:m.all a0A=true
 down:a1e m=a1e l
 waste:a2U m=a2U l+n
 fl:l.all (fun x=>x==l.headD 0)=false
 fm:m.all (fun x=>x==m.headD 0)=false
structure BestIs (l:List Int) (cs:List Sub) (a:Int×(Bool×Sub)):Prop where
 one:a.2.1=true→∃c∈cs,(a1q c.1 l c).2=0∧a.2.2=(a1q c.1 l c).1∧a.1=a4S a.2.2 (l.length:Int)
 least:∀c∈cs,(a1q c.1 l c).2=0→a.2.1=true∧a.1≤a4S (a1q c.1 l c).1 (l.length:Int)
theorem b7q{l:List Int}:∀(cs ds:List Sub)(a:Int×(Bool×Sub)),BestIs l ds a→BestIs l (ds++cs) (cs.foldl (b5v l) a)
 | [],ds,a,h=>by rw[a42];exact h
 |c::cs,ds,a,h=>by
  rw[b21,show ds++c::cs=(ds++[c])++cs by simp];refine b7q cs (ds++[c]) _ ?_
  unfold b5v
  by_cases h0:(a1q c.1 l c).2=0
  ·have e:((a1q c.1 l c).2 != 0)=false:=by rw[h0];rfl
   rw[e,cF];cases hq:(!a.2.1 || decide (a4S (a1q c.1 l c).1 (l.length:Int)<a.1))with
   |true=>
    refine⟨fun _=>⟨c,by simp,h0,rfl,rfl⟩,fun d f k=>⟨rfl,?_⟩⟩;rcases mA.1 f with f|f;obtain⟨i,j⟩:=h.least d f k;rw[i]at hq;simp only[bT,Bool.false_or,dT]at hq;exact Int.le_trans (Int.le_of_lt hq) j;simp only[a73]at f;subst f;exact Int.le_refl _
   |false=>
    simp only[a88,Bool.not_eq_false',decide_eq_false_iff_not]at hq;refine⟨fun b=>?_,fun d f k=>?_⟩;obtain⟨d,f,g⟩:=h.one b;exact⟨d,a89 _ f,g⟩;rcases mA.1 f with f|f;exact h.least d f k;simp only[a73]at f;subst f;exact⟨hq.1,Int.not_lt.1 hq.2⟩
  have e:((a1q c.1 l c).2 != 0)=true:=by simpa using h0
  rw[e,cT];refine⟨fun b=>?_,fun d f k=>?_⟩;obtain⟨d,f,g⟩:=h.one b;exact⟨d,a89 _ f,g⟩;rcases mA.1 f with f|f;exact h.least d f k;simp only[a73]at f;subst f;exact absurd k h0
theorem c1p(l:List Int)(cs:List Sub):BestIs l cs (b5Z l cs):=
 b7q cs [] _ ⟨fun h=>(by cases h),fun _ h=>(by cases h)⟩
theorem b6d(h:1≤l.length)(g:l.length≤4096)(f:l.all a0A=true):a1q 1 l (cS 1 0 0 [] [])=(a1I (a0Y 1 (cS 1 0 0 [] [])) (a2U l) (a1e l) z0 [],0):=by
 unfold a1q;rw[if_neg (fun q=>q ⟨h,g,.inr (.inl rfl)⟩),if_neg (by rw[f];decide),if_neg (by decide),if_pos rfl]
theorem c6r(h:1≤l.length)(g:l.length≤4096)(f:l.all a0A=true)(d:List Int)(k:Int):(b5Z l (a4b d k)).2.1=true:=
 ((c1p l (a4b d k)).least (cS 1 0 0 [] []) (by simp[a4b,a2n]) (by rw[show(cS 1 0 0 [] []).1=1 from rfl,b6d h g f])).1
def inW(x:Int)(v:Nat):Bool:=decide (x=0) || a1d x (v:Int)
theorem c8B:a1d x (v:Int)=true↔1≤v∧v≤31∧-((2^(v-1):Nat):Int)≤x∧x≤((2^(v-1):Nat):Int)-1:=by
 by_cases hv:1≤v∧v≤31
 have e:((v:Int)-1)=((v-1:Nat):Int):=by omega
 have hp:2^(v-1)≤2^30:=a16 (by omega) (by omega);have b:=a18 (v-1);have g:A0h .i64 1 ((v-1:Nat):Int)=((2^(v-1):Nat):Int):=c3t (by omega);have f:A0h .i64 (-1) ((v-1:Nat):Int)=-((2^(v-1):Nat):Int):=by
  have a:min (a25 ((v-1:Nat):Int)) (IntKind.bits .i64)=v-1:=by simp only[tN,IntKind.bits];omega
  unfold A0h;rw[a,show(-1:Int)*2^(v-1)=-((2^(v-1):Nat):Int)by simp];exact a0C (by omega)
 have k:wrap .i64 (((2^(v-1):Nat):Int)-1)=((2^(v-1):Nat):Int)-1:=a0C (by omega);simp only[a1d,e,g,f,k,bA,dT];constructor;intro h;exact⟨hv.1,hv.2,h.2.2.1,h.2.2.2⟩;intro h;exact⟨by omega,by omega,h.2.2.1,h.2.2.2⟩;constructor;intro h;simp only[a1d,bA,dT]at h;omega;intro h;omega
theorem b7H:inW x v=true↔x=0∨(1≤v∧v≤31∧-((2^(v-1):Nat):Int)≤x∧x≤((2^(v-1):Nat):Int)-1):=by
 simp only[inW,a41,dT,c8B]
theorem c8C(h:v≤w)(f:w≤31)(g:inW x v=true):inW x w=true:=by
 rw[b7H]at g⊢;rcases g with g|⟨k,a,b,c⟩;exact .inl g
 have:2^(v-1)≤2^(w-1):=a16 (by omega) (by omega)
 exact .inr ⟨by omega,f,by omega,by omega⟩
theorem c8D(h:a0A x=true):inW x 31=true:=by
 have:=a1D.1 h
 rw[b7H];exact .inr ⟨by omega,by omega,by rw[show((2^(31-1):Nat):Int)=1073741824 from rfl];omega,by rw[show((2^(31-1):Nat):Int)=1073741824 from rfl];omega⟩
theorem c1T{x:Int}(b:a0A x=true):∀(k w:Nat),w+k=32→w≤31→w≤a1H x k w∧a1H x k w≤31∧inW x (a1H x k w)=true∧∀v,w≤v→inW x v=true→v≤31→a1H x k w≤v
 |0,w,h,g=>absurd g (by omega)
 |k+1,w,h,g=>by
  by_cases hin:inW x w=true
  ·have:a1H x (k+1) w=w:=by
    unfold a1H;cases f:(x != 0)&&!a1d x (w:Int)with
    |false=>rfl
    |true=>
     simp only[bA,bne_iff_ne,ne_eq,a24]at f;simp only[inW,a41,dT,f.2,Bool.false_eq_true,or_false]at hin;exact absurd hin f.1
   rw[this];exact⟨a34 _,g,hin,fun v hv _ _=>hv⟩
  have f:((x != 0)&&!a1d x (w:Int))=true:=by
   simp only[inW,a41,dT,not_or,Bool.not_eq_true]at hin;simp only[bA,bne_iff_ne,ne_eq,a24];exact hin
  have j:w≠31:=fun e=>hin (by rw[e];exact c8D b);have e:a1H x (k+1) w=a1H x k (w+1):=by
   show(bif (x != 0)&&!a1d x (w:Int)then a1H x k (w+1)else w)=_;rw[f,cT]
  obtain⟨l,c,d,i⟩:=c1T b k (w+1) (by omega) (by omega);rw[e];refine⟨by omega,c,d,fun v hv a g=>i v ?_ a g⟩;rcases Nat.lt_or_ge w v with q|q;exact q
  have:v=w:=by omega
  exact absurd (this▸a) hin
theorem b1c:∀(l:List Int)(w:Nat),l.all a0A=true→w≤31→
  w≤l.foldl (fun w x=>a1H x (32-w) w) w∧l.foldl (fun w x=>a1H x (32-w) w) w≤31∧(∀x∈l,inW x (l.foldl (fun w x=>a1H x (32-w) w) w)=true)∧∀v,w≤v→v≤31→(∀x∈l,inW x v=true)→l.foldl (fun w x=>a1H x (32-w) w) w≤v
 | [],w,_,h31=>⟨a34 _,h31,by simp,fun v hv _ _=>hv⟩
 |x::l,w,h,h31=>by
  rw[a06,bA]at h;obtain⟨m,e,i,j⟩:=c1T h.1 (32-w) w (by omega) h31;obtain⟨b,a,c,d⟩:=b1c l (a1H x (32-w) w) h.2 e;simp only[b21];refine⟨by omega,a,fun y k=>?_,fun v hv f g=>?_⟩;rcases mC.1 k with rfl|k;exact c8C b a i;exact c y k;exact d v (j v hv (g x a71) f) f fun y k=>g y (List.mem_cons_of_mem _ k)
theorem c3K(h:l.all a0A=true):∀x∈l,inW x (a0I l)=true:=(b1c l 0 h (by omega)).2.2.1
theorem c4P(h:l.all a0A=true)(hv:v≤31)(g:∀x∈l,inW x v=true):a0I l≤v:=(b1c l 0 h (by omega)).2.2.2 v (by omega) hv g
theorem c8E(e:w≤30)(a:((2^w:Nat):Int) ∣ x)(h:inW x v=true):inW (A0i .i64 x (w:Int)) v=true:=by
 obtain⟨c,rfl⟩:=a;rw[c8u (by omega)];rw[b7H]at h⊢;have hp:(1:Int)≤((2^w:Nat):Int):=by have:=a18 w;omega
 generalize ((2^w:Nat):Int)=p at h hp;rcases h with h|⟨f,k,b,d⟩;rcases Int.mul_eq_zero.1 h with h|h;omega;exact .inl h;refine .inr ⟨f,k,?_,?_⟩
 by_cases hc:0≤c
 have:(0:Int)≤((2^(v-1):Nat):Int):=a72 _
 omega;have g:=a59 (show 0≤p-1 by omega) (show 0≤-c by omega);rw[Int.mul_neg,b06]at g;omega
 by_cases hc:0≤c
 have g:=a59 (show 0≤p-1 by omega) hc;rw[b06]at g;omega
 have:(1:Int)≤((2^(v-1):Nat):Int):=by have:=a18 (v-1);omega
 omega
theorem c6s(b:l.length≤4096)(h:l.all a0A=true):a0I (a1e l)≤a0I l:=by
 obtain⟨-,d,e⟩:=a9l (show short l by unfold short;omega) h;obtain⟨-,a,-,-⟩:=a6R b h;have k:∀x∈l,((2^a2U l:Nat):Int) ∣ x:=by
  rcases e with⟨g,-⟩|⟨-,-,g,-⟩;exact fun x f=>by rw[g x f];exact a98 _
  exact g
 refine c4P a (a1T h) fun y c=>?_
 obtain⟨x,f,rfl⟩:=List.mem_map.1 c;exact c8E d (k x f) (c3K h x f)
theorem c6t(c:1≤l.length)(h:l.length≤4096)(f:l.all a0A=true):a4S (a1q 1 l (cS 1 0 0 [] [])).1 (l.length:Int)=((13+a0I (a1e l)*l.length:Nat):Int):=by
 have d:SmallS (cS 1 0 0 [] []):=b1y (by simp) (by simp);have g:=b6d c h f;obtain⟨a1,-,-,a⟩:=c1o d (k:=1) (l:=l) (by rw[g]);obtain⟨j,i,-⟩:=c8A a1 (by rw[a];rfl);obtain⟨-,-,b,-⟩:=a6R h f;rw[i,g];have e:c6q (a1I (a0Y 1 (cS 1 0 0 [] [])) (a2U l) (a1e l) z0 []) j=13+0+a0I (a1e l)*(a1e l).length+0:=rfl;rw[e,b];rfl
theorem c6u(b:1≤l.length)(f:l.length≤4096)(a:l.all a0A=true)(g:b9T (a1e l))(d:0≤k)(t:k≤3):
  ∃s,a5t (l,k)=some (s,0)∧SmallS s∧a2j s (l.length:Int)=some l∧s=(b5Z l (a4b (a1e l) k)).2.2∧a4S s (l.length:Int)=(b5Z l (a4b (a1e l) k)).1∧a4S s (l.length:Int)≤((13+a0I l*l.length:Nat):Int)∧
   (∀c∈a4b (a1e l) k,(a1q c.1 l c).2=0→a4S s (l.length:Int)≤a4S (a1q c.1 l c).1 (l.length:Int)):=by
 obtain⟨-,p,u,-⟩:=a6R f a;have hb:=d1a b f a g d t;have j:=c6r b f a (a1e l) k;obtain⟨c,i,q,r,o⟩:=(c1p l (a4b (a1e l) k)).one j;have e:=b9U p (by omega) g k c i;obtain⟨m,-,-,n⟩:=c1o e q;rw[←r]at m n;have h:∀c∈a4b (a1e l) k,(a1q c.1 l c).2=0→a4S (b5Z l (a4b (a1e l) k)).2.2 (l.length:Int)≤a4S (a1q c.1 l c).1 (l.length:Int):=fun c i d=>by
  rw[←o];exact((c1p l (a4b (a1e l) k)).least c i d).2
 refine⟨_,hb,m,n,rfl,o.symm,?_,h⟩;have hp:=h (cS 1 0 0 [] []) (by simp[a4b,a2n]) (by rw[show(cS 1 0 0 [] []).1=1 from rfl,b6d b f a]);rw[show(cS 1 0 0 [] []).1=1 from rfl,c6t b f a]at hp
 have:=a30 l.length (c6s f a)
 omega
@[reducible] def Rd:Type:=(List Int)×(Int×(Int×Unit))
def a1v(L:List Int):Prop:=∀b∈L,b=0∨b=1
def b3m(bs:List Int)(i:Nat):Bool:=(bs.getD (i / 8) 0).toNat.testBit (7-i%8)
theorem or8{x y:Nat}(h:x<256)(g:y<256):bits .u8 .or (x:Int) (y:Int)=((x ||| y:Nat):Int):=by
 show wrap .u8 (((a04 8 (x:Int)) ||| (a04 8 (y:Int))).toNat:Int)=_;rw[a29,a29,a57,a35,a35,a28 h,a28 g,a7m]
 have:x ||| y<2^8:=a99 h g
 omega
theorem d7U{b:Int}(hb:b=0∨b=1){r:Nat}(g:r<8):A0h .u8 b (7-(r:Int))=((b.toNat*2^(7-r):Nat):Int):=by
 have h:∀r:Fin 8,A0h .u8 0 (7-(r.1:Int))=((0*2^(7-r.1):Nat):Int)∧A0h .u8 1 (7-(r.1:Int))=((1*2^(7-r.1):Nat):Int):=by decide +kernel
 rcases hb with rfl|rfl;exact(h ⟨r,g⟩).1;exact(h ⟨r,g⟩).2
theorem c8F{x:Nat}(h:x<256){r:Nat}(g:r<8):bits .u8 .and (A0i .u8 (x:Int) (7-(r:Int))) 1=if x.testBit (7-r)then 1 else 0:=by
 have e:A0i .u8 (x:Int) (7-(r:Int))=((x / 2^(7-r):Nat):Int):=by
  show a93 (x:Int) (2^(min (7-(r:Int)).toNat 8))=_
  grind
 rw[e];have f:x / 2^(7-r)<256:=a49 (a40 _ _) h;show wrap .u8 (((a04 8 ((x / 2^(7-r):Nat):Int)) &&& (a04 8 1)).toNat:Int)=_
 grind[a04,a7m]
theorem c7n(L:List Int)(b:Int)(i:Nat):(L++[b]).getD i 0=if i=L.length then b else L.getD i 0:=by
 grind
theorem c3L(h:List Int)(k:Nat)(y:Int)(g:k<h.length)(j:Nat):(h.set k y).getD j 0=if j=k then y else h.getD j 0:=by
 grind
theorem c1U:∀(n:Nat)(L:List Int),L.length=n→a1v L→(∀j,0≤(wL L).1.getD j 0∧(wL L).1.getD j 0<256)∧∀i,b3m (wL L).1 i=decide (L.getD i 0=1)
 |0,L,h,_=>by
  simp_all[wL,b3m]
 |n+1,L,h,hL=>by
  obtain⟨g,b,rfl⟩:∃g b,L=g++[b]:=by
   rcases a63 L with rfl|⟨g,b,e⟩
   all_goals simp_all
  have hb:b=0∨b=1:=hL b (by simp);obtain⟨t,v⟩:=c1U n g (by simp_all) fun c C=>hL c (by grind);obtain⟨o,p⟩:=a5L g;rw[c1j];generalize wL g=wr at o p t v⊢;obtain⟨d,m,u⟩:=wr;have o:m=(g.length:Int):=o;have p:d.length=(g.length+7) / 8:=p;subst o;have e8:((g.length:Int) / 8).toNat=g.length / 8:=by rfl
  have q:(g.length:Int)%8=((g.length%8:Nat):Int):=by rfl
  obtain⟨f,a,w,y⟩:∃f:List Int,(if(g.length:Int)%8=0 then d++[0]else d)=f∧g.length / 8<f.length∧∀j,f.getD j 0=d.getD j 0:=by
   grind
  rw[q]at a;have B:g.length%8<8:=a50 _ (by simp);obtain⟨x,r⟩:∃x:Nat,d.getD (g.length / 8) 0=(x:Int):=a01 (t _).1;have k:x<256:=by
   grind
  have s:b.toNat*2^(7-g.length%8)<256:=by
   have hp:2^(7-g.length%8)≤2^7:=a16 (by simp) (by omega)
   grind
  have A:x ||| b.toNat*2^(7-g.length%8)<2^8:=a99 k s;have l:(c1i (d,(g.length:Int),u) b).1=f.set (g.length / 8) ((x ||| b.toNat*2^(7-g.length%8):Nat):Int):=by
   unfold c1i;simp only[a,e8,q];rw[y,r,d7U hb B,or8 k s]
  rw[l];refine⟨fun j=>?_,fun i=>?_⟩
  grind[c3L]
  ·unfold b3m;rw[c3L _ _ _ w,c7n];have hi:=v i;unfold b3m at hi
   by_cases hk:i / 8=g.length / 8
   ·rw[if_pos hk,tN,Nat.testBit_or];rw[hk,r,tN]at hi;rw[hi];have z:(b.toNat*2^(7-g.length%8)).testBit (7-i%8)=(decide (b=1)&&decide (i=g.length)):=by
     rcases hb with rfl|rfl
     all_goals grind
    grind
   grind
theorem d1c(h:a1v L):(∀j,0≤(wL L).1.getD j 0∧(wL L).1.getD j 0<256)∧∀i,b3m (wL L).1 i=decide (L.getD i 0=1):=c1U _ L rfl h
def rdr(P R:List Int):Rd:=((wL (P++R)).1,(P.length:Int),(0:Int),())
theorem c1q(k:a1v L)(n:L.length<1000000000)(hi:i<L.length)(t:Int×(Int×Unit)):
  a1z (((wL L).1,t),(i:Int))=some (L.getD i 0,(wL L).1,t):=by
 obtain⟨d,e⟩:=d1c k;obtain⟨-,m⟩:=a5L L;have l:a31 (i:Int) 8=((i%8:Nat):Int):=by rfl
 have j:a56 (i:Int) 8=((i / 8:Nat):Int):=by rfl
 have b:wrap .i64 ((i / 8:Nat):Int)=((i / 8:Nat):Int):=a0C (by omega);have c:wrap .i64 (7-((i%8:Nat):Int))=7-((i%8:Nat):Int):=a0C (by omega);have g:decide (7-((i%8:Nat):Int)<0)=false:=by grind
 have hb:i / 8<(wL L).1.length:=by omega
 have f:(wL L).1[i / 8]=(wL L).1.getD (i / 8) 0:=by grind
 unfold a1z;simp only[l,j,b,c,g,a0D hb,oB,cF];obtain⟨x,a⟩:∃x:Nat,(wL L).1.getD (i / 8) 0=(x:Int):=a01 (d _).1;have h:x<256:=by grind
 rw[f,a,c8F h (a50 _ (by simp))]
 have:=e i
 unfold b3m at this;rw[a,tN]at this;rw[this];have hv:L.getD i 0=0∨L.getD i 0=1:=by
  have:L.getD i 0=L[i]:=by simp_all
  rw[this];exact k _ (a07 hi)
 grind
theorem c7o(hv:v<18446744073709551616)(hi:i≤64):a6P (v:Int) i=((v / 2^i%2:Nat):Int):=by
 unfold a6P;rw[a6w hi];have h:v / 2^i<18446744073709551616:=a49 (a40 _ _) hv;show wrap .u8 (wrap .u64 (((a04 64 ((v / 2^i:Nat):Int)) &&& (a04 64 1)).toNat:Int))=_
 grind[a04,a0K,a7m]
theorem a1v.app{A B:List Int}(h:a1v A)(g:a1v B):a1v (A++B):=fun b hb=>(mA.1 hb).elim (h b) (g b)
theorem orU(k:a<18446744073709551616)(hb:b<2)(f:a%2=0):bits .u64 .or (a:Int) (b:Int)=((a+b:Nat):Int):=by
 show wrap .u64 (((a04 64 (a:Int) ||| a04 64 (b:Int)).toNat:Nat):Int)=_;have g:(a04 64 (a:Int)).toNat=a:=by simp_all
 have h:(a04 64 (b:Int)).toNat=b:=by grind
 rw[a57,g,h];have e:a ||| b=a+b:=by
  have:=a52 (i:=1) (b:=b) (by omega) (a / 2)
  grind
 grind[a0K]
theorem c3M{v:Nat}(hv:v<9223372036854775808){n:Nat}(q:n≤62):∀(m:Nat)(P R:List Int),m≤n→a1v (P++(pb (v:Int) m++R))→(P++(pb (v:Int) m++R)).length<1000000000→
  y0m a3Z (((v / 2^m:Nat):Int),(n:Int),((n-m:Nat):Int),rdr P (pb (v:Int) m++R),())=some ((v:Int),rdr (P++pb (v:Int) m) R,())
 |0,P,R,_,_,_=>by
  grind[a0E,a3Z,pb]
 |m+1,P,R,hm,hok,hlen=>by
  have l:decide (((n-(m+1):Nat):Int)<(n:Int))=true:=by grind
  have a:a1z (rdr P (pb (v:Int) (m+1)++R),(P.length:Int))=some (a6P v m,rdr P (pb (v:Int) (m+1)++R)):=by
   have:=c1q hok hlen (i:=P.length) (by simp[pb]) ((P.length:Int),(0:Int),())
   rw[show(P++(pb (v:Int) (m+1)++R)).getD P.length 0=a6P v m from by simp_all[pb]]at this;exact this
  have g:=c7o (v:=v) (by omega) (i:=m) (by omega);have b:v / 2^m%2<2:=a50 _ (by simp);have f:v / 2^(m+1)=v / 2^m / 2:=by grind[Nat.div_div_eq_div_mul]
  have p:v / 2^m≤v:=a40 _ _;have d:A0h .u64 ((v / 2^(m+1):Nat):Int) 1=((v / 2^(m+1)*2^1:Nat):Int):=b2r (o:=1) (by omega) (by omega);have h:bits .u64 .or ((v / 2^(m+1)*2^1:Nat):Int) (wrap .u64 (a6P (v:Int) m))=((v / 2^m:Nat):Int):=by
   rw[g,a0K (by omega),orU (by omega) b (by omega),f];omega
  have e:wrap .i64 (((n-(m+1):Nat):Int)+1)=((n-m:Nat):Int):=by grind[a0C]
  have j:wrap .i64 ((P.length:Int)+1)=(((P++[a6P v m]).length:Nat):Int):=by
   grind[a0C]
  have k:P++(pb (v:Int) (m+1)++R)=(P++[a6P v m])++(pb (v:Int) m++R):=by simp[pb]
  have c:((rdr P (pb (v:Int) (m+1)++R)).1,(((P++[a6P v m]).length:Nat):Int),(rdr P (pb (v:Int) (m+1)++R)).2.2)=rdr (P++[a6P v m]) (pb (v:Int) m++R):=by
   unfold rdr;simp_all
  rw[a0F (s':=(((v / 2^m:Nat):Int),(n:Int),((n-m:Nat):Int),rdr (P++[a6P v m]) (pb (v:Int) m++R),())) (by
   simp only[a3Z,l,cT];rw[show(rdr P (pb (v:Int) (m+1)++R)).2.1=(P.length:Int)from rfl,a];simp only[oB,d,h,e];rw[show(rdr P (pb (v:Int) (m+1)++R)).2.1=(P.length:Int)from rfl,j,c])]
  rw[c3M hv q m _ _ (by omega) (by simp_all) (by simp_all)];simp[pb]
theorem c7p{n:Nat}(a:n≤62)(hv:v<2^n)(g:a1v (P++(pb (v:Int) n++R)))(k:(P++(pb (v:Int) n++R)).length<200000000):
  a0G (rdr P (pb (v:Int) n++R),(n:Int))=some ((v:Int),rdr (P++pb (v:Int) n) R):=by
 have h:v<9223372036854775808:=Nat.lt_of_lt_of_le hv (Nat.le_trans (a16 (by simp) a) (by simp));have f:=c3M h a n P R (by omega) g (by omega);rw[a78 hv,Nat.sub_self]at f;simp at f;obtain⟨-,e⟩:=a5L (P++(pb (v:Int) n++R));have j:=b4o (v:Int) n;have i:(P++(pb (v:Int) n++R)).length=P.length+n+R.length:=by grind
 have e8:wrap .i64 ((8:Int)*(((wL (P++(pb (v:Int) n++R))).1.length:Nat):Int))=(8:Int)*(((wL (P++(pb (v:Int) n++R))).1.length:Nat):Int):=a0C (by omega);have d:wrap .i64 ((8:Int)*(((wL (P++(pb (v:Int) n++R))).1.length:Nat):Int)-(P.length:Int))=(8:Int)*(((wL (P++(pb (v:Int) n++R))).1.length:Nat):Int)-(P.length:Int):=a0C (by omega);have b:decide ((n:Int)<0)=false:=by simp
 have c:decide ((n:Int) > 64)=false:=by grind
 have l:decide ((n:Int) > (8:Int)*(((wL (P++(pb (v:Int) n++R))).1.length:Nat):Int)-(P.length:Int))=false:=by
  grind
 unfold a0G a2B;rw[show(rdr P (pb (v:Int) n++R)).2.2.1=0 from rfl];simp only[bne_self_eq_false,cF,b,c,oB];rw[show(rdr P (pb (v:Int) n++R)).1=(wL (P++(pb (v:Int) n++R))).1 from rfl,show(rdr P (pb (v:Int) n++R)).2.1=(P.length:Int)from rfl,e8,d]
 grind
def b4V(n:Nat)(x:Int):Prop:=-((2^n:Nat):Int)≤2*x∧2*x<((2^n:Nat):Int)
theorem c1V{n:Nat}(f:n≤62)(x:Int):∃v:Nat,a0T x n=(v:Int)∧v<2^n∧(v:Int)=x%((2^n:Nat):Int):=by
 have k:wrap .u64 x=x%18446744073709551616:=by simp[wrap,IntKind.bits,IntKind.signed]
 obtain⟨y,g⟩:∃y:Nat,x%18446744073709551616=(y:Int):=a01 (Int.emod_nonneg _ (by decide));have h:y<18446744073709551616:=by omega
 refine⟨y%2^n,?_,a50 _ (a18 n),?_⟩;unfold a0T;rw[k,g];exact c3o h f;rw[Int.natCast_emod,←g];refine Int.emod_emod_of_dvd x ?_
 have:(2:Nat)^n ∣ 2^64:=a68 2 (by omega)
 exact a22.2 this
theorem c7q{n:Nat}(t:n≤62)(B:b4V n x)(j:a1v (P++(pb (a0T x n) n++R)))(f:(P++(pb (a0T x n) n++R)).length<200000000):
  a1a (rdr P (pb (a0T x n) n++R),(n:Int))=some (x,rdr (P++pb (a0T x n) n) R):=by
 obtain⟨v,hv,i,a⟩:=c1V t x;rw[hv]at j f⊢;have d:=c7p t i j f;obtain⟨b,c⟩:=B;have E:=a18 n;have q:(v:Int)=x∧0≤x∨(v:Int)=x+((2^n:Nat):Int)∧x<0:=by
  by_cases h0:0≤x
  exact .inl ⟨by rw[a];exact b00 h0 (by omega),h0⟩;refine .inr ⟨?_,by omega⟩;rw[a,←Int.add_emod_right];exact b00 (by omega) (by omega)
 unfold a1a;simp only[d,oB];rw[show(rdr (P++pb (v:Int) n) R).2.2.1=0 from rfl];simp only[bne_self_eq_false,cF,oB];cases n with
 |zero=>
  have o:x=0:=by simp at b c;omega
  subst o;rfl
 |succ k=>
  have p:(((k+1:Nat):Int)==0)=false:=by simp only[beq_eq_false_iff_ne];omega
  have A:wrap .i64 ((64:Int)-((k+1:Nat):Int))=((64-(k+1):Nat):Int):=by rw[a0C (by omega)];omega
  have z:decide (((64-(k+1):Nat):Int)<0)=false:=by simp
  simp only[p,cF,A,z];have s:64-(k+1)+(k+1)=64:=by omega
  generalize 64-(k+1)=m at s⊢;have l:2^m*2^(k+1)=18446744073709551616:=by rw[←Nat.pow_add,s]
  have g:((2^m:Nat):Int)*((2^(k+1):Nat):Int)=18446744073709551616:=by rw[←b22,l];rfl
  have hp:=a18 m;have r:A0h .u64 (v:Int) (m:Int)=(v:Int)*((2^m:Nat):Int):=by
   show wrap .u64 ((v:Int)*2^(min (m:Int).toNat 64))=_;rw[tN,a84 (by omega)];have e:(2:Int)^m=((2^m:Nat):Int):=by simp
   rw[e];refine a0K ⟨a59 (by omega) (by omega),?_⟩
   have:v*2^m<2^(k+1)*2^m:=Nat.mul_lt_mul_of_pos_right i hp
   rw[←b22];rw[a69 (2^(k+1)),l]at this;omega
  have u:-9223372036854775808≤x*((2^m:Nat):Int):=by
   have:=Int.mul_le_mul_of_nonneg_right b (show(0:Int)≤((2^m:Nat):Int)by omega)
   have e:-((2^(k+1):Nat):Int)*((2^m:Nat):Int)=-18446744073709551616:=by rw[Int.neg_mul,a80,g]
   rw[e,Int.mul_assoc]at this;omega
  have w:x*((2^m:Nat):Int)<9223372036854775808:=by
   have:=Int.mul_lt_mul_of_pos_right c (show(0:Int)<((2^m:Nat):Int)by omega)
   rw[a80 ((2^(k+1):Nat):Int),g,Int.mul_assoc]at this;omega
  have D:wrap .i64 ((v:Int)*((2^m:Nat):Int))=x*((2^m:Nat):Int):=by
   rcases q with⟨h,-⟩|⟨h,-⟩;rw[h];exact a0C (by omega);rw[h,Int.add_mul,a80 ((2^(k+1):Nat):Int),g];generalize x*((2^m:Nat):Int)=y at u w⊢;have o:y<0∨0≤y:=by omega
   simp only[wrap,IntKind.bits,IntKind.signed]
   simp
   split<;>omega
  have C:A0i .i64 (x*((2^m:Nat):Int)) (m:Int)=x:=by
   show a93 (x*((2^m:Nat):Int)) (2^(min (m:Int).toNat 64))=x;rw[tN,a84 (by omega)];have e:(2:Int)^m=((2^m:Nat):Int):=by simp
   rw[e,a39 _ (by omega)];exact Int.mul_ediv_cancel _ (by omega)
  rw[r,D,C]
theorem c6v(P:List Int)(n:Nat)(R:List Int){c:Nat}(h:c<n):(P++(a00 n 0++1::R)).getD (P.length+c) 0=0:=by
 simp only[lD];rw[a27 (by omega),a81,List.getElem?_append_left (by simpa using h)];simp[h]
theorem c8G(P:List Int)(n:Nat)(R:List Int):(P++(a00 n 0++1::R)).getD (P.length+n) 0=1:=by
 simp only[lD];rw[a27 (by omega),a81,a27 (by simp)]
 simp
theorem c7r{n lm:Nat}(y:n≤lm)(w:lm<1000000)(q:a1v (P++(a00 n 0++1::R)))(s:(P++(a00 n 0++1::R)).length<200000000):
  a1F (rdr P (a00 n 0++1::R),(lm:Int))=some ((n:Int),rdr (P++(a00 n 0++[1])) R):=by
 obtain⟨-,u⟩:=a5L (P++(a00 n 0++1::R));have v:(P++(a00 n 0++1::R)).length=P.length+n+1+R.length:=by simp;omega
 have e8:wrap .i64 ((8:Int)*(((wL (P++(a00 n 0++1::R))).1.length:Nat):Int))=(8:Int)*(((wL (P++(a00 n 0++1::R))).1.length:Nat):Int):=a0C (by omega);have j:∀c,c≤n→a1z (rdr P (a00 n 0++1::R),((P.length:Int)+(c:Int)))=some (if c=n then 1 else 0,rdr P (a00 n 0++1::R)):=fun c o=>by
  have:=c1q q (by omega) (i:=P.length+c) (by omega) ((P.length:Int),(0:Int),())
  rw[b23]at this;refine this.trans ?_
  by_cases e:c=n
  subst e;rw[c8G,if_pos rfl];rfl;rw[c6v P n R (by omega),if_neg e];rfl
 have k:∀c:Nat,c≤n→(((P.length:Int)+(c:Int))==(8:Int)*(((wL (P++(a00 n 0++1::R))).1.length:Nat):Int))=false:=fun c o=>by
  simp only[beq_eq_false_iff_ne];omega
 have m:wrap .i64 ((P.length:Int)+(n:Int)+1)=(((P++(a00 n 0++[1])).length:Nat):Int):=by
  rw[a0C (by omega)];simp;omega
 have g:P++(a00 n 0++1::R)=(P++(a00 n 0++[1]))++R:=by simp
 have r:((rdr P (a00 n 0++1::R)).1,(((P++(a00 n 0++[1])).length:Nat):Int),(rdr P (a00 n 0++1::R)).2.2)=rdr (P++(a00 n 0++[1])) R:=by
  unfold rdr;rw[g]
 have a:(rdr P (a00 n 0++1::R)).1=(wL (P++(a00 n 0++1::R))).1:=rfl;have h:=a1w (f:=a3o) (fun c:Nat=>((lm:Int),(c:Int),(P.length:Int)+(c:Int),rdr P (a00 n 0++1::R),())) n (b:=((n:Int),rdr (P++(a00 n 0++[1])) R,()))
  (fun c o=>by
   have l:((0:Int)==1)=false:=rfl;have t:(((c:Nat):Int)==(lm:Int))=false:=by simp only[beq_eq_false_iff_ne];omega
   have x:wrap .i64 ((c:Int)+1)=((c+1:Nat):Int):=a0B (by omega);have w2:wrap .i64 ((P.length:Int)+(c:Int)+1)=(P.length:Int)+((c+1:Nat):Int):=by rw[a0C (by omega)];omega
   simp only[a3o,a,e8,k c (by omega),cF,j c (by omega),oB,if_neg (Nat.ne_of_lt o),l,t,x,w2])
  (by
   have l:((1:Int)==1)=true:=rfl;simp only[a3o,a,e8,k n (a34 _),cF,j n (a34 _),oB,if_pos rfl,l,cT,m];rw[←a,r];rfl)
 unfold a1F;rw[show(rdr P (a00 n 0++1::R)).2.2.1=0 from rfl,show(rdr P (a00 n 0++1::R)).2.1=(P.length:Int)from rfl];have p:v0m (lm:Int) 0=(lm:Int):=by
  have d:decide ((0:Int) > (lm:Int))=false:=by simp
  simp only[v0m,d,cF]
 simp only[nZ,Int.add_zero,a09]at h;simp only[bne_self_eq_false,cF,p,h,oB]
def OkR(P R:List Int):Prop:=a1v (P++R)∧(P++R).length<200000000
theorem OkR.shift{A:List Int}(h:OkR P (A++R)):OkR (P++A) R:=by
 unfold OkR at h⊢
 rwa [aA]
theorem a3x{n:Nat}(g:n≤62)(hv:v<2^n)(h:OkR P (pb (v:Int) n++R)):a0G (rdr P (pb (v:Int) n++R),(n:Int))=some ((v:Int),rdr (P++pb (v:Int) n) R):=c7p g hv h.1 h.2
theorem a9Q{n:Nat}(f:n≤62)(g:b4V n x)(h:OkR P (pb (a0T x n) n++R)):a1a (rdr P (pb (a0T x n) n++R),(n:Int))=some (x,rdr (P++pb (a0T x n) n) R):=c7q f g h.1 h.2
def unB(n:Nat):List Int:=a00 n 0++[1]
theorem c3N{n lm:Nat}(f:n≤lm)(g:lm<1000000)(h:OkR P (unB n++R)):a1F (rdr P (unB n++R),(lm:Int))=some ((n:Int),rdr (P++unB n) R):=by
 have e:unB n++R=a00 n 0++1::R:=by simp[unB]
 rw[e]at h⊢;exact c7r f g h.1 h.2
theorem a2y{v n:Nat}(h:n≤63)(hv:v<2^n)(L:List Int):a0O (v:Int) n L=L++pb (v:Int) n:=by
 unfold a0O;rw[a6w (N:=v) (o:=n) (by omega),a78 hv]
 simp
def a9C(k:Nat)(x:Int):List Int:=
 if a0P x / 2^k<32 then unB (a0P x / 2^k)++pb ((a0P x%2^k:Nat):Int) k else unB 32++pb ((a0P x:Nat):Int) 32
theorem c7s{k:Nat}(f:k≤25)(g:a0A x=true)(L:List Int):a6Q k x L=L++a9C k x:=by
 have h:=a9G g;unfold a6Q a9C;split;rw[a2y (by omega) (a50 _ (a18 k))];simp[unL,unB];rw[a2y (by omega) (by omega)];simp[unL,unB]
theorem c7t(f:a0A x=true):a7k ((a0P x:Nat):Int)=some x:=by
 have b:=a9G f;have d:=a1D.1 f;have c:a31 ((a0P x:Nat):Int) 2=((a0P x:Nat):Int)%2:=a38 (by omega);have a:a56 ((a0P x:Nat):Int) 2=((a0P x:Nat):Int) / 2:=a54 (by omega);have k:decide (((a0P x:Nat):Int)≥2147483648)=false:=by simp only[ge_iff_le,decide_eq_false_iff_not];omega
 unfold a7k;simp only[k,cF,c,a]
 by_cases h0:0≤x
 have e:((a0P x:Nat):Int)=2*x:=by unfold a0P;rw[if_pos h0];omega
 rw[e];have h:((2*x)%2==(0:Int))=true:=by simp only[beq_iff_eq];omega
 have g:2*x / 2=x:=by omega
 simp only[h,cT,g];rw[a0K (by omega),a0C (by omega)];have e:((a0P x:Nat):Int)=-2*x-1:=by unfold a0P;rw[if_neg h0];omega
 rw[e];have h:((-2*x-1)%2==(0:Int))=false:=by simp only[beq_eq_false_iff_ne];omega
 have g:(-2*x-1) / 2=-x-1:=by omega
 simp only[h,cF,g];rw[a0K (n:=-x-1) (by omega),a0C (n:=-x-1) (by omega),a0C (n:=0-(-x-1)) (by omega),a0C (by omega)];congr 1;omega
theorem c4Q{k:Nat}(w:k≤25)(q:a0A x=true)(h:OkR P (a9C k x++R)):b2X (rdr P (a9C k x++R),(k:Int))=some (x,(0:Int),rdr (P++a9C k x) R):=by
 have u:=a9G q;have g:=c7t q;unfold b2X a0N;unfold a9C at h⊢;have r:∀A B:List Int,(rdr A B).2.2.1=0:=fun _ _=>rfl;split;rename_i l;rw[if_pos l,aA]at h;have e:=c3N (n:=a0P x / 2^k) (lm:=32) (by omega) (by omega) h;have i:=a3x (n:=k) (v:=a0P x%2^k) (by omega) (a50 _ (a18 k)) h.shift;have d:wrap .u64 ((a0P x / 2^k:Nat):Int)=((a0P x / 2^k:Nat):Int):=a2m (by omega);have b:decide (((a0P x / 2^k:Nat):Int)<32)=true:=by simp only[dT];omega
 have c:decide ((k:Int)<0)=false:=by simp
 have p:a0P x / 2^k*2^k≤a0P x:=a90 _ _;have m:A0h .u64 ((a0P x / 2^k:Nat):Int) (k:Int)=((a0P x / 2^k*2^k:Nat):Int):=b2r (by omega) (by omega);have a:wrap .u64 (((a0P x / 2^k*2^k:Nat):Int)+((a0P x%2^k:Nat):Int))=((a0P x:Nat):Int):=by
  rw[←b23,Nat.div_add_mod',a0K (by omega)]
 rw[aA];have f:a1F (rdr P (unB (a0P x / 2^k)++(pb ((a0P x%2^k:Nat):Int) k++R)),(32:Int))=_:=e;simp only[f,oB,r,bne_self_eq_false,cF,d,b,cT,i,c,m,a,g];rw[aA];rename_i l;rw[if_neg l,aA]at h;have e:=c3N (n:=32) (lm:=32) (by omega) (by omega) h;have i:=a3x (n:=32) (v:=a0P x) (by omega) (by omega) h.shift;have d:wrap .u64 (32:Int)=32:=a0K (by omega);have b:decide ((32:Int)<32)=false:=by simp
 have c:decide ((k:Int)<0)=false:=by simp
 have s:decide (((a0P x:Nat):Int)≥2147483648)=false:=by simp only[ge_iff_le,decide_eq_false_iff_not];omega
 have o:A0i .u64 ((a0P x:Nat):Int) (k:Int)=((a0P x / 2^k:Nat):Int):=a6w (by omega);have t:decide (((a0P x / 2^k:Nat):Int)<32)=false:=by simp only[decide_eq_false_iff_not];omega
 rw[aA];have f:a1F (rdr P (unB 32++(pb ((a0P x:Nat):Int) 32++R)),(32:Int))=some ((32:Int),_):=e;have j:a0G (rdr (P++unB 32) (pb ((a0P x:Nat):Int) 32++R),(32:Int))=_:=i;simp only[f,oB,r,bne_self_eq_false,cF,d,b,j,c,s,o,t,g];rw[aA]
def a3e(k:Nat)(l:List Int):List Int:=l.flatMap (a9C k)
theorem b9V{k:Nat}(g:k≤25):∀(l L:List Int),l.all a0A=true→a4H k l L=L++a3e k l
 | [],L,_=>by simp[a4H,a3e]
 |x::l,L,h=>by
  simp only[a06,bA]at h;show a4H k l (a6Q k x L)=_;rw[b9V g l _ h.2,c7s g h.1];simp[a3e]
theorem b6J{k:Nat}(f:k≤25){N:Nat}(c:N<1000000):∀(l done P R:List Int),l.all a0A=true→done.length+l.length=N→OkR P (a3e k l++R)→
  y0m a9w ((k:Int),(N:Int),(done.length:Int),done,rdr P (a3e k l++R),())=some (Sum.inl (done++l,rdr (P++a3e k l) R,()))
 | [],done,P,R,_,hl,_=>by
  have:done.length=N:=by simpa using hl
  subst this;have d:decide ((done.length:Int)<(done.length:Int))=false:=by simp
  rw[a0E (b:=Sum.inl (done,rdr P R,())) (by simp only[a9w,d,cF];simp[a3e])];simp[a3e]
 |x::l,done,P,R,h,hl,hok=>by
  simp only[a06,bA]at h;rw[lC]at hl;have e:a3e k (x::l)++R=a9C k x++(a3e k l++R):=by simp[a3e]
  rw[e]at hok⊢;have d:decide ((done.length:Int)<(N:Int))=true:=by simp;omega
  have a:=c4Q f h.1 hok;have g:lim (a47 done+1)=true:=a0S (by omega);have i:wrap .i64 ((done.length:Int)+1)=(((done++[x]).length:Nat):Int):=by rw[a0C (by omega)];simp
  rw[a0F (s':=((k:Int),(N:Int),(((done++[x]).length:Nat):Int),done++[x],rdr (P++a9C k x) (a3e k l++R),())) (by
   simp only[a9w,d,cT,a,oB,bne_self_eq_false,cF,g,i,a08])]
  rw[b6J f c l (done++[x]) (P++a9C k x) R h.2 (by simp;omega) hok.shift];simp[a3e]
theorem c4R{k:Nat}(c:k≤25)(h:l.all a0A=true)(d:l.length<1000000)(b:OkR P (a3e k l++R)):
  b2Y (rdr P (a3e k l++R),(k:Int),((l.length:Nat):Int))=some (l,(0:Int),rdr (P++a3e k l) R):=by
 have hp:a1N (k:Int)=some true:=by
  unfold a1N;have f:decide ((k:Int)≥0)=true:=by simp
  have a:decide ((k:Int)≤25)=true:=by simp;omega
  simp[f,a]
 have f:decide (((l.length:Nat):Int)<0)=false:=by simp
 have a:decide (((l.length:Nat):Int) > 4194304)=false:=by simp;omega
 have e:∀A B:List Int,(rdr A B).2.2.1=0:=fun _ _=>rfl;have g:=b6J c d l [] P R h (by simp) b;simp only[a19,nZ,a05,a09]at g;unfold b2Y a0N;simp only[hp,oB,bT,cF,f,a,e,bne_self_eq_false]
 erw[g]
 rfl
theorem c8H(h:inW x v=true):b4V v x:=by
 have hp:=a18 v;rcases b7H.1 h with rfl|⟨g,-,f,k⟩;exact⟨by omega,by omega⟩;have e:2^v=2^(v-1)*2:=by rw[←a53];congr 1;omega
 unfold b4V;rw[e];omega
theorem b6e(h:l.all a0A=true):∀x∈l,b4V (a0I l) x:=fun x g=>c8H (c3K h x g)
def sB(n:Nat)(l:List Int):List Int:=l.flatMap fun x=>pb (a0T x n) n
theorem a9R{n:Nat}(g:n≤62):∀(l L:List Int),a1x n l L=L++sB n l
 | [],L=>by simp[a1x,sB]
 |x::l,L=>by
  show a1x n l (a0O (a0T x n) n L)=_;obtain⟨v,hv,h,-⟩:=c1V g x;rw[a9R g l,hv,a2y (by omega) h,←hv];simp[sB]
theorem c1r(n:Nat)(x:Int)(l R:List Int):sB n (x::l)++R=pb (a0T x n) n++(sB n l++R):=by simp[sB]
theorem b5w{k:Int}{n:Nat}(f:n≤62){N:Nat}(c:N<1000000):∀(l done P R:List Int),(∀x∈l,b4V n x)→done.length+l.length=N→OkR P (sB n l++R)→
  y0m a8J (k,(n:Int),(N:Int),(done.length:Int),done,rdr P (sB n l++R),())=some (k,(n:Int),done++l,rdr (P++sB n l) R,())
 | [],done,P,R,_,hl,_=>by
  have:done.length=N:=by simpa using hl
  subst this;have d:decide ((done.length:Int)<(done.length:Int))=false:=by simp
  rw[a0E (b:=(k,(n:Int),done,rdr P R,())) (by simp only[a8J,d,cF];simp[sB])];simp[sB]
 |x::l,done,P,R,h,hl,hok=>by
  rw[lC]at hl;rw[c1r]at hok⊢;have d:decide ((done.length:Int)<(N:Int))=true:=by simp;omega
  have a:=a9Q f (h x (by simp)) hok;have g:lim (a47 done+1)=true:=a0S (by omega);have e:wrap .i64 ((done.length:Int)+1)=(((done++[x]).length:Nat):Int):=by rw[a0C (by omega)];simp
  rw[a0F (s':=(k,(n:Int),(N:Int),(((done++[x]).length:Nat):Int),done++[x],rdr (P++pb (a0T x n) n) (sB n l++R),())) (by
   simp only[a8J,d,cT,a,oB,g,e,a08])]
  rw[b5w f c l (done++[x]) _ R (fun y i=>h y (by simp[i])) (by simp;omega) hok.shift];simp[sB]
def b1d(k:Int)(part:List Int):List Int:=if k=31 then pb 31 5++(pb ((a0I part:Nat):Int) 5++sB (a0I part) part)else pb k 5++a3e k.toNat part
theorem c7u(a:kB k=true)(f:part.all a0A=true)(L:List Int):a9A k part L=L++b1d k part:=by
 have b:=a1T f;simp only[kB,a41,bA,dT,beq_iff_eq]at a;obtain⟨K,rfl⟩:=a01 (show 0≤k by omega);unfold a9A b1d;rw[a2m (by omega)];have g:=a2y (v:=K) (n:=5) (by omega) (by omega) L;split;rename_i h;rw[a9R (by omega),a2y (v:=a0I part) (n:=5) (by omega) (by omega),g,h]
 simp
 rw[b9V (by omega) _ _ f,g]
 simp
theorem c3O(o:kB k=true)(e:part.all a0A=true)(d:part.length<1000000)(h:OkR P (b1d k part++R)):
  b1X (rdr P (b1d k part++R),((part.length:Nat):Int))=some (k,part,(0:Int),rdr (P++b1d k part) R):=by
 have q:=a1T e;have i:∀A B:List Int,(rdr A B).2.2.1=0:=fun _ _=>rfl;simp only[kB,a41,bA,dT,beq_iff_eq]at o;obtain⟨K,rfl⟩:=a01 (show 0≤k by omega);unfold b1X a0N;unfold b1d at h⊢;split;rename_i f;rw[if_pos f,aA,aA]at h;rw[aA,aA];obtain rfl:K=31:=by omega
 have c:a0G (rdr P (pb 31 5++(pb ((a0I part:Nat):Int) 5++(sB (a0I part) part++R))),(5:Int))=_:=a3x (v:=31) (n:=5) (by omega) (by omega) h;have g:=h.shift;have l:a0G (rdr (P++pb 31 5) (pb ((a0I part:Nat):Int) 5++(sB (a0I part) part++R)),(5:Int))=_:=a3x (v:=a0I part) (n:=5) (by omega) (by omega) g;have a:=b5w (k:=31) (n:=a0I part) (by omega) d part [] _ R (b6e e) (by simp) g.shift;simp only[a19,nZ,a05,a09]at a;have j:wrap .i64 ((31:Nat):Int)=31:=by decide
 have w2:wrap .i64 ((a0I part:Nat):Int)=((a0I part:Nat):Int):=a0C (by omega);have b:decide ((31:Int)≤25)=false:=by decide
 have r:((31:Int) != 31)=false:=by decide
 rw[c];simp only[oB,i,bne_self_eq_false,cF,j,b]
 erw[l]
 simp only[oB,w2]
 erw[a]
 simp only[oB,i,bne_self_eq_false,cF,a2l (show short part from d)]
 simp
 rename_i f;rw[if_neg f,aA]at h;rw[aA];have m:K≤25:=by omega
 have c:a0G (rdr P (pb (K:Int) 5++(a3e ((K:Int).toNat) part++R)),(5:Int))=_:=a3x (v:=K) (n:=5) (by omega) (by omega) h;have p:=c4R m e d h.shift;have j:wrap .i64 (K:Int)=(K:Int):=a0C (by omega);have b:decide ((K:Int)≤25)=true:=by simp;omega
 rw[c];simp only[oB,i,bne_self_eq_false,cF,j,b,cT]
 erw[p]
 simp
def a1K:List Nat→List Int→List Int→List Int
 |z::zs,k::ks,l=>b1d k (l.take z)++a1K zs ks (l.drop z)
 |_,_,_=>[]
theorem c1W(h:l.all a0A=true)(z:Nat):(l.take z).all a0A=true:=lA.2 fun x g=>lA.1 h x (a44 g)
theorem c1X(h:l.all a0A=true)(z:Nat):(l.drop z).all a0A=true:=lA.2 fun x g=>lA.1 h x (a45 g)
theorem b9W:∀(zs:List Nat)(ks l L:List Int),ks.all kB=true→l.all a0A=true→a4I zs ks l L=L++a1K zs ks l
 |z::zs,k::ks,l,L,hk,hw=>by
  simp only[a06,bA]at hk;simp only[a4I,a1K];rw[b9W zs ks _ _ hk.2 (c1X hw z),c7u hk.1 (c1W hw z)]
  simp
 | [],_,_,L,_,_=>by simp[a4I,a1K]
 |_::_,[],_,L,_,_=>by simp[a4I,a1K]
theorem c7v(h:List Nat)(z:Nat)(g:List Nat):(a1n (h++z::g)).getD h.length 0=(z:Int):=by
 simp_all[a1n]
theorem b5x{o:Int}{z0:Prt}:∀(zs:List Nat)(ks l dk acc P R:List Int)(dz:List Nat),ks.length=zs.length→ks.all kB=true→zs.sum=l.length→l.all a0A=true→
  dk.length=dz.length→(dz++zs).length≤256→acc.length+l.length≤10000→OkR P (a1K zs ks l++R)→
  y0m a8K (((a1n (dz++zs)).length:Int),(dz.length:Int),acc,a1n (dz++zs),rdr P (a1K zs ks l++R),z0,(o,dk,()),()) =
   some (Sum.inl (acc++l,z0,(o,dk++ks,()),rdr (P++a1K zs ks l) R,()))
 | [],ks,l,dk,acc,P,R,dz,hk,_,hs,_,_,_,_,_=>by
  obtain rfl:ks=[]:=a48.1 hk;obtain rfl:l=[]:=a48.1 (by simp_all);have d:decide ((dz.length:Int)<((a1n (dz++[])).length:Int))=false:=by simp[a1u]
  rw[a0E (b:=Sum.inl (acc,z0,(o,dk,()),rdr P R,())) (by simp only[a8K,d,cF];rfl)];simp[a1K]
 |z::zs,[],_,_,_,_,_,_,hk,_,_,_,_,_,_,_=>by simp_all
 |z::zs,k::ks,l,dk,acc,P,R,dz,hk,hkb,hs,hw,hd,h256,hacc,hok=>by
  simp only[a06,bA]at hkb;rw[a74]at hs;have p:z≤l.length:=by omega
  have a:(l.take z).length=z:=by simp_all
  have e:a1K (z::zs) (k::ks) l++R=b1d k (l.take z)++(a1K zs ks (l.drop z)++R):=by simp[a1K]
  rw[e]at hok⊢;have j:(a1n (dz++z::zs)).length=dz.length+1+zs.length:=by grind[a1u]
  have d:decide ((dz.length:Int)<((a1n (dz++z::zs)).length:Int))=true:=by grind
  have m:decide ((0:Int)≤(dz.length:Int))=true:=by simp
  have h:=c3O hkb.1 (c1W hw z) (by omega) hok;rw[a]at h;have i:((0:Int) != 0)=false:=rfl;rw[lN,lC]at h256;have g:lim (a47 dk+1)=true:=a0S (by omega);have f:lim (a47 acc+a47 (l.take z))=true:=a0S (by omega);have c:wrap .i64 ((dz.length:Int)+1)=(((dz++[z]).length:Nat):Int):=by grind[a0C]
  have n:dz++z::zs=(dz++[z])++zs:=by simp
  rw[a0F (s':=(((a1n ((dz++[z])++zs)).length:Int),(((dz++[z]).length:Nat):Int),acc++l.take z,a1n ((dz++[z])++zs),rdr (P++b1d k (l.take z)) (a1K zs ks (l.drop z)++R),z0,(o,dk++[k],()),())) (by
   simp only[a8K,d,m,a02,cT,tN,c7v,h,oB,i,cF,g,f,c,a08]
   simp)]
  rw[b5x zs ks (l.drop z) (dk++[k]) (acc++l.take z) _ R (dz++[z]) (by grind) hkb.2 (by grind) (c1X hw z) (by grind) (by grind) (by grind) hok.shift];simp[a1K]
def a6x(p:Prt)(zn:List Nat)(l:List Int):List Int:=pb p.1 4++a1K zn p.2.1 l
theorem c2G(h:PartsOk p n warm l zn)(L:List Int):a4i p zn l L=L++a6x p zn l:=by
 obtain⟨o,ks,u⟩:=p;have g:=h.order;simp only at g;obtain⟨O,rfl⟩:=a01 g.1;unfold a4i a6x;simp only;rw[a2m (by omega),a2y (n:=4) (by omega) (by omega),b9W _ _ _ _ h.all h.wide]
 simp
theorem c3P(h:PartsOk p n warm l zn)(g:OkR P (a6x p zn l++R)):
  b1Y (rdr P (a6x p zn l++R),n,warm)=some (p,l,(0:Int),rdr (P++a6x p zn l) R):=by
 obtain⟨o,ks,u⟩:=p;have c:=h.order;have m:=h.short;have b:=h.len;simp only at c;obtain⟨O,rfl⟩:=a01 c.1;have i:∀A B:List Int,(rdr A B).2.2.1=0:=fun _ _=>rfl;have f:=h.may;unfold a5A at f;simp only[bA,a24,beq_eq_false_iff_ne]at f;have d:=h.sizes;simp only at d;have a:(((a1n zn).length:Int)==0)=false:=by
  grind
 unfold a6x at g⊢;simp only at g⊢;rw[aA]at g⊢;have e:a0G (rdr P (pb (O:Int) 4++(a1K zn ks l++R)),(4:Int))=_:=a3x (v:=O) (n:=4) (by omega) (by omega) g;have j:wrap .i64 (O:Int)=(O:Int):=a0C (by omega);have k:=b5x (o:=(O:Int)) (z0:=((0:Int),([]:List Int),())) zn ks l [] [] _ R [] h.ks h.all h.sum h.wide rfl (by simp_all) (by grind) g.shift;simp only[a19,nZ,a05,a09]at k;unfold b1Y a0N;simp[b3K,h.row];rw[e];simp[i,j,a1Y,d,a];simp_all
def a7o(s:Sub):List Int:=
 pb ((s.2.2.2.2.2.1.length-1:Nat):Int) 5++(pb s.2.2.2.1 4++(pb ((a0I s.2.2.2.2.2.1:Nat):Int) 5++sB (a0I s.2.2.2.2.2.1) s.2.2.2.2.2.1))
theorem c1Y{c:List Int}{t:Int}(h:a9F c t=true):1≤c.length∧c.length≤32∧0≤t∧t≤15∧c.all a0A=true:=by
 simp only[a9F,bA,dT]at h;obtain⟨g,f,k,a,b⟩:=h;refine⟨g,f,k,a,lA.2 fun x d=>?_⟩
 have:=lA.1 b x d
 simp[b9v]at this;rw[a1D];omega
theorem b9X(h:a9F s.2.2.2.2.2.1 s.2.2.2.1=true)(L:List Int):a6r s L=L++a7o s:=by
 obtain⟨a,b,g,d,f⟩:=c1Y h;have k:=a1T f;unfold a6r a7o;generalize s.2.2.2.2.2.1=c at *;generalize s.2.2.2.1=t at *;obtain⟨T,rfl⟩:=a01 g
 grind[a0C,a0K,a9R,a2y]
def b6f(s:Sub)(c:List Int):Sub:=(s.1,s.2.1,s.2.2.1,s.2.2.2.1,s.2.2.2.2.1,c,s.2.2.2.2.2.2)
def c1s(s:Sub)(t:Int):Sub:=(s.1,s.2.1,s.2.2.1,t,s.2.2.2.2)
theorem b9Y{n:Nat}(g:n≤62){N:Nat}(f:N<1000000)(s:Sub):∀(l done P R:List Int),(∀x∈l,b4V n x)→done.length+l.length=N→OkR P (sB n l++R)→
  y0m a5X ((n:Int),(N:Int),(done.length:Int),rdr P (sB n l++R),b6f s done,())=some ((n:Int),b6f s (done++l),rdr (P++sB n l) R,())
 | [],done,P,R,_,hl,_=>by
  have:done.length=N:=by omega
  subst this;have d:decide ((done.length:Int)<(done.length:Int))=false:=by simp
  simp_all[a0E,a5X,sB]
 |x::l,done,P,R,h,hl,hok=>by
  rw[lC]at hl;rw[c1r]at hok⊢;have d:decide ((done.length:Int)<(N:Int))=true:=by grind
  have a:=a9Q g (h x (by simp)) hok;have k:lim (a47 done+1)=true:=a0S (by omega);have b:wrap .i64 ((done.length:Int)+1)=(((done++[x]).length:Nat):Int):=by grind[a0C]
  rw[a0F (s':=((n:Int),(N:Int),(((done++[x]).length:Nat):Int),rdr (P++pb (a0T x n) n) (sB n l++R),b6f s (done++[x]),())) (by
   simp_all[a5X,b6f])]
  rw[b9Y g f s l (done++[x]) _ R (fun y c=>h y (by grind)) (by grind) hok.shift];simp[sB]
theorem b8q{s0:Sub}(h:a9F s.2.2.2.2.2.1 s.2.2.2.1=true)(r:s0.2.2.2.2.2.1=[])(g:OkR P (a7o s++R)):
  a8I (rdr P (a7o s++R),s0)=some (true,rdr (P++a7o s) R,b6f (c1s s0 s.2.2.2.1) s.2.2.2.2.2.1):=by
 obtain⟨u,w,l,x,d⟩:=c1Y h;have m:=a1T d;unfold a7o at g⊢;generalize s.2.2.2.2.2.1=c at *;generalize s.2.2.2.1=t at *;obtain⟨T,rfl⟩:=a01 l;simp at g⊢;have e:a0G (rdr P (pb ((c.length-1:Nat):Int) 5++(pb (T:Int) 4++(pb ((a0I c:Nat):Int) 5++(sB (a0I c) c++R)))),(5:Int))=_:=a3x (v:=c.length-1) (n:=5) (by omega) (by omega) g;have f:=g.shift;have i:a0G (rdr (P++pb ((c.length-1:Nat):Int) 5) (pb (T:Int) 4++(pb ((a0I c:Nat):Int) 5++(sB (a0I c) c++R))),(4:Int))=_:=a3x (v:=T) (n:=4) (by omega) (by omega) f;have k:=f.shift;have j:a0G (rdr (P++pb ((c.length-1:Nat):Int) 5++pb (T:Int) 4) (pb ((a0I c:Nat):Int) 5++(sB (a0I c) c++R)),(5:Int))=_:=a3x (v:=a0I c) (n:=5) (by omega) (by omega) k;have a:=b9Y (n:=a0I c) (by omega) (N:=c.length) (by omega) (c1s s0 (T:Int)) c [] _ R (b6e d) (by simp) k.shift;simp only[a19,nZ,a05,a09]at a;have o:wrap .i64 ((c.length-1:Nat):Int)=((c.length-1:Nat):Int):=a0C (by omega);have w2:wrap .i64 (((c.length-1:Nat):Int)+1)=(c.length:Int):=by grind[a0C]
 have p:wrap .i64 (T:Int)=(T:Int):=a0C (by omega);have q:wrap .i64 ((a0I c:Nat):Int)=((a0I c:Nat):Int):=a0C (by omega);have b:((s0.1,s0.2.1,s0.2.2.1,(T:Int),s0.2.2.2.2):Sub)=b6f (c1s s0 (T:Int)) []:=by
  grind[b6f,c1s]
 unfold a8I;rw[e]
 simp
 rw[i];simp only[oB];rw[j];simp only[oB,o,w2,p,q]
 erw[b,a]
 simp only[oB];rw[show(b6f (c1s s0 (T:Int)) c).2.2.2.2.2.1=c from rfl,a2l (show short c by unfold short;omega)]
 simp
def a7E(st:List Stg):List Int:=st.flatMap fun g=>pb (g.1-1) 5++pb g.2.1 4
theorem b8r{g:Stg}(h:Ab.stageB g=true):1≤g.1∧g.1≤32∧0≤g.2.1∧g.2.1≤8:=by
 simp only[Ab.stageB,bA,dT]at h;exact⟨h.1,h.2.1,h.2.2.1,h.2.2.2⟩
theorem b8s:∀(st:List Stg)(L:List Int),st.all Ab.stageB=true→a2P st L=L++a7E st
 | [],L,_=>by simp[a2P,a7E]
 |g::st,L,h=>by
  simp only[a06,bA]at h;obtain⟨c,d,f,e⟩:=b8r h.1;show a2P st (a6q g L)=_;rw[b8s st _ h.2];obtain⟨a,b,u⟩:=g;simp only at c d f e;obtain⟨B,rfl⟩:=a01 f;obtain⟨A,k⟩:=a01 (show 0≤a-1 by omega);unfold a6q;simp only;rw[k,b3P (q:=A) (by omega),a2m (q:=A) (by omega),a2m (q:=B) (by omega),a2y (v:=A) (n:=5) (by omega) (by omega),a2y (v:=B) (n:=4) (by omega) (by omega)];simp[a7E,k]
def a4U(s:Sub):List Int:=
 if s.1=2 then pb s.2.2.1 3
 else if s.1=3 then a7o s
 else if s.1=4 then pb (s.2.2.2.2.1-1) 10++(sB 8 s.2.2.2.2.2.2.1++a7o s)
 else if s.1=5 then pb ((s.2.2.2.2.2.2.2.1.length:Nat):Int) 2++a7E s.2.2.2.2.2.2.2.1
 else[]
theorem c1Z(h:a3O s.1 s n)(L:List Int):a2u s L=L++a4U s:=by
 unfold a2u a4U;rcases h with k|k|⟨k,g,f,-⟩|⟨k,g,-⟩|⟨k,g,-,b⟩|⟨k,g,f⟩;simp[k];simp[k];rw[if_pos k,if_pos k];obtain⟨A,a⟩:=a01 g;rw[a,a2m (by omega),a2y (n:=3) (by omega) (by omega)];rw[if_neg (by omega),if_pos k,if_neg (by omega),if_pos k,b9X g];rw[if_neg (by omega),if_neg (by omega),if_pos k,if_neg (by omega),if_neg (by omega),if_pos k,b9X g,a9R (by omega)];simp only[b2b,bA,dT]at b;obtain⟨A,a⟩:=a01 (show 0≤s.2.2.2.2.1-1 by omega);rw[a,b3P (by omega),a2m (by omega),a2y (n:=10) (by omega) (by omega)]
 simp
 rw[if_neg (by omega),if_neg (by omega),if_neg (by omega),if_pos k,if_neg (by omega),if_neg (by omega),if_neg (by omega),if_pos k];simp only[a9k,bA,dT]at f;rw[b8s _ _ f.2,a2m (by omega),a2y (n:=2) (by omega) (by omega)]
 simp
def b4u(s:Sub):List Int:=pb s.1 3++(pb s.2.1 5++pb ((a0I s.2.2.2.2.2.2.2.2.1:Nat):Int) 5)
theorem c7w(k:0≤s.1∧s.1≤5)(a:0≤s.2.1∧s.2.1≤30)(f:s.2.2.2.2.2.2.2.2.1.all a0A=true)(L:List Int):b2d s L=L++b4u s:=by
 obtain⟨K,g⟩:=a01 k.1;obtain⟨w,h⟩:=a01 a.1
 have:=a1T f
 unfold b2d b4u;rw[g,h,a2m (q:=K) (by omega),a2m (q:=w) (by omega),a2y (v:=a0I s.2.2.2.2.2.2.2.2.1) (n:=5) (by omega) (by omega),a2y (v:=w) (n:=5) (by omega) (by omega),a2y (v:=K) (n:=3) (by omega) (by omega)]
 simp
def a3Q(s:Sub):Sub:=(s.1,s.2.1,s.2.2.1,s.2.2.2.1,s.2.2.2.2.1,s.2.2.2.2.2.1,s.2.2.2.2.2.2.1,s.2.2.2.2.2.2.2.1,[],(0,[],()),[],())
theorem b8t{wd N:Nat}{ok:Bool}(q:N<1000)(k w:Int):∀(st done:List Stg)(P R:List Int),st.all Ab.stageB=true→done.length+st.length=N→OkR P (a7E st++R)→
  y0m a6M ((wd:Int),ok,(N:Int),(done.length:Int),rdr P (a7E st++R),(k,w,0,0,0,[],[0,0,0],done,[],(0,[],()),[],()),()) =
   some ((wd:Int),ok,(k,w,0,0,0,[],[0,0,0],done++st,[],(0,[],()),[],()),rdr (P++a7E st) R,())
 | [],done,P,R,_,hl,_=>by
  have:done.length=N:=by simpa using hl
  subst this;have d:decide ((done.length:Int)<(done.length:Int))=false:=by simp
  rw[a0E (b:=((wd:Int),ok,(k,w,0,0,0,[],[0,0,0],done,[],(0,[],()),[],()),rdr P R,())) (by simp only[a6M,d,cF];simp[a7E])];simp[a7E]
 |g::st,done,P,R,h,hl,hok=>by
  simp only[a06,bA]at h;rw[lC]at hl;obtain⟨m,o,i,p⟩:=b8r h.1;obtain⟨a,b,u⟩:=g;simp only at m o i p;obtain⟨B,rfl⟩:=a01 i;obtain⟨A,x⟩:=a01 (show 0≤a-1 by omega);obtain rfl:a=(A:Int)+1:=by omega
  have e:a7E (((A:Int)+1,(B:Int),u)::st)++R=pb (A:Int) 5++(pb (B:Int) 4++(a7E st++R)):=by simp[a7E]
  rw[e]at hok⊢;have d:decide ((done.length:Int)<(N:Int))=true:=by simp;omega
  have j:a0G (rdr P (pb (A:Int) 5++(pb (B:Int) 4++(a7E st++R))),(5:Int))=_:=a3x (v:=A) (n:=5) (by omega) (by omega) hok;have f:=hok.shift;have l:a0G (rdr (P++pb (A:Int) 5) (pb (B:Int) 4++(a7E st++R)),(4:Int))=_:=a3x (v:=B) (n:=4) (by omega) (by omega) f;have c:lim (a47 done+1)=true:=a0S (by omega);have s:wrap .i64 (A:Int)=(A:Int):=a0C (by omega);have w2:wrap .i64 (B:Int)=(B:Int):=a0C (by omega);have t:wrap .i64 ((A:Int)+1)=(A:Int)+1:=a0C (by omega);have r:wrap .u64 ((done.length:Int)+1)=(((done++[((A:Int)+1,(B:Int),u)]).length:Nat):Int):=by rw[a0K (by omega)];simp
  rw[a0F (s':=((wd:Int),ok,(N:Int),(((done++[((A:Int)+1,(B:Int),u)]).length:Nat):Int),rdr (P++pb (A:Int) 5++pb (B:Int) 4) (a7E st++R),(k,w,0,0,0,[],[0,0,0],done++[((A:Int)+1,(B:Int),u)],[],(0,[],()),[],()),())) (by
    simp only[a6M,d,cT,j,oB,l,c,s,w2,t,r,a08])]
  rw[b8t q k w st (done++[((A:Int)+1,(B:Int),u)]) _ R h.2 (by simp;omega) f.shift];simp[a7E]
theorem c1t(h:b5G x=true):b4V 8 x:=by
 simp only[b5G,bA,dT]at h;unfold b4V;omega
theorem c7x{wd:Nat}{w:Int}{a b c:Int}(u:b5G a=true)(hb:b5G b=true)(v:b5G c=true)(f:OkR P (sB 8 [a,b,c]++R)):
  y0m a3h ((wd:Int),(0:Int),rdr P (sB 8 [a,b,c]++R),(k,w,0,0,g,[],[0,0,0],[],[],(0,[],()),[],()),()) =
   some ((wd:Int),rdr (P++sB 8 [a,b,c]) R,(k,w,0,0,g,[],[a,b,c],[],[],(0,[],()),[],()),()):=by
 have e:sB 8 [a,b,c]++R=pb (a0T a 8) 8++(pb (a0T b 8) 8++(pb (a0T c 8) 8++R)):=by simp[sB]
 rw[e]at f⊢;have r:a1a (rdr P (pb (a0T a 8) 8++(pb (a0T b 8) 8++(pb (a0T c 8) 8++R))),(8:Int))=_:=a9Q (n:=8) (by omega) (c1t u) f;have h:=f.shift;have s:a1a (rdr (P++pb (a0T a 8) 8) (pb (a0T b 8) 8++(pb (a0T c 8) 8++R)),(8:Int))=_:=a9Q (n:=8) (by omega) (c1t hb) h;have d:=h.shift;have t:a1a (rdr (P++pb (a0T a 8) 8++pb (a0T b 8) 8) (pb (a0T c 8) 8++R),(8:Int))=_:=a9Q (n:=8) (by omega) (c1t v) d;have x:wrap .i64 ((0:Int)+1)=1:=by decide
 have y:wrap .i64 ((1:Int)+1)=2:=by decide
 have w2:wrap .i64 ((2:Int)+1)=3:=by decide
 have m:decide ((0:Int)<3)=true:=by decide
 have i:decide ((0:Int)≤0)=true:=by decide
 have o:decide ((1:Int)<3)=true:=by decide
 have j:decide ((0:Int)≤1)=true:=by decide
 have p:decide ((2:Int)<3)=true:=by decide
 have l:decide ((0:Int)≤2)=true:=by decide
 have q:decide ((3:Int)<3)=false:=by decide
 rw[a0F (s':=((wd:Int),(1:Int),rdr (P++pb (a0T a 8) 8) (pb (a0T b 8) 8++(pb (a0T c 8) 8++R)),(k,w,0,0,g,[],[a,0,0],[],[],(0,[],()),[],()),())) (by
  simp only[a3h,m,i,a02,cT,r,oB,x];rfl)]
 rw[a0F (s':=((wd:Int),(2:Int),rdr (P++pb (a0T a 8) 8++pb (a0T b 8) 8) (pb (a0T c 8) 8++R),(k,w,0,0,g,[],[a,b,0],[],[],(0,[],()),[],()),())) (by
  simp only[a3h,o,j,a02,cT,s,oB,y];rfl)]
 rw[a0F (s':=((wd:Int),(3:Int),rdr (P++pb (a0T a 8) 8++pb (a0T b 8) 8++pb (a0T c 8) 8) R,(k,w,0,0,g,[],[a,b,c],[],[],(0,[],()),[],()),())) (by
  simp only[a3h,p,l,a02,cT,t,oB,w2];rfl)]
 rw[a0E (b:=((wd:Int),rdr (P++pb (a0T a 8) 8++pb (a0T b 8) 8++pb (a0T c 8) 8) R,(k,w,0,0,g,[],[a,b,c],[],[],(0,[],()),[],()),())) (by
  simp only[a3h,q,cF])]
 simp[sB]
theorem c6w{s:Sub}{n:Int}(hs:a1s s n)(ht:s.2.2.2.2.2.2.1.length=3){P R:List Int}(i:OkR P (b4u s++(a4U s++R))):
  a9v (rdr P (b4u s++(a4U s++R)))=some (a3Q s,((a0I s.2.2.2.2.2.2.2.2.1:Nat):Int),true,rdr (P++(b4u s++a4U s)) R):=by
 obtain⟨-,-,hf,ha,M,Q,-,-,S,-⟩:=hs;obtain⟨k,w,o,sh,g,c,t,st,a,b,d,u⟩:=s;have hk:=b6c hf;simp only at hk M Q S ht;have h0:=a1T S;obtain⟨K,rfl⟩:=a01 hk.1;obtain⟨W,rfl⟩:=a01 M;unfold b4u at i⊢;simp only[aA]at i⊢;have g1:a0G (rdr P (pb (K:Int) 3++(pb (W:Int) 5++(pb ((a0I a:Nat):Int) 5++(a4U ((K:Int),(W:Int),o,sh,g,c,t,st,a,b,d,u)++R)))),(3:Int))=_:=a3x (v:=K) (n:=3) (by omega) (by omega) i;have j:=i.shift;have g2:a0G (rdr (P++pb (K:Int) 3) (pb (W:Int) 5++(pb ((a0I a:Nat):Int) 5++(a4U ((K:Int),(W:Int),o,sh,g,c,t,st,a,b,d,u)++R))),(5:Int))=_:=a3x (v:=W) (n:=5) (by omega) (by omega) j;have l:=j.shift;have g3:a0G (rdr (P++pb (K:Int) 3++pb (W:Int) 5) (pb ((a0I a:Nat):Int) 5++(a4U ((K:Int),(W:Int),o,sh,g,c,t,st,a,b,d,u)++R)),(5:Int))=_:=a3x (v:=a0I a) (n:=5) (by omega) (by omega) l;have f:=l.shift;have wK:wrap .i64 (K:Int)=(K:Int):=a0C (by omega);have wW:wrap .i64 (W:Int)=(W:Int):=a0C (by omega);have wd:wrap .i64 ((a0I a:Nat):Int)=((a0I a:Nat):Int):=a0C (by omega);unfold a9v;rw[g1];simp only[oB];rw[g2];simp only[oB];rw[g3];simp only[oB,wK,wW,wd];generalize hX:P++pb (K:Int) 3++pb (W:Int) 5++pb ((a0I a:Nat):Int) 5=X at f⊢;have L:∀B:List Int,P++(pb (K:Int) 3++(pb (W:Int) 5++(pb ((a0I a:Nat):Int) 5++B)))=X++B:=fun B=>by rw[←hX];simp
 rw[L];obtain⟨a1,E,r,C,F,D⟩:=ha;simp only at a1 E r C F D;clear g1 g2 g3 i j l hX L;rcases hf with h|h|⟨h,m,I,-⟩|⟨h,m,-⟩|⟨h,m,-,U⟩|⟨h,m,I⟩
 
 simp only at h;obtain rfl:=a1 (by omega);obtain rfl:=E (by omega);obtain rfl:=r (by omega);obtain rfl:=C (by omega);obtain rfl:=F (by omega);obtain rfl:=D (by omega);rw[h];have hb:a4U ((0:Int),(W:Int),0,0,0,[],[0,0,0],[],a,b,d,u)=[]:=rfl;rw[hb,a05,a42];rfl;simp only at h;obtain rfl:=a1 (by omega);obtain rfl:=E (by omega);obtain rfl:=r (by omega);obtain rfl:=C (by omega);obtain rfl:=F (by omega);obtain rfl:=D (by omega);rw[h];have hb:a4U ((1:Int),(W:Int),0,0,0,[],[0,0,0],[],a,b,d,u)=[]:=rfl;rw[hb,a05,a42];rfl;simp only at h m I;obtain rfl:=E (by omega);obtain rfl:=r (by omega);obtain rfl:=C (by omega);obtain rfl:=F (by omega);obtain rfl:=D (by omega);rw[h]at f⊢;obtain⟨O,rfl⟩:=a01 m;have hb:a4U ((2:Int),(W:Int),(O:Int),0,0,[],[0,0,0],[],a,b,d,u)=pb (O:Int) 3:=rfl;rw[hb]at f⊢;have e:((2:Int)==2)=true:=rfl;have q:a0G (rdr X (pb (O:Int) 3++R),(3:Int))=_:=a3x (v:=O) (n:=3) (by omega) (by omega) f;have wO:wrap .i64 (O:Int)=(O:Int):=a0C (by omega);simp only[e,cT,q,oB,wO];rfl;simp only at h m;obtain rfl:=a1 (by omega);obtain rfl:=r (by omega);obtain rfl:=C (by omega);obtain rfl:=D (by omega);rw[h]at f⊢;have hb:a4U ((3:Int),(W:Int),0,sh,0,c,[0,0,0],[],a,b,d,u)=a7o ((3:Int),(W:Int),0,sh,0,c,[0,0,0],[],a,b,d,u):=rfl;rw[hb]at f⊢;have G:((3:Int)==2)=false:=rfl;have H:((3:Int)==4)=false:=rfl;have Y:((3:Int)==3)=true:=rfl;have q:=b8q (s:=((3:Int),(W:Int),0,sh,0,c,[0,0,0],[],a,b,d,u)) (s0:=((3:Int),(W:Int),0,0,0,[],a00 3 0,[],[],(0,[],()),[],())) m rfl f;simp only[G,Y,H,cT,cF,oB]
 erw[q]
 rfl
 ·simp only at h m U;obtain rfl:=a1 (by omega);obtain rfl:=D (by omega);rw[h]at f⊢;simp only[b2b,bA,dT]at U;obtain⟨U,h5,V⟩:=U;obtain⟨A,hA⟩:=a01 (show 0≤g-1 by omega);obtain rfl:g=(A:Int)+1:=by omega
  obtain⟨x,y,z,rfl⟩:∃x y z,t=[x,y,z]:=by
   match t,ht with
   | [x,y,z],_=>exact⟨x,y,z,rfl⟩
  simp only[a06,List.all_nil,Bool.and_true,bA]at V;have hb:a4U ((4:Int),(W:Int),0,sh,(A:Int)+1,c,[x,y,z],[],a,b,d,u)=pb (A:Int) 10++(sB 8 [x,y,z]++a7o ((4:Int),(W:Int),0,sh,(A:Int)+1,c,[x,y,z],[],a,b,d,u)):=by
   show pb ((A:Int)+1-1) 10++_=_;rw[hA]
  rw[hb]at f⊢;simp only[aA]at f⊢;have G:((4:Int)==2)=false:=rfl;have H:((4:Int)==4)=true:=rfl;have q:a0G (rdr X (pb (A:Int) 10++(sB 8 [x,y,z]++(a7o ((4:Int),(W:Int),0,sh,(A:Int)+1,c,[x,y,z],[],a,b,d,u)++R))),(10:Int))=_:=a3x (v:=A) (n:=10) (by omega) (by omega) f;have p:=f.shift;have wA:wrap .i64 (A:Int)=(A:Int):=a0C (by omega);have Z:wrap .i64 ((A:Int)+1)=(A:Int)+1:=a0C (by omega);have T:=c7x (wd:=a0I a) (k:=4) (w:=(W:Int)) (g:=(A:Int)+1) V.1 V.2.1 V.2.2 p;have g6:=b8q (s:=((4:Int),(W:Int),0,sh,(A:Int)+1,c,[x,y,z],[],a,b,d,u)) (s0:=((4:Int),(W:Int),0,0,(A:Int)+1,[],[x,y,z],[],[],(0,[],()),[],())) m rfl p.shift;simp only[G,H,cT,cF,q,oB,wA,Z]
  erw[T]
  simp only[oB]
  erw[g6]
  simp only[oB,a3Q,b6f,c1s,aA]
 simp only at h m I;obtain rfl:=a1 (by omega);obtain rfl:=E (by omega);obtain rfl:=r (by omega);obtain rfl:=C (by omega);obtain rfl:=F (by omega);rw[h]at f⊢;simp only[a9k,bA,dT]at I;have hb:a4U ((5:Int),(W:Int),0,0,0,[],[0,0,0],st,a,b,d,u)=pb ((st.length:Nat):Int) 2++a7E st:=rfl;rw[hb]at f⊢;simp only[aA]at f⊢;have G:((5:Int)==2)=false:=rfl;have H:((5:Int)==4)=false:=rfl;have Y:((5:Int)==3)=false:=rfl;have e5:((5:Int)==5)=true:=rfl;have q:a0G (rdr X (pb ((st.length:Nat):Int) 2++(a7E st++R)),(2:Int))=_:=a3x (v:=st.length) (n:=2) (by omega) (by omega) f;have T:=b8t (wd:=a0I a) (ok:=true) (N:=st.length) (by omega) (5:Int) (W:Int) st [] _ R I.2 (by simp) f.shift;simp only[a19,nZ,a05,a09]at T;simp only[G,Y,H,e5,cT,cF,oB]
 erw[q]
 simp only[oB]
 erw[T]
 simp only[oB,a3Q,aA]
def a8l(s:Sub)(zn:List Nat):List Int:=
 (b4u s++a4U s)++(sB (a0I s.2.2.2.2.2.2.2.2.1) s.2.2.2.2.2.2.2.2.1++if s.1=0∨s.1=1 then[]else a6x s.2.2.2.2.2.2.2.2.2.1 zn s.2.2.2.2.2.2.2.2.2.2.1)
theorem b8u(b:a1s s n)(d:s.1≠0∧s.1≠1→PartsOk s.2.2.2.2.2.2.2.2.2.1 n ((s.2.2.2.2.2.2.2.2.1.length:Nat):Int) s.2.2.2.2.2.2.2.2.2.2.1 zn)(L:List Int):
  a5e s zn L=L++a8l s zn:=by
 obtain⟨-,-,h,-,k,a,-,-,f,-⟩:=b;have c:=a1T f;have g:=c7w (b6c h) ⟨k,a⟩ f L;unfold a5e a8l
 by_cases hk:s.1=0∨s.1=1
 rw[if_pos hk,if_pos hk,a9R (by omega),c1Z h,g]
 simp
 rw[if_neg hk,if_neg hk,c2G (d (not_or.1 hk)),a9R (by omega),c1Z h,g]
 simp
def a7F(s:Sub)(l:List Int):Sub:=(s.1,s.2.1,s.2.2.1,s.2.2.2.1,s.2.2.2.2.1,s.2.2.2.2.2.1,s.2.2.2.2.2.2.1,s.2.2.2.2.2.2.2.1,l,s.2.2.2.2.2.2.2.2.2)
theorem c2a{wd:Nat}(f:wd≤62){N:Nat}(a:N<1000000)(n:Int)(ok:Bool)(z s:Sub):∀(l done P R:List Int),(∀x∈l,b4V wd x)→done.length+l.length=N→OkR P (sB wd l++R)→
  y0m b0S (n,(wd:Int),ok,(N:Int),(done.length:Int),rdr P (sB wd l++R),z,a7F s done,())=some (n,(wd:Int),ok,rdr (P++sB wd l) R,z,a7F s (done++l),())
 | [],done,P,R,_,hl,_=>by
  have:done.length=N:=by simpa using hl
  subst this;have d:decide ((done.length:Int)<(done.length:Int))=false:=by simp
  rw[a0E (b:=(n,(wd:Int),ok,rdr P R,z,a7F s done,())) (by simp only[b0S,d,cF];simp[sB])];simp[sB]
 |x::l,done,P,R,h,hl,hok=>by
  rw[lC]at hl;rw[c1r]at hok⊢;have d:decide ((done.length:Int)<(N:Int))=true:=by simp;omega
  have k:=a9Q f (h x (by simp)) hok;have g:lim (a47 done+1)=true:=a0S (by omega);have c:wrap .i64 ((done.length:Int)+1)=(((done++[x]).length:Nat):Int):=by rw[a0C (by omega)];simp
  rw[a0F (s':=(n,(wd:Int),ok,(N:Int),(((done++[x]).length:Nat):Int),rdr (P++pb (a0T x wd) wd) (sB wd l++R),z,a7F s (done++[x]),())) (by
   simp only[b0S,d,cT,k,oB,a7F,g,c,a08])]
  rw[c2a f a n ok z s l (done++[x]) _ R (fun y e=>h y (by simp[e])) (by simp;omega) hok.shift];simp[sB]
theorem c6x(h:SmallS s):SmallS (a3Q s) where
 coefs:=h.coefs
 taps:=h.taps
 stages:=h.stages
 warm:=by show([]:List Int).length≤5000;simp
 rest:=by show([]:List Int).length≤5000;simp
 ks:=by show([]:List Int).length≤_;simp
theorem d1d(h:SmallS s)(K:(a2j s n).isSome=true)(T:s.1≠0∧s.1≠1→PartsOk s.2.2.2.2.2.2.2.2.2.1 n ((s.2.2.2.2.2.2.2.2.1.length:Nat):Int) s.2.2.2.2.2.2.2.2.2.2.1 zn)(d:OkR P (a8l s zn++R)):b2o (rdr P (a8l s zn++R),n)=some (s,(0:Int),rdr (P++a8l s zn) R):=by
 have L:=b4U K;have j:=@c6w s n L h.taps P;have y:=L;obtain⟨U,V,Q,-,-,-,-,C,r,-,x,-⟩:=y;have S:=a1T r;have D:=h.warm;have M:decide (n<1)=false:=by simp;omega
 have O:decide (n > 4096)=false:=by simp;omega
 have m:∀A B:List Int,(rdr A B).2.2.1=0:=fun _ _=>rfl;have p:a7W ((a3Q s).1,a3Q s,n)=some true:=by
  rw[b5l (c6x h)];unfold b3N
  have:a3O (a3Q s).1 (a3Q s) n:=Q
  simp only[this,decide_true]
 have l:a4v (a3Q s,n)=some ((s.2.2.2.2.2.2.2.2.1.length:Nat):Int):=by
  rw[b2q]
  have:a2k (a3Q s) n=a2k s n:=rfl
  rw[this,←C]
 have a:=b9C h n;rw[K]at a;have f:a1r s.2.2.2.2.2.2.2.2.1=some ((a0I s.2.2.2.2.2.2.2.2.1:Nat):Int):=a2l (by unfold short;omega);unfold b2o a0N;unfold a8l at d⊢;simp only[aA]at d⊢;have e:OkR (P++(b4u s++a4U s)) (sB (a0I s.2.2.2.2.2.2.2.2.1) s.2.2.2.2.2.2.2.2.1++((if s.1=0∨s.1=1 then[]else a6x s.2.2.2.2.2.2.2.2.2.1 zn s.2.2.2.2.2.2.2.2.2.2.1)++R)):=OkR.shift (by rw[aA];exact d)
 have I:=fun(ok:Bool) (z:Sub)=>c2a (wd:=a0I s.2.2.2.2.2.2.2.2.1) (by omega) (N:=s.2.2.2.2.2.2.2.2.1.length) (by omega) n ok z (a3Q s) s.2.2.2.2.2.2.2.2.1 [] _ _ (b6e r) (by simp) e;simp only[a19,nZ,a05,a09]at I;simp only[M,O,cF,m,bne_self_eq_false,oB];rw[j d];simp only[m,bne_self_eq_false,cF,oB,p,bT,l];rw[show((a3Q s:Sub))=a7F (a3Q s) []from rfl]
 erw[I]
 simp only[oB,m,bne_self_eq_false,cF];rw[show(a7F (a3Q s) s.2.2.2.2.2.2.2.2.1).1=s.1 from rfl,a6u];simp only[oB]
 by_cases hk:s.1=0∨s.1=1
 have v:decide (s.1≠0∧s.1≠1)=false:=by simp only[decide_eq_false_iff_not];omega
 have b:a7F (a3Q s) s.2.2.2.2.2.2.2.2.1=s:=by
  obtain⟨F,G,H⟩:=x hk;obtain⟨k,w,o,sh,g,c,t,st,wm,⟨X,Y,Z⟩,re,u⟩:=s;simp only at F G H;subst F G H;rfl
 rw[b];simp only[v,cF,bT,f,oB,bne_self_eq_false,a,if_pos hk,a05,a42]
 simp
 have v:decide (s.1≠0∧s.1≠1)=true:=by simp only[dT];omega
 have hp:=T (not_or.1 hk);have i:=e.shift;rw[if_neg hk]at i;have q:=c3P hp i;simp only[v,cT,if_neg hk];rw[show(a7F (a3Q s) s.2.2.2.2.2.2.2.2.1).2.2.2.2.2.2.2.2.1=s.2.2.2.2.2.2.2.2.1 from rfl]
 erw[q]
 have E:((0:Int) != 0)=false:=rfl;simp only[oB,E,cF,bT,f,bne_self_eq_false];have b:((a7F (a3Q s) s.2.2.2.2.2.2.2.2.1).1,(a7F (a3Q s) s.2.2.2.2.2.2.2.2.1).2.1,(a7F (a3Q s) s.2.2.2.2.2.2.2.2.1).2.2.1,(a7F (a3Q s) s.2.2.2.2.2.2.2.2.1).2.2.2.1,(a7F (a3Q s) s.2.2.2.2.2.2.2.2.1).2.2.2.2.1,(a7F (a3Q s) s.2.2.2.2.2.2.2.2.1).2.2.2.2.2.1,(a7F (a3Q s) s.2.2.2.2.2.2.2.2.1).2.2.2.2.2.2.1,(a7F (a3Q s) s.2.2.2.2.2.2.2.2.1).2.2.2.2.2.2.2.1,s.2.2.2.2.2.2.2.2.1,s.2.2.2.2.2.2.2.2.2.1,s.2.2.2.2.2.2.2.2.2.2.1,(a7F (a3Q s) s.2.2.2.2.2.2.2.2.1).2.2.2.2.2.2.2.2.2.2.2)=s:=rfl
 erw[b]
 simp only[a,oB,bT,cF]
 simp
theorem d4m(y:Int):bits .u64 .and y 1=y%2:=by
 have h:((a04 64 y) &&& (a04 64 1)).toNat=(y%18446744073709551616).toNat%2:=by
  rw[a77,a36];have e:(a04 64 1).toNat=2^1-1:=by decide
  rw[e,a65];rfl
 show wrap .u64 ((((a04 64 y) &&& (a04 64 1)).toNat:Nat):Int)=_;rw[h,a0K (by omega)];omega
theorem a1Z(v:Int):∀n,a1v (pb v n)
 |0=>fun b hb=>by cases hb
 |n+1=>fun b hb=>by
  rcases mC.1 hb with rfl|hb;unfold a6P;rw[d4m,a7m];omega;exact a1Z v n b hb
theorem c5g(n:Nat):a1v (unB n):=fun b hb=>by
 rcases mA.1 hb with hb|hb;exact .inl (a95.1 hb).2;exact .inr (by simpa using hb)
theorem b4v{f:α→List Int}{l:List α}(h:∀x,a1v (f x)):a1v (l.flatMap f):=fun b hb=>by
 obtain⟨x,-,g⟩:=b17.1 hb;exact h x b g
theorem c7y(k:Nat)(x:Int):a1v (a9C k x):=by
 unfold a9C;split;exact(c5g _).app (a1Z _ _);exact(c5g _).app (a1Z _ _)
theorem b7I(n:Nat)(l:List Int):a1v (sB n l):=b4v fun _=>a1Z _ _
theorem c7z(k:Int)(l:List Int):a1v (b1d k l):=by
 unfold b1d;split;exact(a1Z _ _).app ((a1Z _ _).app (b7I _ _));exact(a1Z _ _).app (b4v fun _=>c7y _ _)
theorem b6g:a1v []:=fun b hb=>by cases hb
theorem b9Z:∀(zs:List Nat)(ks l:List Int),a1v (a1K zs ks l)
 |z::zs,k::ks,l=>by
  simp only[a1K];exact(c7z _ _).app (b9Z zs ks _)
 | [],_,_=>by simp only[a1K];exact b6g
 |_::_,[],_=>by simp only[a1K];exact b6g
theorem c0A(s:Sub):a1v (a7o s):=(a1Z _ _).app ((a1Z _ _).app ((a1Z _ _).app (b7I _ _)))
theorem c7A(s:Sub):a1v (a4U s):=by
 unfold a4U;split;exact a1Z _ _;split;exact c0A s;split;exact(a1Z _ _).app ((b7I _ _).app (c0A s));split;exact(a1Z _ _).app (b4v fun _=>(a1Z _ _).app (a1Z _ _));exact b6g
theorem c8I(s:Sub)(h:List Nat):a1v (a8l s h):=by
 refine(((a1Z _ _).app ((a1Z _ _).app (a1Z _ _))).app (c7A s)).app ((b7I _ _).app ?_);split;exact b6g;exact(a1Z _ _).app (b9Z _ _ _)
theorem c8J(h:SmallS s)(k:(a2j s n).isSome=true)(j:L.length<50000000):
  ∃g,a9M (wL L,s,n)=some (0,wL (L++a8l s g))∧a5s (s,n)=some (((a8l s g).length:Nat):Int)∧(a8l s g).length≤700000∧
   (s.1≠0∧s.1≠1→PartsOk s.2.2.2.2.2.2.2.2.2.1 n ((s.2.2.2.2.2.2.2.2.1.length:Nat):Int) s.2.2.2.2.2.2.2.2.2.2.1 g):=by
 obtain⟨e,i,a,-,b,d,-⟩:=b5M h (n:=n) (L:=L) (by omega);obtain⟨rfl,g,rfl,f⟩:=d k;have c:=b4U k;rw[b8u c f]at a b;refine⟨g,a,?_,by simp at b;omega,f⟩;rw[c5c h];unfold a4S;rw[if_pos k,←c1m f,b8u c f]
 simp
theorem d2q(g:L.length<1000000000):b2W (wL L).1=some (rdr [] L):=by
 obtain⟨-,h⟩:=a5L L;unfold b2W;rw[a0S (by omega)];rfl
theorem c8K(g:L.length<1000000000):a4M (wL L)=some ((wL L).1,wL L):=by
 obtain⟨-,h⟩:=a5L L;unfold a4M;rw[a0S (by omega)];rfl
def a0J(n:Nat):List Int:=if h:n<128 then[(n:Int)]else((n%128+128:Nat):Int)::a0J (n / 128)
termination_by n
decreasing_by omega
theorem b1D{n:Nat}(h:n<128):a0J n=[(n:Int)]:=by rw[a0J,dif_pos h]
theorem b3n{n:Nat}(h:¬ n<128):a0J n=((n%128+128:Nat):Int)::a0J (n / 128):=by rw[a0J,dif_neg h]
theorem b8T:∀(k n:Nat),n<128^(k+1)→1≤(a0J n).length∧(a0J n).length≤k+1
 |0,n,h=>by rw[b1D (by omega)];simp
 |k+1,n,h=>by
  by_cases hn:n<128
  rw[b1D hn];simp;rw[b3n hn]
  have:=b8T k (n / 128) (by rw[a51 (by omega)];rw[a53]at h;exact h)
  simp only[lC];omega
theorem c0B:∀(k n:Nat),n<128^(k+1)→∀b∈a0J n,0≤b∧b<256
 |0,n,h,b,hb=>by rw[b1D (by omega)]at hb;simp at hb;omega
 |k+1,n,h,b,hb=>by
  by_cases hn:n<128
  rw[b1D hn]at hb;simp at hb;omega;rw[b3n hn]at hb;rcases mC.1 hb with rfl|hb;omega;exact c0B k (n / 128) (by rw[a51 (by omega)];rw[a53]at h;exact h) b hb
theorem c5h:∀(k n:Nat)(a:List Int)(b c:Int)(out:List Int),n<128^(k+1)→k≤8→out.length+k<1000000→
  ∃r g,y0m a8v ((n:Int),a,b,c,out,())=some (((r:Nat):Int),a,b,c,out++g,())∧a0J n=g++[(r:Int)]∧r<128
 |k,n,a,b,c,out,h,hk,ho=>by
  by_cases hn:n<128
  refine⟨n,[],?_,by rw[b1D hn];rfl,hn⟩;rw[a0E (b:=((n:Int),a,b,c,out,())) (by
   have d:decide ((n:Int)≥128)=false:=by simp;omega
   simp only[a8v,d,cF])]
  simp
  ·cases k with
   |zero=>omega
   |succ k=>
    have p:n / 128<128^(k+1):=by rw[a51 (by omega)];rw[a53]at h;exact h
    have f:n<18446744073709551616:=by
     have:128^(k+1+1)≤128^9:=a16 (by omega) (by omega)
     have e:(128:Nat)^9=9223372036854775808:=by decide
     omega
    obtain⟨r,g,l,m,o⟩:=c5h k (n / 128) a b c (out++[((n%128+128:Nat):Int)]) p (by omega) (by simp;omega);refine⟨r,((n%128+128:Nat):Int)::g,?_,by rw[b3n hn,m];rfl,o⟩;have d:decide ((n:Int)≥128)=true:=by simp;omega
    have i:wrap .u64 (a56 (n:Int) 128)=((n / 128:Nat):Int):=by
     rw[show a56 (n:Int) 128=((n / 128:Nat):Int)from rfl];exact a0K (by omega)
    have j:wrap .u8 (wrap .u8 (a31 (n:Int) 128)+128)=((n%128+128:Nat):Int):=by
     rw[show a31 (n:Int) 128=((n%128:Nat):Int)from rfl,a7m,a7m];omega
    rw[a0F (s':=(((n / 128:Nat):Int),a,b,c,out++[((n%128+128:Nat):Int)],())) (by
     simp only[a8v,d,cT,a0S (show out.length+1<2147483648 by omega),i,j,a08])]
    rw[l]
    simp
theorem b3V{α β γ:Type}(f:α→List γ):∀(l:List α)(a:List γ),a2K (β:=β) (fun a x=>.inl (a++f x)) l a=.inl (a++l.flatMap f)
 | [],a=>by simp[a2K]
 |x::l,a=>by simp only[a2K];rw[b3V f l];simp
def asI(ns:List Nat):List Int:=ns.map fun n:Nat=>(n:Int)
theorem b7r{ns:List Nat}(h:∀n∈ns,n<9223372036854775808)(t:ns.length≤1000):a9g (asI ns)=some (ns.flatMap a0J):=by
 have l:(asI ns).length=ns.length:=by simp[asI]
 have:=a1P (f:=a8w) (asI ns) (fun i (a:List Int)=>(asI ns,((asI ns).length:Int),(i:Int),a,())) (fun a x=>.inl (a++a0J x.toNat)) (fun i a=>a.length≤10*i) (fun a=>(a,()))
  (fun i hi a p=>⟨fun q g=>by
   have c:i<ns.length:=by omega
   have m:(asI ns)[i]=((ns[i]:Nat):Int):=by simp[asI]
   have hb:=h ns[i] (a07 c);have k:ns[i]<128^(8+1):=by rw[show(128:Nat)^(8+1)=9223372036854775808 from by decide];exact hb
   obtain⟨r,d,o,j,s⟩:=c5h 8 ns[i] (asI ns) ((asI ns).length:Int) (i:Int) a k (a34 _) (by omega);have hv:=b8T 8 ns[i] k;rw[j]at hv;simp only[lN,lC,a19]at hv;simp only[m,tN,j,Sum.inl.injEq]at g;subst g;have e:wrap .u8 (r:Int)=(r:Int):=by rw[a7m];omega
   refine⟨?_,by simp;omega⟩;simp only[a8w,dlt hi,cT,a0D hi,m,oB,o,a0S (show(a++d).length+1<2147483648 by simp;omega),a0B (show i<1000000 by omega),e,a08,aA],fun b hb=>by cases hb⟩)
  (fun a p=>by simp only[a8w,dge,cF]) (a:=[]) (by simp)
 unfold a9g;simp only[nZ]at this;rw[this,b3V];simp[a8V,asI,List.flatMap_map]
theorem orA{k:Nat}(f:a<2^k)(c:b*2^k+a<18446744073709551616):bits .u64 .or (a:Int) ((b*2^k:Nat):Int)=((a+b*2^k:Nat):Int):=by
 show wrap .u64 (((a04 64 (a:Int) ||| a04 64 ((b*2^k:Nat):Int)).toNat:Nat):Int)=_;have g:(a04 64 (a:Int)).toNat=a:=by rw[a36];omega
 have h:(a04 64 ((b*2^k:Nat):Int)).toNat=b*2^k:=by rw[a36];omega
 rw[a57,g,h];have e:a ||| b*2^k=a+b*2^k:=by
  have:=a52 (i:=k) (b:=a) f b
  rw[Nat.or_comm,a69 b,←this,Nat.add_comm]
 rw[e];exact a0K (by omega)
theorem b8v{rest:List Int}:∀(j m i acc:Nat)(P:List Int),m<128^(j+1)→P.length=i→(i=0∨1≤m)→acc<2^(7*i)→m*2^(7*i)+acc<9223372036854775808→(P++(a0J m++rest)).length<1000000000→
  y0m a5W ((acc:Int),P++(a0J m++rest),((P++(a0J m++rest)).length:Nat),(i:Int),())=some (.inr (((acc+m*2^(7*i):Nat):Int),((i+(a0J m).length:Nat):Int),(0:Int),()))
 |j,m,i,acc,P,hj,hP,hm,ha,hs,hl=>by
  have v:i≤8:=by
   rcases hm with r|h1;omega;apply Classical.byContradiction;intro hi;have z:2^(7*9)≤2^(7*i):=a16 (by omega) (by omega);have A:2^(7*i)≤m*2^(7*i):=Nat.le_mul_of_pos_left _ (by omega);have e:(2:Nat)^(7*9)=9223372036854775808:=by decide
   omega
  have a:wrap .i64 ((7:Int)*(i:Int))=((7*i:Nat):Int):=by rw[a0C (by omega)];omega
  have l:decide ((((7*i:Nat):Int))<0)=false:=by simp;omega
  have b:wrap .i64 ((i:Int)+1)=((i+1:Nat):Int):=a0B (by omega);have y:∀c:Nat,c<256→(i=9→False):=fun _ _ h=>by omega
  have s:((i:Int)==9)=false:=by simp;omega
  have g:∀(c:Nat)(q:List Int),c<256→a0J m=(c:Int)::q→(i=0∨c≠0)→
    a5W ((acc:Int),P++(a0J m++rest),((P++(a0J m++rest)).length:Nat),(i:Int),()) =
     bif decide ((c:Int)<128)then some (.inr (Sum.inr (bits .u64 .or (acc:Int) (A0h .u64 (wrap .u64 (a31 (c:Int) 128)) ((7*i:Nat):Int)),((i+1:Nat):Int),(0:Int),())))
     else some (.inl (bits .u64 .or (acc:Int) (A0h .u64 (wrap .u64 (a31 (c:Int) 128)) ((7*i:Nat):Int)),P++(a0J m++rest),((P++(a0J m++rest)).length:Nat),((i+1:Nat):Int),())):=fun c q t hv r=>by
   have f:i<(P++(a0J m++rest)).length:=by rw[hv];simp;omega
   have u:m0h (P++(a0J m++rest)) (i:Int)=some (c:Int):=by
    rw[a0D f];congr 1;subst hP;simp[hv]
   have w:(decide ((i:Int) > 0)=true→((c:Int)==0)=false):=fun h=>by
    simp only[dT]at h;simp only[beq_eq_false_iff_ne,ne_eq];omega
   simp only[a5W,dlt f,cT,u,oB,s,cF];cases o:decide ((i:Int) > 0)with
   |true=>simp only[cT,oB,w o,cF,a,l,b]
   |false=>simp only[oB,cF,a,l,b]
  have n:∀c:Nat,c%128*2^(7*i)+acc<9223372036854775808→bits .u64 .or (acc:Int) (A0h .u64 (wrap .u64 (a31 (c:Int) 128)) ((7*i:Nat):Int))=((acc+c%128*2^(7*i):Nat):Int):=fun c t=>by
   rw[show a31 (c:Int) 128=((c%128:Nat):Int)from rfl,a0K (by omega),b2r (by omega) (by omega)];exact orA ha (by omega)
  by_cases hm128:m<128
  rw[a0E (g m [] (by omega) (b1D hm128) (by omega) |>.trans (by
   have d:decide ((m:Int)<128)=true:=by simp;omega
   simp only[d,cT];rfl))]
  rw[n m (by rw[a28 hm128];exact hs),a28 hm128,b1D hm128];rfl
  ·cases j with
   |zero=>omega
   |succ j=>
    have o:m / 128<128^(j+1):=by rw[a51 (by omega)];rw[a53]at hj;exact hj
    have k:2^(7*(i+1))=128*2^(7*i):=by rw[show 7*(i+1)=7+7*i from by omega,Nat.pow_add]
    have p:m*2^(7*i)=m%128*2^(7*i)+m / 128*2^(7*(i+1)):=by
     rw[k,←a91,←Nat.add_mul];congr 1;omega
    have hb:m%128*2^(7*i)≤127*2^(7*i):=a30 _ (by omega);rw[a0F (g (m%128+128) (a0J (m / 128)) (by omega) (b3n hm128) (by omega) |>.trans (by
     have d:decide (((m%128+128:Nat):Int)<128)=false:=by simp;omega
     simp only[d,cF];rfl))]
    rw[n (m%128+128) (by rw[b01,Nat.mod_mod];omega),b01,Nat.mod_mod];have e:P++(a0J m++rest)=(P++[((m%128+128:Nat):Int)])++(a0J (m / 128)++rest):=by rw[b3n hm128];simp
    rw[e]at hl⊢;have x:=b8v j (m / 128) (i+1) (acc+m%128*2^(7*i)) (P++[((m%128+128:Nat):Int)]) o (by simp[hP]) (.inr (by omega)) (by rw[k];omega) (by omega) hl;rw[x,p,b3n hm128];congr 3;omega
    simp;omega
theorem c7B{n:Nat}(h:n<9223372036854775808){rest:List Int}(g:(a0J n++rest).length<1000000000):a8H (a0J n++rest)=some ((n:Int),(((a0J n).length:Nat):Int),(0:Int)):=by
 have:=b8v (rest:=rest) 8 n 0 0 [] (by rw[show(128:Nat)^(8+1)=9223372036854775808 from by decide];exact h) rfl (.inl rfl) (by simp) (by simpa using h) g
 simp only[a05,nZ,Nat.mul_zero,Nat.pow_zero,a85,Nat.zero_add,a09]at this;unfold a8H;rw[this];rfl
def ord(P R:List Int):List Int×(Int×Int×Unit):=(P++R,(P.length:Int),(0:Int),())
theorem a2Q{n:Nat}(d:n<9223372036854775808){most:Int}(i:(n:Int)≤most)(f:(P++(a0J n++R)).length<1000000000):
  a0R (ord P (a0J n++R),most)=some ((n:Int),ord (P++a0J n) R):=by
 have c:b25 (a25 (P.length:Int)) (b02 (P++(a0J n++R)).length (P++(a0J n++R)))=a0J n++R:=by
  rw[a20,tN,List.drop_left]
 have g:((0:Int) != 0)=false:=rfl;have k:decide ((0:Int)≤(P.length:Int))=true:=by simp
 have a:decide ((P.length:Int)≤((P++(a0J n++R)).length:Int))=true:=by simp;omega
 have b:decide ((n:Int) > most)=false:=by simp;omega
 have h:(a0J n++R).length<1000000000:=by rw[lN]at f;omega
 have e:wrap .i64 ((P.length:Int)+((a0J n).length:Int))=(((P++a0J n).length:Nat):Int):=by
  rw[a0C (by simp only[lN]at f;omega)];simp
 unfold a0R ord;simp only[g,cF,k,a,a02,cT];rw[c,c7B d h];simp only[oB,beq_self_eq_true,cT,b,cF,g,e,aA]
def a8Y(g:Int):Nat:=if 0≤g then(2*g).toNat else(-2*g-1).toNat
theorem d2r(h:-100000≤g∧g≤100000):b1O g=some ((a8Y g:Nat):Int):=by
 unfold b1O a8Y
 by_cases hg:0≤g
 have d:decide (g≥0)=true:=by simpa using hg
 rw[d,cT,if_pos hg,a0K (n:=g) (by omega),a0K (by omega),a92 (by omega)];have d:decide (g≥0)=false:=by simp;omega
 rw[d,cF,if_neg hg,a0C (n:=g+1) (by omega),a0C (by omega),a0K (n:=0-(g+1)) (by omega),a0K (n:=2*(0-(g+1))) (by omega),a0K (by omega),a92 (by omega)];congr 1;omega
theorem c5i(h:-(m:Int)≤g∧g≤(m:Int)):a8Y g≤2*m:=by
 unfold a8Y
 split<;>omega
theorem d2s(h:-100000≤g∧g≤100000):b1W ((a8Y g:Nat):Int)=some g:=by
 unfold b1W;have f:a31 ((a8Y g:Nat):Int) 2=((a8Y g%2:Nat):Int):=rfl;have k:a56 ((a8Y g:Nat):Int) 2=((a8Y g / 2:Nat):Int):=rfl;rw[f,k];unfold a8Y
 by_cases hg:0≤g
 rw[if_pos hg];have d:((((2*g).toNat%2:Nat):Int)==0)=true:=by simp;omega
 rw[d,cT,a0K (by omega),a0C (by omega)];congr 1;omega;rw[if_neg hg];have d:((((-2*g-1).toNat%2:Nat):Int)==0)=false:=by simp;omega
 rw[d,cF,a0K (by omega),a0C (n:=(((-2*g-1).toNat / 2:Nat):Int)) (by omega),a0C (n:=0-(((-2*g-1).toNat / 2:Nat):Int)) (by omega),a0C (by omega)];congr 1;omega
def e8(s:Int):Int:=bif (A0i .u8 s 7)==(1:Int)then bits .u8 .xor (A0h .u8 s 1) 7 else A0h .u8 s 1
def e16(s:Int):Int:=bif (A0i .u16 s 15)==(1:Int)then bits .u16 .xor (A0h .u16 s 1) 32773 else A0h .u16 s 1
def rep{α:Type}(f:α→α):Nat→α→α
 |0,s=>s
 |n+1,s=>rep f n (f s)
def g8(s c:Int):Int:=rep e8 8 (bits .u8 .xor s c)
def g16(s c:Int):Int:=rep e16 8 (bits .u16 .xor s (A0h .u16 (wrap .u16 c) 8))
theorem c0C(l:List Int)(n i:Int):∀(j k:Nat)(s:Int),k+j=8→y0m b0H (s,l,n,i,(k:Int),())=some (rep e8 j s,l,n,i,())
 |0,k,s,h=>by
  obtain rfl:k=8:=by omega
  exact a0E rfl
 |j+1,k,s,h=>by
  have d:decide ((k:Int)<8)=true:=by simp;omega
  rw[a0F (s':=(e8 s,l,n,i,((k+1:Nat):Int),())) (by
   simp only[b0H,d,cT,a0B (show k<1000000 by omega),e8];cases (A0i .u8 s 7==1:Bool)<;>rfl)]
  exact c0C l n i j (k+1) (e8 s) (by omega)
theorem b7s(l:List Int)(n i:Int):∀(j k:Nat)(s:Int),k+j=8→y0m a8Q (s,l,n,i,(k:Int),())=some (rep e16 j s,l,n,i,())
 |0,k,s,h=>by
  obtain rfl:k=8:=by omega
  exact a0E rfl
 |j+1,k,s,h=>by
  have d:decide ((k:Int)<8)=true:=by simp;omega
  rw[a0F (s':=(e16 s,l,n,i,((k+1:Nat):Int),())) (by
   simp only[a8Q,d,cT,a0B (show k<1000000 by omega),e16];cases (A0i .u16 s 15==1:Bool)<;>rfl)]
  exact b7s l n i j (k+1) (e16 s) (by omega)
def b6h(l:List Int):Int:=l.foldl g8 0
def a4c(l:List Int):Int:=l.foldl g16 0
theorem c3Q(h:short l):a7Z l=some (b6h l):=by
 have:=a1P (f:=a7K) (β:=Int×Unit) l (fun i (a:Int)=>(a,l,(l.length:Int),(i:Int),())) (fun a x=>.inl (g8 a x)) (fun _ _=>True) (fun a=>(a,()))
  (fun i hi a _=>⟨fun k g=>by
   simp only[Sum.inl.injEq]at g;subst g
   have:=c0C l (l.length:Int) (i:Int) 8 0 (bits .u8 .xor a l[i]) rfl
   simp only[nZ]at this;refine⟨?_,trivial⟩;simp only[a7K,dlt hi,cT,a0D hi,oB,this,a0B (a32 hi h),g8],fun b hb=>by cases hb⟩)
  (fun a c=>by simp only[a7K,dge,cF]) (a:=0) trivial
 unfold a7Z;simp only[nZ]at this;rw[this,b6a];rfl
theorem c0D(h:short l):a6d l=some (a4c l):=by
 have:=a1P (f:=a5S) (β:=Int×Unit) l (fun i (a:Int)=>(a,l,(l.length:Int),(i:Int),())) (fun a x=>.inl (g16 a x)) (fun _ _=>True) (fun a=>(a,()))
  (fun i hi a _=>⟨fun k g=>by
   simp only[Sum.inl.injEq]at g;subst g
   have:=b7s l (l.length:Int) (i:Int) 8 0 (bits .u16 .xor a (A0h .u16 (wrap .u16 l[i]) 8)) rfl
   simp only[nZ]at this;refine⟨?_,trivial⟩;simp only[a5S,dlt hi,cT,a0D hi,oB,this,a0B (a32 hi h),g16],fun b hb=>by cases hb⟩)
  (fun a c=>by simp only[a5S,dge,cF]) (a:=0) trivial
 unfold a6d;simp only[nZ]at this;rw[this,b6a];rfl
theorem b3o(n:Int):wrap .u16 n=n%65536:=by simp[wrap,IntKind.bits,IntKind.signed]
theorem c7C(s:Int):0≤e16 s∧e16 s<65536:=by
 unfold e16;cases (A0i .u16 s 15==1:Bool);simp only[cF,A0h,b3o];omega;simp only[cT,bits,b3o];omega
theorem b8w(l:List Int):0≤a4c l∧a4c l<65536:=by
 unfold a4c;rcases a63 l with rfl|⟨L,b,rfl⟩
 simp
 rw[List.concat_eq_append,List.foldl_append];exact c7C _
theorem d7V{v:Int}(h:0≤v∧v<65536):a4h (v,2)=some [v / 256,v%256]:=by
 have g:wrap .u64 (a56 v 256)=v / 256:=by rw[a54 h.1];exact a0K (by omega)
 have f:wrap .u8 (a31 v 256)=v%256:=by rw[a38 h.1,a7m];omega
 have k:wrap .u8 (a31 (v / 256) 256)=v / 256:=by rw[a38 (by omega),a7m];omega
 have s0:a1O (v,(2:Int),(0:Int),([]:List Int),())=some (.inl (v / 256,(2:Int),(1:Int),[v%256],())):=by
  simp only[a1O,show decide ((0:Int)<2)=true from rfl,cT,a0S (show([]:List Int).length+1<2147483648 by simp),g,f];rfl
 have c:a1O (v / 256,(2:Int),(1:Int),[v%256],())=some (.inl (wrap .u64 (a56 (v / 256) 256),(2:Int),(2:Int),[v%256,v / 256],())):=by
  simp only[a1O,show decide ((1:Int)<2)=true from rfl,cT,a0S (show([v%256]:List Int).length+1<2147483648 by simp),k];rfl
 have a:a5a (v,2)=some [v%256,v / 256]:=by
  unfold a5a a2S;simp only[oB];rw[show v0n (v0m (2:Int) 0) 8=2 from rfl,a0F s0,a0F c,a0E (b:=([v%256,v / 256],())) rfl];rfl
 unfold a4h a1L;simp only[a,oB];rfl
@[reducible] def a0L:Type:=Int×(Int×(Int×Unit))
@[reducible] def a1p:Type:=Int×(Int×(a0L×(List a0L×(List Sub×Unit))))
variable {f:a1p}
@[reducible] def a1l:Type:=Int×(List (List Int)×Unit)
def a2v(n:Int)(s:a0L):Bool:=!(decide (s.1<0) || decide (s.1≥n) || decide (s.2.1<0) || decide (s.2.1≥n) || s.1==s.2.1)&&!(decide (s.2.2.1 < -1024) || decide (s.2.2.1 > 1024))
theorem a2T{n:Int}{s:a0L}:a2v n s=true↔0≤s.1∧s.1<n∧0≤s.2.1∧s.2.1<n∧s.1≠s.2.1∧-1024≤s.2.2.1∧s.2.2.1≤1024:=by
 simp only[a2v,bA,a24,a88,decide_eq_false_iff_not,beq_eq_false_iff_ne];omega
def a4W(l:List a0L)(n:Int):Prop:=1≤n∧n≤8∧l.length≤16∧l.all (a2v n)=true
instance (l:List a0L) (n:Int):Decidable (a4W l n):=by unfold a4W;infer_instance
theorem b4W(l:List a0L)(n:Int):a8o (l,n)=some (decide (a4W l n)):=by
 unfold a8o a4W
 by_cases h1:n<1
 grind
 by_cases h2:n > 8
 grind
 by_cases h3:((l.length:Nat):Int) > 16
 grind
 have g:=a1Q (f:=a6U) (β:=Unit ⊕ (Bool×Unit)) l (fun i=>(n,l,(l.length:Int),(i:Int),())) (a2v n) (bt:=Sum.inl ()) (bf:=Sum.inr (false,()))
  (fun i h hp=>by
   obtain⟨a1,m,o,p,q,r,s⟩:=a2T.1 hp;have k:decide (l[i].1<0)=false:=by simp_all
   have a:decide (l[i].1≥n)=false:=by simp_all
   have b:decide (l[i].2.1<0)=false:=by simp_all
   have c:decide (l[i].2.1≥n)=false:=by simp_all
   have d:(l[i].1==l[i].2.1)=false:=by simp_all
   have e:decide (l[i].2.2.1 < -1024)=false:=by simp_all
   have j:decide (l[i].2.2.1 > 1024)=false:=by simp_all
   simp only[a6U,dlt h,cT,a0D h,oB,k,a,b,c,d,e,j,cF,a0B (show i<1000000 by omega)])
  (fun i h hp=>by
   simp only[a6U,dlt h,cT,a0D h,oB]
   grind[a2v])
  (by simp[a6U])
 grind
def a3y(f:a0L):Prop:=1≤f.1∧f.1≤1048576∧1≤f.2.1∧f.2.1≤8∧4≤f.2.2.1∧f.2.2.1≤24
instance (f:a0L):Decidable (a3y f):=by unfold a3y;infer_instance
theorem a4t(f:a0L):a1S f=some (decide (a3y f)):=by
 unfold a1S a6T a3y
 grind
def frP(f:a1p):Prop:=a3y f.2.2.1∧1≤f.2.1∧f.2.1≤4096∧0≤f.1∧f.1≤4194304-f.2.1∧a4W f.2.2.2.1 f.2.2.1.2.1
instance (f:a1p):Decidable (frP f):=by unfold frP;infer_instance
theorem b5y(f:a1p):a6V f=some (decide (frP f)):=by
 unfold a6V frP;rw[a4t,b4W]
 by_cases h1:a3y f.2.2.1<;>by_cases h2:1≤f.2.1<;>by_cases h3:f.2.1≤4096<;>by_cases h4:0≤f.1<;>simp[h1,h2,h3,h4]
 have h:wrap .i64 ((4194304:Int)-f.2.1)=4194304-f.2.1:=a0C (by omega);rw[h]
 grind
def a7p(s:a0L):List Nat:=[s.1.toNat,s.2.1.toNat,a8Y s.2.2.1]
def a5E(s:a0L):List Int:=a0J s.1.toNat++(a0J s.2.1.toNat++a0J (a8Y s.2.2.1))
def hb(f:a1p)(body:Nat):List Int:=
 [245,75]++(a0J f.1.toNat++(a0J f.2.1.toNat++(a0J f.2.2.1.1.toNat++(a0J f.2.2.1.2.1.toNat++(a0J f.2.2.1.2.2.1.toNat++(a0J f.2.2.2.1.length++(f.2.2.2.1.flatMap a5E++a0J body)))))))
def a1C(f:a1p)(body:Nat):List Int:=hb f body++[b6h (hb f body)]
theorem a8N{n:Nat}(h:n<9223372036854775808):1≤(a0J n).length∧(a0J n).length≤9:=b8T 8 n (by omega)
theorem c7D(g:n≤8){s:a0L}(h:a2v n s=true):(a5E s).length≤27:=by
 grind[a2T,a8N,a8Y,a5E]
theorem c2b{n:Int}(g:n≤8):∀(l:List a0L),l.all (a2v n)=true→(l.flatMap a5E).length≤27*l.length
 | [],_=>by simp
 |s::l,h=>by
  simp only[a06,bA]at h
  have:=c7D g h.1
  have:=c2b g l h.2
  simp only[a60,lN,lC];omega
theorem c3R(g:frP f){body:Nat}(h:body≤1048576):2≤(hb f body).length∧(hb f body).length≤600:=by
 obtain⟨⟨q,r2,k,a,b,c⟩,l1,l2,s1,s2,m1,m2,m3,m4⟩:=g;have d:=a8N (n:=f.1.toNat) (by omega);have e:=a8N (n:=f.2.1.toNat) (by omega);have i:=a8N (n:=f.2.2.1.1.toNat) (by omega);have j:=a8N (n:=f.2.2.1.2.1.toNat) (by omega);have l:=a8N (n:=f.2.2.1.2.2.1.toNat) (by omega);have m:=a8N (n:=f.2.2.2.1.length) (by omega);have o:=a8N (n:=body) (by omega);have p:=c2b m2 _ m4;simp only[hb,lN,lC,a19];omega
theorem c5j:∀l:List a0L,(l.flatMap a7p).length=3*l.length
 | []=>rfl
 |s::l=>by simp only[a60,lN,lC,c5j l];simp only[a7p,lC,a19];omega
theorem c6y(z:frP f){body:Nat}(q:body≤1048576):a7L (f,(body:Int))=some (a1C f body):=by
 have t:=z;obtain⟨⟨N,r2,I,K,L,M⟩,l1,l2,s1,s2,m1,m2,m3,m4⟩:=t;have k:∀s∈f.2.2.2.1,a2v f.2.2.1.2.1 s=true:=fun s v=>lA.1 m4 s v;have h:=a1P (f:=a5j) (β:=Int×(List Int×Unit)) f.2.2.2.1 (fun i (a:List Int)=>((body:Int),f.2.2.2.1,((f.2.2.2.1.length:Nat):Int),(i:Int),a,())) (fun a x=>.inl (a++asI (a7p x))) (fun i a=>a.length=6+3*i) (fun a=>((body:Int),a,()))
  (fun i hi a F=>⟨fun H j=>by
   simp at j;subst j;obtain⟨a1,B,C,D,E,w,y⟩:=a2T.1 (k _ (a07 hi));refine⟨?_,by grind[asI,a7p]⟩;simp only[a5j,dlt hi,cT,a0D hi,oB,d2r (g:=f.2.2.2.1[i].2.2.1) (by omega),a0S (show a.length+3<2147483648 by omega),a0B (show i<1000000 by omega),a08]
   grind[a0K,asI,a7p],fun b hb=>by grind⟩)
  (fun a F=>by simp_all[a5j]) (a:=asI [f.1.toNat,f.2.1.toNat,f.2.2.1.1.toNat,f.2.2.1.2.1.toNat,f.2.2.1.2.2.1.toNat,f.2.2.2.1.length]) (by rfl)
 rw[b3V]at h;simp[a8V]at h;have d:([wrap .u64 f.1,wrap .u64 f.2.1,wrap .u64 f.2.2.1.1,wrap .u64 f.2.2.1.2.1,wrap .u64 f.2.2.1.2.2.1,wrap .u64 ((f.2.2.2.1.length:Nat):Int)]:List Int)=asI [f.1.toNat,f.2.1.toNat,f.2.2.1.1.toNat,f.2.2.1.2.1.toNat,f.2.2.1.2.2.1.toNat,f.2.2.2.1.length]:=by
  grind[a0K,asI]
 have o:asI [f.1.toNat,f.2.1.toNat,f.2.2.1.1.toNat,f.2.2.1.2.1.toNat,f.2.2.1.2.2.1.toNat,f.2.2.2.1.length]++f.2.2.2.1.flatMap (fun x=>asI (a7p x))++[((body:Nat):Int)]=asI ([f.1.toNat,f.2.1.toNat,f.2.2.1.1.toNat,f.2.2.1.2.1.toNat,f.2.2.1.2.2.1.toNat,f.2.2.2.1.length]++f.2.2.2.1.flatMap a7p++[body]):=by
  simp_all[asI,List.map_flatMap]
 have u:∀n∈[f.1.toNat,f.2.1.toNat,f.2.2.1.1.toNat,f.2.2.1.2.1.toNat,f.2.2.1.2.2.1.toNat,f.2.2.2.1.length]++f.2.2.2.1.flatMap a7p++[body],n<9223372036854775808:=fun n e=>by
  simp only[mA,mC,b09,or_false,b17]at e;rcases e with(e|⟨s,v,e⟩)|e;omega;obtain⟨a1,B,C,D,E,w,y⟩:=a2T.1 (k _ v)
  have:=c5i (m:=1024) ⟨w,y⟩
  simp[a7p]at e;omega;omega
 have A:=c5j f.2.2.2.1;have p:=b7r u (by grind);have c:(([f.1.toNat,f.2.1.toNat,f.2.2.1.1.toNat,f.2.2.1.2.1.toNat,f.2.2.1.2.2.1.toNat,f.2.2.2.1.length]++f.2.2.2.1.flatMap a7p++[body]).flatMap a0J)=(hb f body).drop 2:=by
  simp only[hb,List.flatMap_append,a60,List.flatMap_nil,a42,aA,List.flatMap_assoc,a76,a05,List.drop_succ_cons,a23];congr 7;exact congrArg (fun g=>List.flatMap g f.2.2.2.1) (funext fun s=>by simp[a5E,a7p])
 have r:[245,75]++(hb f body).drop 2=hb f body:=by rfl
 have G:=c3R z q;unfold a7L;simp only[d];rw[h];simp only[oB,a08];have l:=congrArg a47 o;rw[show(asI ([f.1.toNat,f.2.1.toNat,f.2.2.1.1.toNat,f.2.2.1.2.1.toNat,f.2.2.1.2.2.1.toNat,f.2.2.2.1.length]++f.2.2.2.1.flatMap a7p++[body])).length=7+3*f.2.2.2.1.length from by grind[asI,lC]]at l;rw[lN,a37]at l;rw[a0K (n:=(body:Int)) (by omega),a0S (by omega),cT,o,p];simp only[oB,c,a08,r];rw[a0S (by grind),cT,c3Q (show short (hb f body)by unfold short;omega)]
 simp
 rw[a0S (by omega),cT];rfl
def c6z(f:a1p):a1p:=(f.1,f.2.1,f.2.2.1,f.2.2.2.1,[],())
theorem a1B{A:List Int}{k:Nat}(h:(P++(A++R)).length<k):((P++A)++R).length<k:=by rw[aA];exact h
theorem c0E{x:List Int}{ch:Int}(c:ch≤8)(s l:Int)(fm:a0L)(u:List Sub×Unit){N:Nat}(o:N≤16){R:List Int}:∀(rest done:List a0L)(P:List Int),rest.all (a2v ch)=true→done.length+rest.length=N→
  (P++(rest.flatMap a5E++R)).length<1000000000→
  y0m a5y (x,(N:Int),(done.length:Int),(s,l,fm,done,u),ord P (rest.flatMap a5E++R),())=some (x,(s,l,fm,done++rest,u),ord (P++rest.flatMap a5E) R,())
 | [],done,P,_,hl,_=>by
  have e:done.length=N:=by simpa using hl
  rw[e,a0E (b:=(x,(s,l,fm,done,u),ord P R,())) (by simp only[a5y,dge,cF];rfl)]
  simp
 |g::rest,done,P,h,hl,hlen=>by
  simp only[a06,bA]at h;rw[lC]at hl;obtain⟨a1,y,z,A,B,d,i⟩:=a2T.1 h.1;have C:=c5i (m:=1024) ⟨d,i⟩;have j:(g::rest).flatMap a5E++R=a0J g.1.toNat++(a0J g.2.1.toNat++(a0J (a8Y g.2.2.1)++(rest.flatMap a5E++R))):=by simp[a5E]
  rw[j]at hlen⊢;have r:=a2Q (n:=g.1.toNat) (most:=7) (by omega) (by omega) hlen;have f:=a1B hlen;have t:=a2Q (n:=g.2.1.toNat) (most:=7) (by omega) (by omega) f;have k:=a1B f;have v:=a2Q (n:=a8Y g.2.2.1) (most:=2048) (by omega) (by omega) k;have a:=a1B k;have q:wrap .u64 ((done.length:Int)+1)=(((done++[g]).length:Nat):Int):=by rw[a0K (by omega)];simp
  have w:wrap .i64 ((g.1.toNat:Nat):Int)=g.1:=by rw[a0C (by omega)];omega
  have w2:wrap .i64 ((g.2.1.toNat:Nat):Int)=g.2.1:=by rw[a0C (by omega)];omega
  have p:decide ((done.length:Int)<(N:Int))=true:=by simp;omega
  rw[a0F (s':=(x,(N:Int),(((done++[g]).length:Nat):Int),(s,l,fm,done++[g],u),ord (P++a0J g.1.toNat++a0J g.2.1.toNat++a0J (a8Y g.2.2.1)) (rest.flatMap a5E++R),())) (by
   simp only[a5y,p,cT,r,t,v,oB,d2s (g:=g.2.2.1) (by omega),a0S (show done.length+1<2147483648 by omega),w,w2,q,a08])]
  rw[c0E c s l fm u o rest (done++[g]) _ h.2 (by simp;omega) a];simp[a5E]
theorem c6A(p:frP f){body:Nat}(o:body≤1048576)(hl:(a1C f body++R).length<1000000000):
  a7T (a1C f body++R)=some (c6z f,((a1C f body).length:Int),(body:Int),(0:Int)):=by
 have q:=p;obtain⟨⟨r1,r2,c1,c2,d1,d2⟩,l1,l2,s1,s2,m1,m2,m3,m4⟩:=q;have X:=c3R p o

 have d:a1C f body++R=[245,75]++(a0J f.1.toNat++(a0J f.2.1.toNat++(a0J f.2.2.1.1.toNat++(a0J f.2.2.1.2.1.toNat++(a0J f.2.2.1.2.2.1.toNat++(a0J f.2.2.2.1.length++(f.2.2.2.1.flatMap a5E++(a0J body++([b6h (hb f body)]++R))))))))):=by
  simp[a1C,hb]
 generalize hx:a1C f body++R=x at *;have Y:2≤x.length:=by rw[d];simp
 have S:m0h x 0=some 245:=by rw[d];rfl
 have U:m0h x 1=some 75:=by rw[d];rfl
 have k:b25 2 (b02 x.length x)=a0J f.1.toNat++(a0J f.2.1.toNat++(a0J f.2.2.1.1.toNat++(a0J f.2.2.1.2.1.toNat++(a0J f.2.2.1.2.2.1.toNat++(a0J f.2.2.2.1.length++(f.2.2.2.1.flatMap a5E++(a0J body++([b6h (hb f body)]++R)))))))):=by
  rw[a20,d];rfl
 have h:([]++(a0J f.1.toNat++(a0J f.2.1.toNat++(a0J f.2.2.1.1.toNat++(a0J f.2.2.1.2.1.toNat++(a0J f.2.2.1.2.2.1.toNat++(a0J f.2.2.2.1.length++(f.2.2.2.1.flatMap a5E++(a0J body++([b6h (hb f body)]++R))))))))):List Int).length<1000000000:=by
  rw[←k];simp;omega
 have E:=a2Q (n:=f.1.toNat) (most:=4194304) (by omega) (by omega) h;have y:=a1B h;have F:=a2Q (n:=f.2.1.toNat) (most:=4096) (by omega) (by omega) y;have z:=a1B y;have G:=a2Q (n:=f.2.2.1.1.toNat) (most:=1048576) (by omega) (by omega) z;have A:=a1B z;have H:=a2Q (n:=f.2.2.1.2.1.toNat) (most:=8) (by omega) (by omega) A;have B:=a1B A;have I:=a2Q (n:=f.2.2.1.2.2.1.toNat) (most:=24) (by omega) (by omega) B;have C:=a1B B;have K:=a2Q (n:=f.2.2.2.1.length) (most:=16) (by omega) (by omega) C;have D:=a1B C;have a:=c0E (x:=x) m2 f.1 f.2.1 f.2.2.1 ([],()) m3 f.2.2.2.1 [] _ m4 (by simp) D;have V:=a1B D;have i:=a2Q (n:=body) (most:=1048576) (by omega) (by omega) V;simp only[a19,nZ,a05,a09]at E F G H I K i a;have w1:wrap .i64 ((f.1.toNat:Nat):Int)=f.1:=by rw[a0C (by omega)];omega
 have w2:wrap .i64 ((f.2.1.toNat:Nat):Int)=f.2.1:=by rw[a0C (by omega)];omega
 have w3:wrap .i64 ((f.2.2.1.1.toNat:Nat):Int)=f.2.2.1.1:=by rw[a0C (by omega)];omega
 have w4:wrap .i64 ((f.2.2.1.2.1.toNat:Nat):Int)=f.2.2.1.2.1:=by rw[a0C (by omega)];omega
 have w5:wrap .i64 ((f.2.2.1.2.2.1.toNat:Nat):Int)=f.2.2.1.2.2.1:=by rw[a0C (by omega)];omega
 have l:a0J f.1.toNat++a0J f.2.1.toNat++a0J f.2.2.1.1.toNat++a0J f.2.2.1.2.1.toNat++a0J f.2.2.1.2.2.1.toNat++a0J f.2.2.2.1.length++f.2.2.2.1.flatMap a5E++a0J body=(hb f body).drop 2:=by simp[hb]
 rw[l]at i;have u:ord ((hb f body).drop 2) ([b6h (hb f body)]++R)=(x.drop 2,(((hb f body).length-2:Nat):Int),(0:Int),()):=by
  unfold ord;rw[a55,←hx];congr 1;unfold a1C;rw[aA,List.drop_append_of_le_length (by omega)]
 rw[u]at i;have b:wrap .i64 (((x.drop 2).length:Int)-(((hb f body).length-2:Nat):Int))=((1+R.length:Nat):Int):=by
  have:x.length=(hb f body).length+(1+R.length):=by rw[←hx];simp[a1C];omega
  rw[a55,a0C (by omega)];omega
 have m:wrap .i64 ((2:Int)+(((hb f body).length-2:Nat):Int))=(((hb f body).length:Nat):Int):=by rw[a0C (by omega)];omega
 have t:(hb f body).length<x.length:=by rw[←hx];simp[a1C]
 have c:b02 (hb f body).length x=hb f body:=by rw[←hx];simp[a1C]
 have s:m0h x (((hb f body).length:Nat):Int)=some (b6h (hb f body)):=by rw[a0D t];congr 1;subst hx;simp[a1C]
 have Q:decide (((x.length:Nat):Int)<2)=false:=by simp;omega
 have j:decide ((2:Int)≤((x.length:Nat):Int))=true:=by simp;omega
 have L:((245:Int) != 245)=false:=rfl;have M:((75:Int) != 75)=false:=rfl;have e:∀T:List Int,T.length<1000000000→a5K T=some (ord [] T):=fun T d=>by unfold a5K;rw[a0S (by omega)];rfl
 have g:=h;rw[a05]at g;have z0:((0:Int) != 0)=false:=rfl;have N:decide (((1+R.length:Nat):Int)<1)=false:=by simp;omega
 have O:decide ((0:Int)≤(((hb f body).length:Nat):Int))=true:=by simp
 have P:decide ((((hb f body).length:Nat):Int)≤((x.length:Nat):Int))=true:=by simp;omega
 have Z:(b6h (hb f body) != b6h (hb f body))=false:=bne_self_eq_false _;have r:frP (f.1,f.2.1,f.2.2.1,f.2.2.2.1,([]:List Sub),()):=p;have w:wrap .i64 ((((hb f body).length:Nat):Int)+1)=(((a1C f body).length:Nat):Int):=by rw[a0C (by omega)];simp[a1C]
 have v:wrap .i64 ((body:Nat):Int)=(body:Int):=a0C (by omega);unfold a7T;simp only[Q,cF,S,U,oB,L,M,j,cT];rw[k,e _ g];simp only[oB,E,F,G,H,I,K,w1,w2,w3,w4,w5]
 erw[a]
 simp only[oB,i,a3v,z0,cF,a1E,a3V,b,N,m,O,P,a02,cT,tN,c,c3Q (show short (hb f body)by unfold short;omega),s,Z];rw[b5y,decide_eq_true r];simp only[oB,bT,cF,w,v];rfl
@[reducible] def PZ:Type:=Sub×List Nat
def c6B(n:Int)(p:PZ):Prop:=SmallS p.1∧(a2j p.1 n).isSome=true∧(p.1.1≠0∧p.1.1≠1→PartsOk p.1.2.2.2.2.2.2.2.2.2.1 n ((p.1.2.2.2.2.2.2.2.2.1.length:Nat):Int) p.1.2.2.2.2.2.2.2.2.2.2.1 p.2)
def a0M(l:List PZ):List Int:=l.flatMap fun p=>a8l p.1 p.2
theorem c2c(l:List PZ):a1v (a0M l):=b4v fun _=>c8I _ _
theorem c2d(x:a1p)(all:List Sub)(n:all.length≤8):∀(rest done:List Sub)(L:List Int),done++rest=all→(∀s∈rest,SmallS s∧(a2j s x.2.1).isSome=true)→L.length+700000*rest.length<40000000→
  ∃zs:List PZ,zs.map (·.1)=rest∧(∀p∈zs,c6B x.2.1 p)∧(a0M zs).length≤700000*rest.length∧((∀s∈rest,∃c,a5s (s,x.2.1)=some (c:Int))∧some (((a0M zs).length:Nat):Int)=rest.foldr (fun s a=>a.bind fun a=>(a5s (s,x.2.1)).bind fun c=>some (c+a)) (some 0))∧
   y0m a8x (all,(all.length:Int),(done.length:Int),wL L,x,())=some (.inl (wL (L++a0M zs),x,()))
 | [],done,L,hd,_,_=>by
  have e:done=all:=by simpa using hd
  subst e;refine⟨[],rfl,by simp,by simp[a0M],⟨by simp,by simp[a0M]⟩,?_⟩;rw[a0E (b:=Sum.inl (wL L,x,())) (by simp only[a8x,dge,cF])];simp[a0M]
 |s::rest,done,L,hd,h,hL=>by
  obtain⟨j,i⟩:=h s (by simp);rw[lC]at hL;obtain⟨k,l,d,u,m⟩:=c8J j i (L:=L) (by omega);obtain⟨zs,k1,k2,k3,⟨q,r⟩,k6⟩:=c2d x all n rest (done++[s]) (L++a8l s k) (by simpa using hd) (fun t f=>h t (by simp[f])) (by rw[lN];omega);have g:done.length<all.length:=by rw[←hd];simp
  have o:m0h all (done.length:Int)=some s:=by rw[a0D g];subst hd;simp
  refine⟨(s,k)::zs,by simp[k1],fun p hp=>?_,?_,⟨fun t f=>?_,?_⟩,?_⟩;rcases mC.1 hp with rfl|hp;exact⟨j,i,m⟩;exact k2 p hp;simp only[a0M,a60,lN,lC];simp only[a0M]at k3;omega;rcases mC.1 f with rfl|f;exact⟨_,d⟩;exact q t f;simp only[List.foldr_cons,←r,oB,d];simp[a0M];have z0:((0:Int) != 0)=false:=rfl;rw[a0F (s':=(all,(all.length:Int),(((done++[s]).length:Nat):Int),wL (L++a8l s k),x,())) (by
   simp only[a8x,dlt g,cT,o,oB,l,z0,cF,a0B (show done.length<1000000 by omega)]
   simp)]
  rw[k6];simp[a0M]
def a4J(k:Nat):Nat:=(8-k%8)%8
def a2s(L:List Int):List Int:=L++a00 (a4J L.length) 0
theorem c0F:∀(k:Nat)(L:List Int),a4J L.length=k→L.length+k<900000000→y0m a3l (wL L,())=some (wL (L++a00 k 0),())
 |k,L,hk,hL=>by
  have f:=(a5L L).1;have h:a31 (wL L).2.1 8=((L.length%8:Nat):Int):=by rw[f];rfl
  unfold a4J at hk;cases k with
  |zero=>
   have:L.length%8=0:=by omega
   rw[a0E (b:=(wL L,())) (by
    simp only[a3l,h,this];rfl)]
   simp
  |succ k=>
   have hb:(((L.length%8:Nat):Int) != 0)=true:=by simp;omega
   rw[a0F (s':=(wL (L++[0]),())) (by
    simp only[a3l,h,hb,cT,b9E (show L.length<1000000000 by omega),oB])]
   rw[c0F k (L++[0]) (by unfold a4J;rw[lN,a37];omega) (by rw[lN,a37];omega)];rw[aA];rfl
theorem c8L(h:L.length<800000000):a4L (wL L)=some (wL (a2s L)):=by
 unfold a4L;rw[c0F _ L rfl (by unfold a4J;omega)];rfl
def a7V(L:List Int):List Int:=(wL (a2s L)).1
theorem b7t(L:List Int):(a7V L).length=(L.length+7) / 8∧8*(a7V L).length=(a2s L).length:=by
 have:=(a5L (a2s L)).2
 unfold a7V;rw[this];unfold a2s a4J;simp only[lN,List.length_replicate];omega
def a8Z(f:a1p)(L:List Int):List Int:=a1C f (a7V L).length++a7V L
def a3W(f:a1p)(L:List Int):List Int:=a8Z f L++[a4c (a8Z f L) / 256,a4c (a8Z f L)%256]
theorem b8U(h:frP f)(a:L.length≤5600000):(a8Z f L).length≤700700∧(a7V L).length≤700000:=by
 have g:=(b7t L).1;have k:=c3R h (body:=(a7V L).length) (by omega);simp only[a8Z,a1C,lN,a37];omega
theorem c3S(j:a4g f=some true)(d:frP f)(e:f.2.2.2.2.1.length≤8)(m:∀s∈f.2.2.2.2.1,SmallS s∧(a2j s f.2.1).isSome=true):
  ∃zs:List PZ,zs.map (·.1)=f.2.2.2.2.1∧(∀p∈zs,c6B f.2.1 p)∧(a0M zs).length≤5600000∧
   some (((a0M zs).length:Nat):Int)=f.2.2.2.2.1.foldr (fun s a=>a.bind fun a=>(a5s (s,f.2.1)).bind fun c=>some (c+a)) (some 0)∧a5I f=some (a3W f (a0M zs),0):=by
 obtain⟨zs,k1,k2,k3,⟨-,n⟩,k6⟩:=c2d f f.2.2.2.2.1 e f.2.2.2.2.1 [] [] rfl m (by simp;omega);have b:(a0M zs).length≤5600000:=by omega
 refine⟨zs,k1,k2,b,n,?_⟩;rw[a05,a19]at k6;have hp:=b8U d b;have k:wL []=(([]:List Int),(0:Int),()):=rfl;rw[k]at k6;have g:(a2s (a0M zs)).length<1000000000:=by
  have:=(b7t (a0M zs)).2
  omega
 have l:=b8w (a8Z f (a0M zs));have h:a1C f (a7V (a0M zs)).length++a7V (a0M zs)=a8Z f (a0M zs):=rfl;have i:(a1C f (a7V (a0M zs)).length).length+(a7V (a0M zs)).length=(a8Z f (a0M zs)).length:=by rw[←h,lN]
 unfold a5I;simp only[j,oB,bT,cF]
 erw[k6]
 simp only[oB,c8L (show(a0M zs).length<800000000 by omega),c8K g]
 erw[c6y d (show(a7V (a0M zs)).length≤1048576 by omega)]
 simp only[oB,a08];rw[show(wL (a2s (a0M zs))).1=a7V (a0M zs)from rfl];rw[h,a0S (by omega),cT,c0D (show short (a8Z f (a0M zs))by unfold short;omega)];simp only[oB];rw[a0K (by omega),d7V l];simp only[oB];rw[a0S (by simp;omega),cT];rfl
def a8O(f:a1p)(l:List Sub):a1p:=(f.1,f.2.1,f.2.2.1,f.2.2.2.1,l,())
theorem c6C(f:a1p):a8O f f.2.2.2.2.1=f:=rfl
theorem c0G(f g:a1p)(e:Int){N:Nat}(d:N≤8){Z:List Int}:∀(rest:List PZ)(done:List Sub)(P:List Int),done.length+rest.length=N→(∀p∈rest,c6B f.2.1 p)→OkR P (a0M rest++Z)→
  y0m a7U (e,(N:Int),(done.length:Int),g,a8O f done,rdr P (a0M rest++Z),())=some (.inl (e,g,a8O f (done++rest.map (·.1)),rdr (P++a0M rest) Z,()))
 | [],done,P,hl,_,_=>by
  have a:done.length=N:=by simpa using hl
  rw[a,a0E (b:=Sum.inl (e,g,a8O f done,rdr P Z,())) (by simp only[a7U,dge,cF];rfl)];simp[a0M]
 |p::rest,done,P,hl,h,hok=>by
  rw[lC]at hl;obtain⟨n,l,o⟩:=h p (by simp);have c:a0M (p::rest)++Z=a8l p.1 p.2++(a0M rest++Z):=by simp[a0M]
  rw[c]at hok⊢;have j:=d1d n l o hok;have i:decide ((done.length:Int)<(N:Int))=true:=by simp;omega
  have z0:((0:Int) != 0)=false:=rfl;rw[a0F (s':=(e,(N:Int),(((done++[p.1]).length:Nat):Int),g,a8O f (done++[p.1]),rdr (P++a8l p.1 p.2) (a0M rest++Z),())) (by
   have k:b2o (rdr P (a8l p.1 p.2++(a0M rest++Z)),(a8O f done).2.1)=some (p.1,(0:Int),rdr (P++a8l p.1 p.2) (a0M rest++Z)):=j;simp only[a7U,i,cT,k,oB,z0,cF];rw[show(a8O f done).2.2.2.2.1=done from rfl,a0S (show done.length+1<2147483648 by omega),cT,a0B (show done.length<1000000 by omega)];rw[show(((done++[p.1]).length:Nat):Int)=((done.length+1:Nat):Int)from by simp];rfl)]
  rw[c0G f g e d rest (done++[p.1]) _ (by simp;omega) (fun q m=>h q (by simp[m])) hok.shift];simp[a0M]
theorem b8x{L:List Int}(f:a1v L)(a:L.length<500000000)(t:Int×(Int×Unit)):∀(k i:Nat),i+k=L.length→(∀j,i≤j→L.getD j 0=0)→
  y0m a3p ((L.length:Int),(i:Int),((wL L).1,t),())=some (.inl ((L.length:Int),((wL L).1,t),()))
 |0,i,h,_=>by
  obtain rfl:i=L.length:=by omega
  exact a0E (by simp only[a3p,dge,cF])
 |k+1,i,h,h0=>by
  have g:i<L.length:=by omega
  have z:((0:Int)==1)=false:=rfl;have b:wrap .i64 ((i:Int)+1)=((i+1:Nat):Int):=by rw[a0C (by omega)];omega
  rw[a0F (s':=((L.length:Int),((i+1:Nat):Int),((wL L).1,t),())) (by
   simp only[a3p,dlt g,cT];rw[c1q f (by omega) g t,h0 i (a34 _)];simp only[oB,z,cF,b])]
  exact b8x f a t k (i+1) (by omega) (fun j c=>h0 j (by omega))
theorem c8M(L:List Int)(k j:Nat)(h:L.length≤j):(L++a00 k 0).getD j 0=0:=by
 rw[lD,a27 h,List.getElem?_replicate]
 split<;>rfl
theorem c2e(h:a1v L):a1v (a2s L):=h.app fun _ hb=>.inl (a95.1 hb).2
theorem c7E(f:a1v L)(c:L.length≤5600000):∃r,a4R (rdr L (a00 (a4J L.length) 0))=some r∧r.2.2.1=0:=by
 have hp:(a2s L).length=L.length+a4J L.length:=by simp[a2s]
 have a:a4J L.length<8:=by unfold a4J;omega
 have b:(a2s L).length%8=0:=by rw[hp];unfold a4J;omega
 have z0:((0:Int) != 0)=false:=rfl;have g:wrap .i64 (wrap .i64 (a56 (wrap .i64 ((L.length:Int)+7)) 8)*8)=((a2s L).length:Int):=by
  rw[a0C (n:=(L.length:Int)+7) (by omega),show a56 ((L.length:Int)+7) 8=(((L.length+7) / 8:Nat):Int)from by
   rw[show((L.length:Int)+7)=((L.length+7:Nat):Int)from by omega];rfl,a0C (n:=(((L.length+7) / 8:Nat):Int)) (by omega),a0C (by omega),hp]
  unfold a4J;omega
 have h:=b8x (c2e f) (by omega) ((L.length:Int),(0:Int),()) (a4J L.length) L.length (by omega) (fun j k=>c8M L _ j k);refine⟨((wL (a2s L)).1,((a2s L).length:Int),(0:Int),()),?_,rfl⟩;unfold a4R rdr;simp only[z0,cF,g];rw[show L++a00 (a4J L.length) 0=a2s L from rfl,h];rfl
theorem d7W{v:Int}(h:0≤v∧v<65536):bits .u16 .or (A0h .u16 (wrap .u16 (v / 256)) 8) (wrap .u16 (v%256))=v:=by
 rw[b3o,b3o];have e:A0h .u16 (v / 256%65536) 8=((v.toNat / 256*256:Nat):Int):=by
  show wrap .u16 (v / 256%65536*256)=_;rw[b3o];omega
 rw[e];have g:v%256%65536=((v.toNat%256:Nat):Int):=by omega
 rw[g];show wrap .u16 (((a04 16 ((v.toNat / 256*256:Nat):Int) ||| a04 16 ((v.toNat%256:Nat):Int)).toNat:Nat):Int)=_;have f:(a04 16 ((v.toNat / 256*256:Nat):Int)).toNat=v.toNat / 256*256:=by rw[a36];omega
 have k:(a04 16 ((v.toNat%256:Nat):Int)).toNat=v.toNat%256:=by rw[a36];omega
 rw[a57,f,k];have e:v.toNat / 256*256 ||| v.toNat%256=v.toNat / 256*256+v.toNat%256:=by
  have:=a52 (i:=8) (b:=v.toNat%256) (by omega) (v.toNat / 256)
  rw[show 2^8*(v.toNat / 256)=v.toNat / 256*256 from by omega]at this;exact this.symm
 rw[e,b3o];omega
theorem c2H(O:a4g f=some true)(u:frP f)(t:((f.2.2.2.2.1.length:Nat):Int)=f.2.2.1.2.1){zs:List PZ}(B:zs.map (·.1)=f.2.2.2.2.1)(hp:∀p∈zs,c6B f.2.1 p)(z:(a0M zs).length≤5600000)(V:R.length≤200000000):a6k (a3W f (a0M zs)++R)=some (f,((a3W f (a0M zs)).length:Int),(0:Int)):=by
 have P:=b8U u z;have Q:=b8w (a8Z f (a0M zs));have L:f.2.2.2.2.1.length≤8:=by have:=u.1.2.2.2.1;omega
 have N:=b7t (a0M zs);generalize hbd:a7V (a0M zs)=body at *;have c:a3W f (a0M zs)=a8Z f (a0M zs)++[a4c (a8Z f (a0M zs)) / 256,a4c (a8Z f (a0M zs))%256]:=rfl;have g:a8Z f (a0M zs)=a1C f body.length++body:=by unfold a8Z;rw[hbd]
 generalize hpb:a8Z f (a0M zs)=pre at *;have o:a3W f (a0M zs)++R=a1C f body.length++(body++([a4c pre / 256,a4c pre%256]++R)):=by rw[c,g];simp
 have m:(a3W f (a0M zs)).length=pre.length+2:=by rw[c];simp
 have A:pre.length=(a1C f body.length).length+body.length:=by rw[g];simp
 have y:(a3W f (a0M zs)++R).length=pre.length+2+R.length:=by rw[lN,m]
 have k:=c6A u (body:=body.length) (by omega) (R:=body++([a4c pre / 256,a4c pre%256]++R)) (by rw[←o,y];omega);rw[←o]at k;generalize hx:a3W f (a0M zs)++R=x at *;have z0:((0:Int) != 0)=false:=rfl;have T:wrap .i64 (((a1C f body.length).length:Int)+(body.length:Int))=(pre.length:Int):=by rw[a0C (by omega)];omega
 have w2:wrap .i64 ((pre.length:Int)+2)=((pre.length+2:Nat):Int):=by rw[a0C (by omega)];omega
 have U:wrap .i64 ((pre.length:Int)+1)=((pre.length+1:Nat):Int):=by rw[a0C (by omega)];omega
 have C:decide ((x.length:Int)<((pre.length+2:Nat):Int))=false:=by simp;omega
 have D:decide ((0:Int)≤(pre.length:Int))=true:=by simp
 have E:decide ((pre.length:Int)≤(x.length:Int))=true:=by simp;omega
 have F:decide ((0:Int)≤((a1C f body.length).length:Int))=true:=by simp
 have G:decide (((a1C f body.length).length:Int)≤(pre.length:Int))=true:=by simp;omega
 have j:x=pre++([a4c pre / 256,a4c pre%256]++R):=by rw[←hx,c];simp
 have i:b02 pre.length x=pre:=by rw[j];simp
 have b:b25 (a1C f body.length).length pre=body:=by rw[g];simp
 have I:m0h x (pre.length:Int)=some (a4c pre / 256):=by rw[a0D (by omega)];congr 1;subst j;simp
 have K:m0h x ((pre.length+1:Nat):Int)=some (a4c pre%256):=by rw[a0D (by omega)];congr 1;subst j;simp
 have S:(a4c pre != bits .u16 .or (A0h .u16 (wrap .u16 (a4c pre / 256)) 8) (wrap .u16 (a4c pre%256)))=false:=by rw[d7W Q];exact bne_self_eq_false _
 have e:(a2s (a0M zs)).length<1000000000:=by omega
 have a:=d2q e;rw[show(wL (a2s (a0M zs))).1=body from hbd]at a;have v:OkR [] (a0M zs++a00 (a4J (a0M zs).length) 0):=⟨by rw[a05];exact c2e (c2c zs),by
  rw[a05];show(a2s (a0M zs)).length<_;omega⟩
 have h:=c0G f ((0:Int),(0:Int),((0:Int),(0:Int),(0:Int),()),([]:List a0L),([]:List Sub),()) (pre.length:Int) L zs [] [] (by rw[←B];simp) hp v;simp only[a05,a19,B,c6C]at h;have w:rdr [] (a2s (a0M zs))=rdr [] (a0M zs++a00 (a4J (a0M zs).length) 0):=rfl;obtain⟨r,q,s⟩:=c7E (c2c zs) z;have d:a2B (rdr (a0M zs) (a00 (a4J (a0M zs).length) 0))=some ((a4J (a0M zs).length:Int),rdr (a0M zs) (a00 (a4J (a0M zs).length) 0)):=by
  unfold a2B rdr
  have:(wL (a0M zs++a00 (a4J (a0M zs).length) 0)).1=body:=hbd
  simp only[this];have hp:(a2s (a0M zs)).length=(a0M zs).length+a4J (a0M zs).length:=by simp[a2s]
  rw[a0C (n:=8*(body.length:Int)) (by omega),a0C (by omega)];congr 2;omega
 have H:decide (((a4J (a0M zs).length:Nat):Int)≥8)=false:=by unfold a4J;simp;omega
 have M:a8O f []=c6z f:=rfl;have l:f.2.2.1.2.1=((f.2.2.2.2.1.length:Nat):Int):=t.symm;unfold a6k;rw[k];simp only[oB,z0,cF,T,w2,C,D,E,F,a02,cT,tN,i,c0D (show short pre by unfold short;omega),I,U,K,S,G,b,a,w];rw[show(c6z f).2.2.1.2.1=((f.2.2.2.2.1.length:Nat):Int)from l]
 erw[h]
 simp only[oB,d,H,cF,q,a0N,s,z0,O,bT,w2,m]
theorem b3W(x:Int):a9d x=some (a0A x):=by
 unfold a9d a0A
 by_cases h:-1073741824≤x<;>simp[h]
def a2E(c:List (List Int)):Prop:=1≤c.length∧c.length≤8∧(c.headD []).length≤4096∧c.all (fun r=>decide (r.length=(c.headD []).length)&&r.all a0A)=true
instance (c:List (List Int)):Decidable (a2E c):=by unfold a2E;infer_instance
theorem c2f{l:List α}{d:α}(h:0<l.length):l[0]=l.headD d:=by
 cases l with
 |nil=>simp at h
 |cons a l=>rfl
theorem c1u(c:List (List Int)):a7u c=some (decide (a2E c)):=by
 unfold a7u
 by_cases h1:((c.length:Nat):Int)<1
 have:¬ a2E c:=fun h=>by have:=h.1;omega
 simp[h1,this]
 by_cases h2:((c.length:Nat):Int) > 8
 have:¬ a2E c:=fun h=>by have:=h.2.1;omega
 simp[h1,h2,this];have b:0<c.length:=by omega
 have a:m0h c 0=some (c.headD []):=by rw[show(0:Int)=((0:Nat):Int)from rfl,a0D b,c2f (d:=[]) b]
 have l:decide (((c.length:Nat):Int)<1)=false:=by simpa using h1
 have m:decide (((c.length:Nat):Int) > 8)=false:=by simpa using h2
 simp only[l,m,cF,a,oB]
 by_cases h3:(((c.headD []).length:Nat):Int) > 4096
 rw[decide_eq_true h3,decide_eq_false (show ¬ a2E c from fun h=>by have:=h.2.2.1;omega)];rfl;have n:decide ((((c.headD []).length:Nat):Int) > 4096)=false:=by simpa using h3
 simp only[n,cF];have g:∀(i:Nat)(r:List Int),short r→y0m a4o (c,c,(c.length:Int),(i:Int),r,(r.length:Int),(0:Int),())=some (bif r.all a0A then Sum.inl (c,c,(c.length:Int),(i:Int),())else Sum.inr (false,())):=fun i r s=>by
  have:=a1Q (f:=a4o) r (fun j=>(c,c,(c.length:Int),(i:Int),r,(r.length:Int),(j:Int),())) a0A (bt:=Sum.inl (c,c,(c.length:Int),(i:Int),())) (bf:=Sum.inr (false,()))
   (fun j h hp=>by simp only[a4o,dlt h,cT,a0D h,oB,b3W,hp,bT,cF,a0B (a32 h s)])
   (fun j h hp=>by simp only[a4o,dlt h,cT,a0D h,oB,b3W,hp,a46])
   (by simp only[a4o,dge,cF])
  exact this
 have k:=a1Q (f:=a4p) c (fun i=>(c,c,(c.length:Int),(i:Int),())) (fun r=>decide (r.length=(c.headD []).length)&&r.all a0A) (bt:=Sum.inl ()) (bf:=Sum.inr (false,()))
  (fun i h hp=>by
   simp only[bA,dT]at hp;have e:((((c[i]).length:Nat):Int) != (((c.headD []).length:Nat):Int))=false:=by rw[hp.1];exact bne_self_eq_false _
   have hi:=g i c[i] (by unfold short;omega);rw[hp.2,cT]at hi;simp only[a4p,dlt h,cT,a0D h,oB,a,e,cF,hi,a0B (show i<1000000 by omega)])
  (fun i h hp=>by
   by_cases hl:(c[i]).length=(c.headD []).length
   have e:((((c[i]).length:Nat):Int) != (((c.headD []).length:Nat):Int))=false:=by rw[hl];exact bne_self_eq_false _
   have hi:=g i c[i] (by unfold short;omega);rw[decide_eq_true hl,a43]at hp;rw[hp,cF]at hi;simp only[a4p,dlt h,cT,a0D h,oB,a,e,cF,hi];have e:((((c[i]).length:Nat):Int) != (((c.headD []).length:Nat):Int))=true:=by simp only[bne_iff_ne,ne_eq,Int.natCast_inj];exact hl
   simp only[a4p,dlt h,cT,a0D h,oB,a,e])
  (by simp only[a4p,dge,cF])
 simp only[nZ]at k;rw[k];have o:1≤c.length:=by omega
 have p:c.length≤8:=by omega
 have q:(c.headD []).length≤4096:=by omega
 by_cases hA:c.all (fun r=>decide (r.length=(c.headD []).length)&&r.all a0A)=true
 rw[hA,decide_eq_true (show a2E c from⟨o,p,q,hA⟩)];rfl;rw[Bool.eq_false_iff.2 hA,decide_eq_false (show ¬ a2E c from fun h=>hA h.2.2.2)];rfl
def a3q(c:List (List Int))(n:Nat):Prop:=∀r∈c,r.length=n∧r.all a0A=true
theorem c5k(h:a2E c):a3q c (c.headD []).length:=fun r g=>by
 have:=lA.1 h.2.2.2 r g
 simpa using this
theorem b8V{c:List (List Int)}{n:Nat}(h:a3q c n)(g:1≤c.length)(f:c.length≤8)(b:n≤4096):a2E c:=by
 have k:(c.headD []).length=n:=by
  rw[←c2f (d:=[]) (show 0<c.length by omega)];exact(h _ (a07 _)).1
 refine⟨g,f,by omega,lA.2 fun r a=>?_⟩
 have:=h r a
 rw[decide_eq_true (show r.length=(c.headD []).length from by rw[k];exact this.1),this.2];rfl
theorem c2g{n:Nat}(h:a3q c n)(l:n≤5000)(j:c.length≤100):a7a c=some c:=by
 have:=a1P (f:=a6C) (β:=List (List Int)×Unit) c (fun i (a:List (List Int))=>(c,(c.length:Int),(i:Int),a,())) (fun a x=>.inl (a++[x])) (fun i a=>a.length=i) (fun a=>(a,()))
  (fun i hi a k=>⟨fun e g=>by
   simp only[Sum.inl.injEq]at g;subst g;have m:=(h _ (a07 hi)).1;have d:∀y:List Int,List.set ([([]:List Int)]:List (List Int)) 0 y=[y]:=fun _=>rfl;refine⟨?_,by simp[k]⟩;simp only[a6C,dlt hi,cT,a0D hi,oB,a8h (show short c[i]by unfold short;omega),d];rw[a0S (by simp;omega),cT,a0B (show i<1000000 by omega)];rfl,fun b hb=>by cases hb⟩)
  (fun a k=>by simp only[a6C,dge,cF]) (a:=[]) rfl
 rw[b3V (fun x:List Int=>[x])]at this;unfold a7a;simp only[nZ]at this;rw[this];simp[a8V]
def a6S(sign g:Int)(x y:Int):Int:=y+sign*(g*x / 256)
def a9H(sign g:Int)(xs ys:List Int):List Int:=List.zipWith (a6S sign g) xs ys
theorem c8N(sign g:Int){xs ys:List Int}(h:xs.length=ys.length):(a9H sign g xs ys).length=ys.length:=by simp[a9H,h]
theorem c8O{y:Int}(b:sign=1∨sign=-1)(c:-1024≤g∧g≤1024)(k:a0A x=true)(a:a0A y=true):
  wrap .i64 (y+wrap .i64 (sign*A0i .i64 (wrap .i64 (g*x)) 8))=a6S sign g x y:=by
 have k:=a1D.1 k;have a:=a1D.1 a;have f:-1099511627776≤g*x∧g*x≤1099511627776:=by
  have f:g.natAbs≤1024:=by omega
  have h:x.natAbs≤1073741824:=by omega
  have:=a86 f h
  rw[←Int.natAbs_mul]at this;omega
 rw[a0C (n:=g*x) (by omega)];have h:A0i .i64 (g*x) 8=g*x / 256:=by
  unfold A0i;show(g*x).fdiv (2^8)=_;rw[a39 _ (by omega)];rfl
 rw[h];unfold a6S;rcases b with rfl|rfl;rw[a0C (n:=1*(g*x / 256)) (by omega),a0C (by omega)];rw[a0C (n:=-1*(g*x / 256)) (by omega),a0C (by omega)]
theorem a5N(c:List α)(h:a≠b)(y d:α):(c.set b y).getD a d=c.getD a d:=by
 rw[lD,lD,a67 (Ne.symm h)]
theorem a7A(c:List α)(h:b<c.length)(y d:α):(c.set b y).getD b d=y:=by
 rw[lD,a61 h];rfl
theorem d0B(p:List α)(x:α)(s:List α)(d:α):(p++x::s).getD p.length d=x:=by
 rw[lD];simp
theorem d1e(p:List α)(x y:α)(s:List α):(p++x::s).set p.length y=p++y::s:=by simp
theorem c0H{c:List (List Int)}{s:a0L}{sign:Int}(a:sign=1∨sign=-1)(l:-1024≤s.2.2.1∧s.2.2.1≤1024)(a0:0≤s.1)(j:0≤s.2.1)(g:s.1.toNat≠s.2.1.toNat)(hb:s.2.1.toNat<c.length)(f:s.2.1<(c.length:Int))
  {xs:List Int}(b:c.getD s.1.toNat []=xs)(B:xs.length≤5000):∀(sx suf px pre:List Int),px++sx=xs→px.length=pre.length→sx.length=suf.length→sx.all a0A=true→suf.all a0A=true→
  if(a9H sign s.2.2.1 sx suf).all a0A=true then
   y0m a3z (sign,(xs.length:Int),(pre.length:Int),c.set s.2.1.toNat (pre++suf),s,((s.1.toNat:Nat):Int),())=some (.inl (c.set s.2.1.toNat (pre++a9H sign s.2.2.1 sx suf),()))
  else ∃c',y0m a3z (sign,(xs.length:Int),(pre.length:Int),c.set s.2.1.toNat (pre++suf),s,((s.1.toNat:Nat):Int),())=some (.inr (false,c',()))
 | [],suf,px,pre,hx,hp,hl,_,_=>by
  have e:suf=[]:=a48.1 hl.symm;subst e;have t:pre.length=xs.length:=by rw[←hx,←hp];simp
  rw[if_pos (by rfl),t];exact a0E (by simp only[a3z,dge,cF];rfl)
 |x::sx,[],px,pre,_,_,hl,_,_=>by simp at hl
 |x::sx,y::suf,px,pre,hx,hp,hl,hwx,hwy=>by
  simp only[a06,bA]at hwx hwy;have A:pre.length<xs.length:=by rw[←hx,←hp];simp
  have u:(c.set s.2.1.toNat (pre++y::suf)).getD (a25 ((s.1.toNat:Nat):Int)) []=xs:=by rw[tN,a5N _ g];exact b
  have v:(c.set s.2.1.toNat (pre++y::suf)).getD s.2.1.toNat []=pre++y::suf:=a7A _ hb _ _;have w:b24 xs (a25 (pre.length:Int)) 0=x:=by rw[tN,←hp,←hx];exact d0B _ _ _ _
  have z:b24 (pre++y::suf) (a25 (pre.length:Int)) 0=y:=by rw[tN];exact d0B _ _ _ _
  have n:decide ((0:Int)≤(pre.length:Int))=true:=by simp
  have o:decide ((pre.length:Int)<(xs.length:Int))=true:=by simp;omega
  have p:decide ((0:Int)≤s.2.1)=true:=by simpa using j
  have q:decide (s.2.1<(((c.set s.2.1.toNat (pre++y::suf)).length:Nat):Int))=true:=by rw[b20];simpa using f
  have r:decide ((pre.length:Int)<(((pre++y::suf).length:Nat):Int))=true:=by simp;omega
  have hv:=c8O a l hwx.1 hwy.1;have C:wrap .i64 ((pre.length:Int)+1)=((pre.length+1:Nat):Int):=a0B (by omega);have m:a9H sign s.2.2.1 (x::sx) (y::suf)=a6S sign s.2.2.1 x y::a9H sign s.2.2.1 sx suf:=rfl;have k:List.set (c.set s.2.1.toNat (pre++y::suf)) s.2.1.toNat (List.set (pre++y::suf) (a25 (pre.length:Int)) (a6S sign s.2.2.1 x y))=c.set s.2.1.toNat ((pre++[a6S sign s.2.2.1 x y])++suf):=by
   rw[tN,List.set_set,d1e];simp
  have h:a3z (sign,(xs.length:Int),(pre.length:Int),c.set s.2.1.toNat (pre++y::suf),s,((s.1.toNat:Nat):Int),()) =
    bif !(a0A (a6S sign s.2.2.1 x y))then some (.inr (Sum.inr (false,c.set s.2.1.toNat (pre++y::suf),())))
    else some (.inl (sign,(xs.length:Int),((pre.length+1:Nat):Int),c.set s.2.1.toNat ((pre++[a6S sign s.2.2.1 x y])++suf),s,((s.1.toNat:Nat):Int),())):=by
   simp only[a3z,o,cT,u,v,n,a02,p,q,r,w,z,b3W,hv,oB,C];cases hwv:a0A (a6S sign s.2.2.1 x y);rfl;simp only[bT,cF];rw[k,tN]
  cases hwv:a0A (a6S sign s.2.2.1 x y)with
  |false=>
   rw[m,if_neg (by simp[hwv])];rw[hwv]at h;exact⟨_,a0E h⟩
  |true=>
   rw[hwv]at h;have d:=c0H a l a0 j g hb f b B sx suf (px++[x]) (pre++[a6S sign s.2.2.1 x y]) (by simpa using hx) (by simp[hp]) (by simpa using hl) hwx.2 hwy.2;rw[a0F h,m];simp only[a06,hwv,a43];rw[show((pre++[a6S sign s.2.2.1 x y]).length)=pre.length+1 from by simp]at d;split;rename_i i;rw[if_pos i]at d;rw[d]
   simp
   rename_i i;rw[if_neg i]at d;exact d
def a3F(sign:Int)(s:a0L)(c:List (List Int)):Option (List (List Int)):=
 let r:=a9H sign s.2.2.1 (c.getD s.1.toNat []) (c.getD s.2.1.toNat [])
 if r.all a0A=true then some (c.set s.2.1.toNat r)else none
theorem a6y{n:Nat}(h:a3q c n)(hi:i<c.length):(c.getD i []).length=n∧(c.getD i []).all a0A=true:=by
 rw[lD,lG hi];exact h _ (a07 hi)
theorem c3T{n:Nat}(a:a3q c n)(w:n≤5000){s:a0L}(q:a2v (c.length:Int) s=true)(k:sign=1∨sign=-1):
  ∃b f,a7Y (c,s,sign)=some (b,f)∧match a3F sign s c with|some r=>b=true∧f=r|none=>b=false:=by
 obtain⟨a1,d,e,j,v,l,m⟩:=a2T.1 q;have t:=a6y a (i:=s.1.toNat) (by omega);have u:=a6y a (i:=s.2.1.toNat) (by omega);have hb:s.2.1.toNat<c.length:=by omega
 have g:c.set s.2.1.toNat (c.getD s.2.1.toNat [])=c:=by
  apply b03;intro i
  by_cases hi:s.2.1.toNat=i
  subst hi;rw[a61 hb,lD,lG hb];rfl;rw[a67 hi]
 have:=c0H k ⟨l,m⟩ a1 e (by omega) hb j (rfl:c.getD s.1.toNat []=_) (by omega) (c.getD s.1.toNat []) (c.getD s.2.1.toNat []) [] [] rfl rfl (by omega) t.2 u.2
 rw[a05,g]at this;simp only[a19,nZ,a05,a09]at this;have o:decide ((0:Int)≤s.1)=true:=by simpa using a1
 have p:decide (s.1<(c.length:Int))=true:=by simpa using d
 unfold a7Y a3F;simp only[o,p,a02,cT]
 by_cases hA:(a9H sign s.2.2.1 (c.getD s.1.toNat []) (c.getD s.2.1.toNat [])).all a0A=true
 rw[if_pos hA]at this⊢;refine⟨true,_,?_,rfl,rfl⟩
 erw[this]
 rfl;rw[if_neg hA]at this⊢;obtain⟨f,h⟩:=this;refine⟨false,f,?_,rfl⟩
 erw[h]
 rfl
theorem b3i{c':List (List Int)}{n:Nat}(g:a3q c n){s:a0L}(a:a2v (c.length:Int) s=true)(h:a3F sign s c=some c'):a3q c' n∧c'.length=c.length:=by
 obtain⟨a1,d,e,j,l,m,o⟩:=a2T.1 a;have p:=a6y g (i:=s.1.toNat) (by omega);have b:=a6y g (i:=s.2.1.toNat) (by omega);unfold a3F at h;simp only at h
 split at h
 rename_i k;cases h;refine⟨fun r f=>?_,by simp⟩;rcases List.mem_or_eq_of_mem_set f with f|rfl;exact g r f;exact⟨by rw[c8N _ _ (by omega)];exact b.1,k⟩;cases h
theorem c3U(g:Int):∀xs ys:List Int,xs.length=ys.length→a9H (-1) g xs (a9H 1 g xs ys)=ys
 | [],[],_=>rfl
 |x::xs,y::ys,h=>by
  have f:=c3U g xs ys (by simpa using h);show a6S (-1) g x (a6S 1 g x y)::a9H (-1) g xs (a9H 1 g xs ys)=_;rw[f];unfold a6S;congr 1;omega
 | [],_::_,h=>by simp at h
 |_::_,[],h=>by simp at h
theorem c7F{c':List (List Int)}{n:Nat}(g:a3q c n){s:a0L}(f:a2v (c.length:Int) s=true)(h:a3F 1 s c=some c'):a3F (-1) s c'=some c:=by
 obtain⟨a1,a,b,d,e,j,l⟩:=a2T.1 f;have m:=a6y g (i:=s.1.toNat) (by omega);have k:=a6y g (i:=s.2.1.toNat) (by omega);have hb:s.2.1.toNat<c.length:=by omega
 unfold a3F at h;simp only at h
 split at h
 cases h;unfold a3F;simp only;rw[a5N _ (show s.1.toNat≠s.2.1.toNat by omega),a7A _ hb,c3U _ _ _ (by omega),if_pos k.2,List.set_set];congr 1;apply b03;intro i
 by_cases hi:s.2.1.toNat=i
 subst hi;rw[a61 hb,lD,lG hb];rfl;rw[a67 hi];cases h
def doO:List a0L→List (List Int)→Option (List (List Int))
 | [],c=>some c
 |s::l,c=>(a3F 1 s c).bind (doO l)
def b1e:List a0L→List (List Int)→Option (List (List Int))
 | [],c=>some c
 |s::l,c=>(b1e l c).bind (a3F (-1) s)
theorem b3p{n:Nat}{N:Nat}:∀(l:List a0L){c c':List (List Int)},a3q c n→c.length=N→l.all (a2v (N:Int))=true→doO l c=some c'→a3q c' n∧c'.length=N
 | [],c,c',hc,hl,_,h=>by cases h;exact⟨hc,hl⟩
 |s::l,c,c',hc,hl,hs,h=>by
  simp only[a06,bA]at hs;simp only[doO,a33]at h;obtain⟨d,g,f⟩:=h;obtain⟨k,a⟩:=b3i hc (by rw[hl];exact hs.1) g;exact b3p l k (by omega) hs.2 f
theorem c5l{n:Nat}{N:Nat}:∀(l:List a0L){c c':List (List Int)},a3q c n→c.length=N→l.all (a2v (N:Int))=true→doO l c=some c'→b1e l c'=some c
 | [],c,c',_,_,_,h=>by cases h;rfl
 |s::l,c,c',hc,hl,hs,h=>by
  simp only[a06,bA]at hs;simp only[doO,a33]at h;obtain⟨d,g,f⟩:=h;obtain⟨k,a⟩:=b3i hc (by rw[hl];exact hs.1) g;simp only[b1e];rw[c5l l k (by omega) hs.2 f];exact c7F hc (by rw[hl];exact hs.1) g
end Go.Ab
