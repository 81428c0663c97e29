/- Part of the proof: QI. Conditions: as each statement tells. -/
import Derived.KernelRfl
import Derived.Test.YtbadoabamddpfaaGreatDoorME
noncomputable section
set_option linter.unusedSimpArgs false
set_option linter.unusedVariables false
open BitVec renaming ofInt→a02,ofInt_natCast→a26,toNat_ofNat→a32,toNat_ofInt→a42,toNat_or→a55,toNat_and→a62
open Bool renaming and_self→a04,not_false→a30,not_eq_true'→a34,true_and→a51,and_eq_true_iff→a71,or_eq_false_iff→a73,eq_false_iff→a86,eq_iff_iff→a95
open Int renaming eq_ofNat_of_zero_le→a01,natCast_dvd_natCast→a21,cast_ofNat_Int→a25,tmod→a28,toNat→a29,tmod_eq_emod_of_nonneg→a45,tdiv→a46,dvd_mul_of_dvd_left→a48,mul_nonneg→a49,tdiv_eq_ediv_of_nonneg→a57,mul_fdiv_cancel_left→a61,dvd_add_left→a64,toNat_of_nonneg→a74,natCast_nonneg→a76,dvd_zero→a81,emod_eq_of_lt→a83,fdiv→a97,natCast_add→a99
open List renaming replicate→a00,drop_eq_getElem_cons→a03,getElem_mem→a05,all_cons→a07,nil_append→a08,append_eq→a09,length_nil→a19,take_length→a20,drop_zero→a31,mem_of_mem_take→a35,mem_of_mem_drop→a36,take_succ_eq_append_getElem→a37,length→a39,length_eq_zero_iff→a40,append_nil→a47,eq_nil_or_concat→a50,length_drop→a52,getElem?_append_right→a58,sum_cons→a59,flatMap_cons→a60,cons_append→a63,take_of_length_le→a66,length_singleton→a68,singleton_append→a69,replicate_succ'→a72,take→a85,getElem_zip→a87,length_take→a90,drop_length→a91,not_mem_nil→a93,mem_flatMap→a94,foldl_cons→a98,getD→b00,drop→b01
open Nat renaming pow_le_pow_right→a06,two_pow_pos→a18,le_refl→a23,mod_eq_of_lt→a24,mul_le_mul_right→a27,lt_trans→a33,mod_lt→a38,lt_of_le_of_lt→a41,div_le_self→a43,two_pow_add_eq_or_of_lt→a44,and_two_pow_sub_one_eq_mod→a53,pow_dvd_pow→a54,testBit_two_pow_mul_add→a56,div_eq_of_lt→a65,min_eq_left→a67,mul_le_mul→a70,one_le_two_pow→a75,mul_comm→a77,le_of_lt→a78,add_zero→a79,pow_succ→a80,or_lt_two_pow→a82,add_mod_right→a84,mul_add→a88,mul_one→a89,lt_of_not_le→a92,div_add_mod→a96
open Option renaming bind_eq_some_iff→a16,map_eq_some_iff→a22
namespace Go.Ab
variable {L P R d ks l part r t wm:List Int}{a b i m o v w:Nat}{c:List (List Int)}{g k lag n sign warm x:Int}{p:Prt}{zn:List Nat}{α:Type}
open IntKind(wrap)
@[reducible] def Sub:Type:=Int×(Int×(Int×(Int×(Int×((List Int)×((List Int)×((List Stg)×((List Int)×(Prt×((List Int)×Unit))))))))))
variable {s:Sub}
structure SmallS (s:Sub):Prop where
 coefs:s.2.2.2.2.2.1.length≤40
 taps:s.2.2.2.2.2.2.1.length=3
 stages:s.2.2.2.2.2.2.2.1.length≤6
 warm:s.2.2.2.2.2.2.2.2.1.length≤5000
 rest:s.2.2.2.2.2.2.2.2.2.2.1.length≤5000
 ks:s.2.2.2.2.2.2.2.2.2.1.2.1.length≤300
theorem b3E(x y:List Int):eqT (.arr 3 (.int .i64)) x y=decide (x=y):=by
 show((List.zipWith (fun(a b:Int)=>a==b) x y).all id&&x.length==y.length)=_
 induction x generalizing y with
 |nil=>cases y<;>simp
 |cons a x ih=>
  cases y with
  |nil=>simp
  |cons b y=>
   grind[List.zipWith_cons_cons]
theorem b5C{l:List Int}(h:short l):a3R l=some l:=a8d h
theorem b8i{l:List Stg}(h:short l):a1n l=some l:=by
 have g:lim (0+l.length)=true:=a0S (by unfold short at h;omega);simp_all[a1n,x0a]
def a3V(k:Int)(s:Sub)(n:Int):Prop:=
 k=0∨k=1∨(k=2∧0≤s.2.2.1∧s.2.2.1≤4∧s.2.2.1≤n)∨(k=3∧a9D s.2.2.2.2.2.1 s.2.2.2.1=true∧(s.2.2.2.2.2.1.length:Int)≤n)∨
  (k=4∧a9D s.2.2.2.2.2.1 s.2.2.2.1=true∧(s.2.2.2.2.2.1.length:Int)≤n∧b1T s.2.2.2.2.1 s.2.2.2.2.2.2.1=true)∨
  (k=5∧0<s.2.2.2.2.2.2.2.1.length∧a9j s.2.2.2.2.2.2.2.1=true)
open Classical in
def b3F (k:Int) (s:Sub) (n:Int):Bool:=decide (a3V k s n)
theorem b5e{s:Sub}(h:SmallS s)(k n:Int):a7Q (k,s,n)=some (b3F k s n):=by
 have a:short s.2.2.2.2.2.1:=by have:=h.coefs;unfold short;omega
 have b:short s.2.2.2.2.2.2.2.1:=by have:=h.stages;unfold short;omega
 unfold a7Q b3F a3V
 by_cases k0:k=0
 simp_all
 by_cases k1:k=1
 simp_all;have g:(k==0)=false:=by grind
 have f:(k==1)=false:=by grind
 simp only[g,f,cF,oB]
 by_cases k2:k=2
 subst k2
 grind
 by_cases k3:k=3
 subst k3
 grind[a9w]
 by_cases k4:k=4
 subst k4;cases hl:a9D s.2.2.2.2.2.1 s.2.2.2.1<;>by_cases h2:(s.2.2.2.2.2.1.length:Int)≤n<;>simp[a9w a,b4F h.taps,hl,h2]
 by_cases k5:k=5
 ·subst k5
  by_cases h1:0<s.2.2.2.2.2.2.2.1.length
  all_goals simp_all[b3y]
 grind
def a2h(s:Sub)(n:Int):Int:=if s.1=0 then 1 else if s.1=1 then n else if s.1=2 then s.2.2.1 else if s.1=3∨s.1=4 then(s.2.2.2.2.2.1.length:Int)else 0
theorem b2i(s:Sub)(n:Int):a4z (s,n)=some (a2h s n):=by
 grind[a4z,a2h]
def b5f(s:Sub):Prop:=
 (s.1≠2→s.2.2.1=0)∧(s.1≠3∧s.1≠4→s.2.2.2.1=0)∧(s.1≠4→s.2.2.2.2.1=0)∧(s.1≠4→s.2.2.2.2.2.2.1=[0,0,0])∧(s.1≠3∧s.1≠4→s.2.2.2.2.2.1=[])∧(s.1≠5→s.2.2.2.2.2.2.2.1=[])
open Classical in
def b5g (s:Sub):Bool:=decide (b5f s)
theorem b1m{c x:Bool}:(bif c then some x else some false)=some (c&&x):=by grind
theorem d1W(l:List α):(((l.length:Nat):Int)==0)=decide (l=[]):=by
 cases l with
 |nil=>rfl
 |cons a l=>rfl
theorem c1i(x:Int):(x==0)=decide (x=0):=rfl
theorem c3e{s:Sub}(h:SmallS s):b1z s=some (b5g s):=by
 have e:short s.2.2.2.2.2.1:=by have:=h.coefs;unfold short;omega
 have g:short s.2.2.2.2.2.2.2.1:=by have:=h.stages;unfold short;omega
 obtain⟨k,w,o,sh,lag,c,t,st,j,p,r,u⟩:=s;simp only at e g;unfold b1z a6a b5g b5f;have i:(a00 3 (0:Int))=[0,0,0]:=rfl
 by_cases k2:k=2
 simp_all[b3E,b1m,c1i]
 by_cases k4:k=4
 simp_all[b3E,b1m,c1i,b5C]
 by_cases k3:k=3
 simp_all[b3E,b1m,c1i,b5C]
 by_cases k5:k=5
 simp_all[b3E,b1m,c1i,b8i];have f:(k==2)=false:=by grind
 have a:(k==3)=false:=by grind
 have b:(k==4)=false:=by grind
 have d:(k==5)=false:=by grind
 simp[f,a,b,d,k2,k3,k4,k5,b3E,i,b1m,d1W,c1i]
theorem a6t(k:Int):a5Y k=some (decide (k≠0∧k≠1)):=by
 unfold a5Y
 by_cases h0:k=0
 simp_all
 ·by_cases h1:k=1
  all_goals grind
def a1s(s:Sub)(n:Int):Prop:=
 1≤n∧n≤4096∧a3V s.1 s n∧b5f s∧0≤s.2.1∧s.2.1≤30∧(s.1=0→s.2.1=0)∧(s.2.2.2.2.2.2.2.2.1.length:Int)=a2h s n∧s.2.2.2.2.2.2.2.2.1.all a0A=true∧s.2.2.2.2.2.2.2.2.2.2.1.all a0A=true∧
  (s.1=0∨s.1=1→s.2.2.2.2.2.2.2.2.2.2.1=[]∧s.2.2.2.2.2.2.2.2.2.1.1=0∧s.2.2.2.2.2.2.2.2.2.1.2.1=[])∧
  (s.1≠0∧s.1≠1→(s.2.2.2.2.2.2.2.2.2.2.1.length:Int)=n-a2h s n∧a5z s.2.2.2.2.2.2.2.2.2.1 n (a2h s n)=true)
theorem c4v(h:SmallS s)(a:1≤n)(b:n≤4096)(f:a3V s.1 s n):0≤a2h s n∧a2h s n≤4096:=by
 have c:=h.coefs;unfold a2h;rcases f with k|k|⟨k,g⟩|⟨k,g⟩|⟨k,g⟩|⟨k,g⟩<;>simp[k]<;>omega
open Classical in
theorem c6Q {s:Sub} (h:SmallS s) (n:Int):a9T (s,n)=some (decide (a1s s n)):=by
 have hw:short s.2.2.2.2.2.2.2.2.1:=by have:=h.warm;unfold short;omega
 have hr:short s.2.2.2.2.2.2.2.2.2.2.1:=by have:=h.rest;unfold short;omega
 have hk:short s.2.2.2.2.2.2.2.2.2.1.2.1:=by have:=h.ks;unfold short;omega
 unfold a9T
 by_cases h1:1≤n
 rotate_left
 ·have e1:decide (n<1)=true:=by simp_all
  have:¬ a1s s n:=fun hp=>h1 hp.1
  simp_all
 have e1:decide (n<1)=false:=by simp_all
 by_cases h2:n≤4096
 rotate_left
 ·have e2:decide (n > 4096)=true:=by simp_all
  have:¬ a1s s n:=fun hp=>h2 hp.2.1
  simp_all
 have e2:decide (n > 4096)=false:=by simp_all
 by_cases h3:a3V s.1 s n
 rotate_left
 ·have e3:b3F s.1 s n=false:=by simp[b3F,h3]
  have:¬ a1s s n:=fun hp=>h3 hp.2.2.1
  simp_all[b5e]
 have e3:b3F s.1 s n=true:=by simp[b3F,h3]
 by_cases h4:b5f s
 rotate_left
 ·have e4:b5g s=false:=by simp[b5g,h4]
  have:¬ a1s s n:=fun hp=>h4 hp.2.2.2.1
  simp_all[b5e,c3e]
 have e4:b5g s=true:=by simp[b5g,h4]
 simp only[e1,e2,b5e h,e3,c3e h,e4,cF,bT,oB]
 by_cases h5:0≤s.2.1
 rotate_left
 ·have e5:decide (s.2.1<0)=true:=by simp_all
  have:¬ a1s s n:=fun hp=>h5 hp.2.2.2.2.1
  simp_all
 have e5:decide (s.2.1<0)=false:=by simp_all
 by_cases h6:s.2.1≤30
 rotate_left
 ·have e6:decide (s.2.1 > 30)=true:=by simp_all
  have:¬ a1s s n:=fun hp=>h6 hp.2.2.2.2.2.1
  simp_all
 have e6:decide (s.2.1 > 30)=false:=by simp_all
 simp only[e5,e6,cF]
 by_cases h7:s.1=0→s.2.1=0
 rotate_left
 ·have h7a:s.1=0:=Classical.byContradiction fun hc=>h7 fun e=>absurd e hc
  have h7b:(s.2.1 != 0)=true:=by
   simp_all
  have e7:(s.1==0)=true:=by simp_all
  have:¬ a1s s n:=fun hp=>h7 hp.2.2.2.2.2.2.1
  grind
 have e7:(bif s.1==0 then some (n,(s.2.1 != 0,(s,())))else some (n,(false,(s,()))))=some (n,(false,(s,()))):=by
  grind
 simp only[e7,oB,cF,b2i]
 by_cases h8:(s.2.2.2.2.2.2.2.2.1.length:Int)=a2h s n
 rotate_left
 ·have e8:(((s.2.2.2.2.2.2.2.2.1.length:Nat):Int) != a2h s n)=true:=by simp_all
  have:¬ a1s s n:=fun hp=>h8 hp.2.2.2.2.2.2.2.1
  grind
 have e8:(((s.2.2.2.2.2.2.2.2.1.length:Nat):Int) != a2h s n)=false:=by simp_all
 simp only[e8,cF,a4w hw,a4w hr,oB]
 cases h9:s.2.2.2.2.2.2.2.2.1.all a0A with
 |false=>
  have:¬ a1s s n:=fun hp=>by rw[hp.2.2.2.2.2.2.2.2.1]at h9;grind
  simp_all
 |true=>
  cases h10:s.2.2.2.2.2.2.2.2.2.2.1.all a0A with
  |false=>
   have:¬ a1s s n:=fun hp=>by rw[hp.2.2.2.2.2.2.2.2.2.1]at h10;grind
   simp_all
  |true=>
   simp only[bT,cF,oB,a6t]
   have hwr:=c4v h h1 h2 h3
   by_cases k01:s.1≠0∧s.1≠1
   ·have e11:wrap .i64 (n-a2h s n)=n-a2h s n:=a0C (by omega)
    simp[k01,e11,b3D hk]
    by_cases h11:(s.2.2.2.2.2.2.2.2.2.2.1.length:Int)=n-a2h s n
    ·have e12:(((s.2.2.2.2.2.2.2.2.2.2.1.length:Nat):Int)==n-a2h s n)=true:=by simp_all
     simp only[e12,cT]
     congr 1
     rw[a95,dT]
     constructor
     ·intro hp
      exact⟨h1,h2,h3,h4,h5,h6,h7,h8,h9,h10,fun hc=>absurd hc (by omega),fun _=>⟨h11,hp⟩⟩
     ·intro hp;exact(hp.2.2.2.2.2.2.2.2.2.2.2 k01).2
    ·have e12:(((s.2.2.2.2.2.2.2.2.2.2.1.length:Nat):Int)==n-a2h s n)=false:=by simp_all
     have:¬ a1s s n:=fun hp=>h11 (hp.2.2.2.2.2.2.2.2.2.2.2 k01).1
     grind
   ·have k01':s.1=0∨s.1=1:=by omega
    simp[k01,d1W]
    simp only[c1i,b1m]
    congr 1
    rw[a95,dT]
    simp
    constructor
    ·rintro⟨g1,g2,g3⟩
     exact⟨h1,h2,h3,h4,h5,h6,h7,h8,h9,h10,fun _=>⟨g1,g2,g3⟩,fun hc=>absurd hc k01⟩
    ·intro hp;exact hp.2.2.2.2.2.2.2.2.2.2.1 k01'
theorem b9z{α:Type}[DecidableEq α](q:α→α→Bool)(g:∀a b,q a b=decide (a=b)):∀(x y:List α),x.length=y.length→((x.zip y).all fun p=>q p.1 p.2)=decide (x=y)
 | [],[],_=>by simp
 |a::x,b::y,h=>by
  have f:=b9z q g x y (by simp_all);simp_all
theorem c4w{x y:List Int}(h:short x):a5d (x,y)=some (decide (x=y)):=by
 unfold a5d
 by_cases hl:x.length=y.length
 have e:(((x.length:Nat):Int) != ((y.length:Nat):Int))=false:=by simp_all
 have j:(x.zip y).length=x.length:=by simp_all
 have:=a1N (f:=a4E) (x.zip y) (fun i=>(x,y,(i:Int),())) (fun p=>p.1==p.2) (bt:=Sum.inl ()) (bf:=Sum.inr (false,()))
  (fun i hi hp=>by
   have k:i<x.length:=by omega
   have c:i<y.length:=by omega
   rw[a87]at hp;have hp:x[i]=y[i]:=by simp_all
   have g:(x[i] != y[i])=false:=by simp_all
   simp only[a4E,dlt k,cT,a0D k,a0D c,oB,g,cF,a0B (a33 k h)])
  (fun i hi hp=>by
   have k:i<x.length:=by omega
   have c:i<y.length:=by omega
   rw[a87]at hp;have g:(x[i] != y[i])=true:=by simp_all
   simp only[a4E,dlt k,cT,a0D k,a0D c,oB,g])
  (by simp_all[a4E])
 simp at this;simp only[e,cF,this,b9z (fun(a b:Int)=>a==b) (fun _ _=>rfl) x y hl]
 grind
 have e:(((x.length:Nat):Int) != ((y.length:Nat):Int))=true:=by grind
 have:¬ x=y:=fun d=>hl (by grind)
 grind
theorem c6R(h:a3V k s n):k=0∨k=1∨k=2∨k=3∨k=4∨k=5:=by
 unfold a3V at h;omega
def b8M(warm rest:List Int)(o:Int):Option (List Int):=bif warm.all a0A&&rest.all a0A then a4f (a6l o.toNat) rest warm else none
def backP(s:Sub):Option (List Int):=
 if s.1=1 then some s.2.2.2.2.2.2.2.2.1
 else if s.1=2 then b8M s.2.2.2.2.2.2.2.2.1 s.2.2.2.2.2.2.2.2.2.2.1 s.2.2.1
 else if s.1=3 then b3z s.2.2.2.2.2.2.2.2.1 s.2.2.2.2.2.2.2.2.2.2.1 s.2.2.2.2.2.1 s.2.2.2.1
 else if s.1=4 then(b3z s.2.2.2.2.2.2.2.2.1 s.2.2.2.2.2.2.2.2.2.2.1 s.2.2.2.2.2.1 s.2.2.2.1).bind fun l=>b4b l s.2.2.2.2.1 s.2.2.2.2.2.2.1
 else b2h s.2.2.2.2.2.2.2.2.2.2.1 s.2.2.2.2.2.2.2.1
def c3f(s:Sub)(n:Int):Option (List Int):=
 if s.1=0 then some (a00 n.toNat (s.2.2.2.2.2.2.2.2.1.getD 0 0))else(backP s).bind (upO s.2.1)
theorem b4H{w r c:List Int}{s:Int}{l}(h:b3z w r c s=some l):l.length=w.length+r.length:=by
 unfold b3z at h;cases hc:(w.all a0A&&r.all a0A)with
 |false=>simp_all
 |true=>
  rw[hc]at h;exact(b2W _ r w l (a71.1 hc).1 h).2
theorem c4x{w r:List Int}{o:Int}{l}(h:b8M w r o=some l):l.length=w.length+r.length:=by
 unfold b8M at h;cases hc:(w.all a0A&&r.all a0A)with
 |false=>simp_all
 |true=>
  rw[hc]at h;exact(b2W _ r w l (a71.1 hc).1 h).2
theorem c3g{l}(h:b4b r lag t=some l):l.length=r.length:=by
 unfold b4b at h;cases hc:r.all a0A with
 |false=>simp_all
 |true=>
  rw[hc]at h
  have:=(b2W _ r [] l rfl h).2
  simp_all
theorem c1G:∀(st:List Stg)(r:List Int){l},lO st r=some l→l.length=r.length
 | [],r,l,h=>by simp_all[lO]
 |s::st,r,l,h=>by
  simp only[lO]at h
  split at h
  rename_i f g;rw[c1G st f h,b5B _ _ _ g];simp;cases h
theorem c2v{r:List Int}{st:List Stg}{l}(h:b2h r st=some l):l.length=r.length:=by
 grind[b2h,c1G]
theorem c3h(h:SmallS s){l}(g:backP s=some l):l.length<100000:=by
 have b:=h.warm;have a:=h.rest;unfold backP at g
 split at g
 grind
 split at g
 grind[c4x]
 split at g
 grind[b4H]
 split at g
 obtain⟨c,f,k⟩:=a16.1 g;rw[c3g k,b4H f];omega
 grind[c2v]
theorem c6S(a:1≤n)(c:n≤4096)(d:s.2.2.2.2.2.2.2.2.1.length=1):
  y0o a6X (n,(0:Int),([]:List Int),s,())=some (a00 n.toNat (s.2.2.2.2.2.2.2.2.1.getD 0 0),()):=by
 obtain⟨N,rfl⟩:=a01 (show 0≤n by omega);have k:m0h s.2.2.2.2.2.2.2.2.1 (0:Int)=some (s.2.2.2.2.2.2.2.2.1.getD 0 0):=c2X (by omega) (by omega)
 have:=a1B (f:=a6X) (fun i=>((N:Int),(i:Int),a00 i (s.2.2.2.2.2.2.2.2.1.getD 0 0),s,())) N
  (b:=(a00 N (s.2.2.2.2.2.2.2.2.1.getD 0 0),())) (fun i hi=>by
   have h:lim ((a00 i (s.2.2.2.2.2.2.2.2.1.getD 0 0)).length+1)=true:=a0S (by grind);have g:a00 i (s.2.2.2.2.2.2.2.2.1.getD 0 0)++[s.2.2.2.2.2.2.2.2.1.getD 0 0]=a00 (i+1) (s.2.2.2.2.2.2.2.2.1.getD 0 0):=by grind[a72]
   simp only[a6X,dlt hi,cT,k,oB,h,a09,g,a0B (show i<1000000 by omega)])
  (by simp[a6X])
 simp_all
theorem c4y(h:SmallS s)(hp:a1s s n):b2N (s,n)=some (a4X (c3f s n)):=by
 have a:=fun l (d:backP s=some l)=>c3h h d;obtain⟨z,A,C,-,x,v,-,g,K,I,-⟩:=hp;have F:=h.rest;have G:=h.warm;have H:=h.taps;have D:=c6S (s:=s) z A;obtain⟨k,w,o,sh,lag,c,t,st,f,p,r,u⟩:=s;simp only at *;have L:∀l,l.length<100000→a9b (l,w)=some (a4X (upO w l)):=fun l d=>c2Z x v d;unfold b2N c3f;rcases C with b|b|⟨b,j,m,y⟩|⟨b,j,m⟩|⟨b,j,m,y⟩|⟨b,j,m⟩
 grind[a2h,a4X]
 simp_all[backP]
 ·subst b;obtain⟨O,rfl⟩:=a01 j;have m:(O:Int)≤4:=m;simp only[a2h]at g;have q:f.length=O:=by grind
  have i:=c2s (warm:=f) (rest:=r) (o:=O) (by omega) q (by omega);simp only[backP]at a⊢;simp[i];have e:(bif f.all a0A&&r.all a0A then a4f (a6l O) r f else none)=b8M f r (O:Int):=rfl;rw[e];cases d:b8M f r (O:Int)with
  |none=>rfl
  |some l=>simp_all[a4X]
 ·subst b;simp only[a2h]at g;have q:f.length=c.length:=by grind
  have i:=b5c (rest:=r) j q (by omega);simp only[backP]at a⊢;simp[i];cases d:b3z f r c sh with
  |none=>rfl
  |some l=>simp_all[a4X]
 ·subst b;simp only[a2h]at g;have q:f.length=c.length:=by grind
  have i:=b5c (rest:=r) j q (by omega);simp only[backP]at a⊢;simp[i];cases d:b3z f r c sh with
  |none=>rfl
  |some l=>
   have E:=b4H d;have B:=c2Y (rest:=l) y H (by omega);simp[a4X,B]
   grind[a4X]
 ·subst b;have i:=c2u (rest:=r) m (by omega);simp only[backP]at a⊢;simp[i];cases d:b2h r st with
  |none=>rfl
  |some l=>simp_all[a4X]
open Classical in
def a2f (s:Sub) (n:Int):Option (List Int):=if a1s s n then c3f s n else none
theorem b9A(h:SmallS s)(n:Int):b2b (s,n)=some (match a2f s n with|some r=>(r,0)|none=>([],1)):=by
 unfold b2b a2f;simp only[c6Q h,oB]
 by_cases hp:a1s s n
 simp[hp,c4y h hp]
 grind[a4X]
 simp_all
theorem b9B(h:SmallS s)(n:Int):a9I (s,n)=some (a2f s n).isSome:=by
 unfold a9I;simp only[b9A h,oB];cases a2f s n<;>rfl
@[reducible] def Wr:Type:=(List Int)×(Int×Unit)
def c1j(w:Wr)(b:Int):Wr:=
 let bs:=if w.2.1%8=0 then w.1++[0]else w.1
 (bs.set (w.2.1 / 8).toNat (bits .u8 .or (bs.getD (w.2.1 / 8).toNat 0) (A0j .u8 b (7-w.2.1%8))),w.2.1+1,())
def wL(L:List Int):Wr:=L.foldl c1j ([],0,())
theorem c1k(L:List Int)(b:Int):wL (L++[b])=c1j (wL L) b:=by simp[wL]
theorem b9C:∀(n:Nat)(L:List Int),L.length=n→(wL L).2.1=L.length∧(wL L).1.length=(L.length+7) / 8
 |0,L,h=>by
  rw[a40.1 h];exact⟨rfl,rfl⟩
 |n+1,L,h=>by
  obtain⟨g,b,rfl⟩:∃g b,L=g++[b]:=by
   rcases a50 L with rfl|⟨g,b,e⟩
   all_goals simp_all
  obtain⟨f,k⟩:=b9C n g (by simp_all);rw[c1k];simp only[c1j,List.length_set,lN,a68,f]
  grind
theorem a5K(L:List Int):(wL L).2.1=L.length∧(wL L).1.length=(L.length+7) / 8:=b9C _ L rfl
theorem b9D{L:List Int}(l:L.length<1000000000)(b:Int):a1Y (wL L,b)=some (wL (L++[b])):=by
 obtain⟨g,k⟩:=a5K L;have p:a28 ((L.length:Nat):Int) 8=((L.length:Nat):Int)%8:=a45 (by omega);have m:a46 ((L.length:Nat):Int) 8=((L.length:Nat):Int) / 8:=a57 (by omega);have c:wrap .i64 (((L.length:Nat):Int) / 8)=((L.length:Nat):Int) / 8:=a0C (by omega);have d:wrap .i64 (7-((L.length:Nat):Int)%8)=7-((L.length:Nat):Int)%8:=a0C (by omega);have e:wrap .i64 (((L.length:Nat):Int)+1)=((L.length:Nat):Int)+1:=a0C (by omega);have i:decide ((0:Int)≤((L.length:Nat):Int) / 8)=true:=by rfl
 have j:decide (7-((L.length:Nat):Int)%8<0)=false:=by grind
 rw[c1k];generalize wL L=wr at g k⊢;obtain⟨f,n,u⟩:=wr;have g:n=((L.length:Nat):Int):=g;have k:f.length=(L.length+7) / 8:=k;subst g;unfold a1Y c1j
 by_cases h:((L.length:Nat):Int)%8=0
 have hb:(((L.length:Nat):Int)%8==0)=true:=by grind
 have o:lim (f.length+1)=true:=a0T (by omega);have a:decide (((L.length:Nat):Int) / 8<(((f++[0]).length:Nat):Int))=true:=by grind
 simp_all
 grind
def a6O(v:Int)(i:Nat):Int:=wrap .u8 (bits .u64 .and (A0k .u64 v (i:Int)) 1)
def pb(v:Int):Nat→List Int
 |0=>[]
 |i+1=>a6O v i::pb v i
theorem b4e(v:Int):∀n,(pb v n).length=n
 |0=>rfl
 |n+1=>by simp[pb,b4e v n]
def a0O(v:Int)(n:Nat)(L:List Int):List Int:=bif A0k .u64 v (n:Int) != 0 then L else L++pb v n
theorem a0V(v:Int)(n:Nat)(L:List Int):L.length≤(a0O v n L).length∧(a0O v n L).length≤L.length+n:=by
 grind[a0O,b4e]
def a8e(v:Int)(n:Nat):Int:=bif A0k .u64 v (n:Int) != 0 then 1 else 0
theorem c3i{v:Int}:∀(n:Nat)(L:List Int),L.length+n<1000000000→y0o a4d (v,(n:Int)-1,wL L,())=some (wL (L++pb v n),())
 |0,L,_=>by simp_all[a0E,a4d,pb]
 |n+1,L,h=>by
  have e:((n+1:Nat):Int)-1=(n:Int):=by omega
  have g:wrap .i64 ((n:Int)-1)=(n:Int)-1:=a0C (by omega);have f:decide ((n:Int)≥0)=true:=by simp
  have k:decide ((n:Int)<0)=false:=by simp
  rw[e,a0F (s':=(v,(n:Int)-1,wL (L++[a6O v n]),())) (by
   simp only[a4d,f,k,cT,cF,show wrap .u8 (bits .u64 .and (A0k .u64 v (n:Int)) 1)=a6O v n from rfl,b9D (show L.length<1000000000 by omega),oB,g])]
  rw[c3i n (L++[a6O v n]) (by simp;omega),pb]
  simp
theorem a3g{v:Int}{n:Nat}(a:n≤63)(k:L.length<999999000):a0G (wL L,v,(n:Int))=some (a8e v n,wL (a0O v n L)):=by
 unfold a0G a8e a0O;have g:decide ((n:Int)<0)=false:=by simp
 have f:decide ((n:Int) > 64)=false:=by grind
 have h:wrap .i64 ((n:Int)-1)=(n:Int)-1:=a0C (by omega);simp[g,f];cases (A0k .u64 v (n:Int) != 0)with
 |true=>rfl
 |false=>simp only[cF,h,c3i n L (by omega),oB]
def unL(n:Nat)(L:List Int):List Int:=L++a00 n 0++[1]
theorem c3j{n:Nat}(c:n≤4096)(a:L.length<999990000):a2k (wL L,(n:Int))=some (0,wL (unL n L)):=by
 unfold a2k unL;have g:decide ((n:Int)<0)=false:=by simp
 have k:decide ((n:Int) > 4096)=false:=by grind
 simp only[g,k,cF,oB]
 have:=a1B (f:=a3n) (fun i=>((n:Int),(i:Int),wL (L++a00 i 0),())) n (b:=(wL (L++a00 n 0),())) (fun i hi=>by
   have h:L++a00 i (0:Int)++[0]=L++a00 (i+1) 0:=by simp_all[a72]
   simp only[a3n,dlt hi,cT,b9D (show(L++a00 i (0:Int)).length<1000000000 by grind),oB,h,a0B (show i<1000000 by omega)])
  (by simp[a3n])
 grind[b9D]
theorem b0P(n:Nat)(L:List Int):(unL n L).length=L.length+n+1:=by simp[unL];rfl
def a0W(x:Int)(n:Nat):Int:=bits .u64 .and (wrap .u64 x) (wrap .u64 ((A0j .u64 1 (n:Int))-1))
def a1C(n:Nat)(l:List Int)(L:List Int):List Int:=l.foldl (fun L x=>a0O (a0W x n) n L) L
theorem a6o(n:Nat):∀(l L:List Int),L.length≤(a1C n l L).length∧(a1C n l L).length≤L.length+n*l.length
 | [],L=>by simp[a1C]
 |x::l,L=>by
  have h:=a0V (a0W x n) n L;have g:=a6o n l (a0O (a0W x n) n L);have e:a1C n (x::l) L=a1C n l (a0O (a0W x n) n L):=rfl;rw[e,lC,a88,a89];omega
theorem b3G{n:Nat}(f:n≤63)(g:L.length<999999000):a2F (wL L,x,(n:Int))=some (wL (a0O (a0W x n) n L)):=by
 unfold a2F;have h:decide ((n:Int)<0)=false:=by simp
 simp only[h,cF,show bits .u64 .and (wrap .u64 x) (wrap .u64 ((A0j .u64 1 (n:Int))-1))=a0W x n from rfl,a3g f g,oB]
def a1i(x w:Int):Bool:=decide (1≤w)&&(decide (w≤31)&&(decide (A0j .i64 (-1) (w-1)≤x)&&decide (x≤wrap .i64 (A0j .i64 1 (w-1)-1))))
theorem a6p(a:w≤32):a1O (x,(w:Int))=some (a1i x w):=by
 unfold a1O a1i b3j b2r
 by_cases h1:1≤(w:Int)
 by_cases h2:(w:Int)≤31
 have h:decide ((w:Int)<1)=false:=by simp_all
 have g:decide ((w:Int) > 31)=false:=by simp_all
 have e:wrap .i64 ((w:Int)-1)=(w:Int)-1:=a0C (by omega);have f:decide ((w:Int)-1<0)=false:=by simp_all
 have k:decide ((w:Int)≥1)=true:=by simp_all
 simp[h1,h2,h,g,f,e]
 grind
 grind
 grind
theorem c4z(b:w≤32):b2g (x,(w:Int))=some (a1i x w):=by
 unfold b2g a1i b8H b7c
 by_cases h1:1≤(w:Int)
 by_cases h2:(w:Int)≤31
 have f:decide ((w:Int)<1)=false:=by simp_all
 have k:decide ((w:Int) > 31)=false:=by simp_all
 have e:wrap .i64 ((w:Int)-1)=(w:Int)-1:=a0C (by omega);have g:wrap .u64 ((w:Int)-1)=(w:Int)-1:=a0L (by omega);have a:decide ((w:Int)-1<0)=false:=by simp_all
 have h:decide ((w:Int)≥1)=true:=by simp_all
 simp only[h,h1,h2,f,k,a,e,g,decide_true,cT,cF,oB,a51]
 grind
 grind
 grind
def a1G(x:Int):Nat→Nat→Nat
 |0,w=>w
 |k+1,w=>bif (x != 0)&&!a1i x w then a1G x k (w+1)else w
theorem b8N(x:Int):∀(k w:Nat),a1G x k w≤w+k
 |0,w=>a23 _
 |k+1,w=>by
  simp[a1G];cases (x != 0)&&!a1i x w with
  |true=>have:=b8N x k (w+1);grind
  |false=>simp
def a0I(l:List Int):Nat:=l.foldl (fun w x=>a1G x (32-w) w) 0
theorem b6y:∀(l:List Int)(w:Nat),w≤32→l.foldl (fun w x=>a1G x (32-w) w) w≤32
 | [],w,h=>h
 |x::l,w,h=>b6y l _ (show a1G x (32-w) w≤32 by grind[b8N])
theorem a6u(l:List Int):a0I l≤32:=b6y l 0 (by omega)
theorem c1H{x:Int}{l:List Int}{n i:Int}:∀(k w:Nat),w+k=32→y0o a2P ((w:Int),x,l,n,i,())=some (((a1G x k w:Nat):Int),l,n,i,())
 |0,w,h=>by
  obtain rfl:w=32:=by omega
  simp_all[a0E,a2P,a1G]
 |k+1,w,h=>by
  have g:decide ((w:Int)<32)=true:=by grind
  simp[a1G];cases hx:(x != 0)with
  |false=>simp_all[a0E,a2P]
  |true=>
   cases hf:a1i x w with
   |true=>exact a0E (by simp only[a2P,hx,g,a6p (show w≤32 by omega),hf,oB,cT,cF,bT,Bool.and_false])
   |false=>
    rw[a0F (s':=(((w+1:Nat):Int),x,l,n,i,())) (by simp only[a2P,hx,g,a6p (show w≤32 by omega),hf,oB,cT,a30,a0B (show w<1000000 by omega)])];exact c1H k (w+1) (by omega)
theorem a2i(c:short l):a1r l=some ((a0I l:Nat):Int):=by
 have c:l.length<1000000:=c
 have:=a1M (f:=a5O) l (fun i (w:Nat)=>((w:Int),l,(l.length:Int),(i:Int),())) (fun w x=>(.inl (a1G x (32-w) w):Nat ⊕ (Int×Unit))) (fun _ w=>w≤32) (fun w=>((w:Int),()))
  (fun i h w e=>⟨fun d k=>by
   simp at k;subst k;refine⟨?_,by grind[b8N]⟩;simp only[a5O,dlt h,cT,a0D h,oB,c1H (32-w) w (by omega),a0B (show i<1000000 by omega)],fun b hb=>(by grind)⟩)
  (fun w _=>by simp[a5O]) (a:=0) (by omega)
 simp at this;unfold a1r;rw[this];have g:∀(l:List Int)(w:Nat),a2J (fun w x=>(.inl (a1G x (32-w) w):Nat ⊕ (Int×Unit))) l w=.inl (l.foldl (fun w x=>a1G x (32-w) w) w):=by
  intro l
  induction l with
  |nil=>intro w;rfl
  |cons x l ih=>simp_all[a2J]
 rw[g];rfl
theorem b0Q(x:Int):a7t x=some (a0A x):=by
 grind[a7t,a0A]
def a0Q(x:Int):Nat:=if 0≤x then(2*x).toNat else(-2*x-1).toNat
theorem a9E(h:a0A x=true):a0Q x<2147483648:=by
 grind[a1D,a0Q]
theorem b0R(h:a0A x=true):a9e x=some ((a0Q x:Nat):Int):=by
 have f:=a1D.1 h;unfold a9e a0Q;simp only[b0Q,h,oB,bT,cF]
 by_cases h0:0≤x
 have g:decide (x≥0)=true:=by simp_all
 simp only[g,cT,if_pos h0]
 grind[a0C,a0L]
 have g:decide (x≥0)=false:=by simp_all
 simp only[g,cF,if_neg h0]
 grind[a0C,a0L]
theorem a6v{N o:Nat}(h:o≤64):A0k .u64 (N:Int) (o:Int)=((N / 2^o:Nat):Int):=c3d h
theorem b2j{N:Nat}(h:o≤64)(g:N*2^o<9223372036854775808):A0j .u64 (N:Int) (o:Int)=((N*2^o:Nat):Int):=by
 unfold A0j;show wrap .u64 ((N:Int)*2^(min (o:Int).toNat 64))=_
 grind[a0L]
theorem c3k{y k:Nat}(c:y<18446744073709551616)(f:k≤62):bits .u64 .and (y:Int) (wrap .u64 (A0j .u64 1 (k:Int)-1))=((y%2^k:Nat):Int):=by
 have hp:2^k≤2^62:=a06 (by simp) f;have a:1≤2^k:=a75;have b:(2:Nat)^62=4611686018427387904:=by rfl
 have h:A0j .u64 1 (k:Int)=((2^k:Nat):Int):=by have:=b2j (N:=1) (o:=k) (by omega) (by omega);simp_all
 have g:wrap .u64 (((2^k:Nat):Int)-1)=((2^k-1:Nat):Int):=by grind[a0L]
 rw[h,g];show wrap .u64 (((a02 64 (y:Int)) &&& (a02 64 ((2^k-1:Nat):Int))).toNat:Int)=_;rw[a26,a26,a62,a32,a32,a24 c,a24 (by omega),a53]
 have:y%2^k<2^k:=a38 _ (by omega)
 exact a0L (by omega)
theorem b3H{q:Nat}(h:q<2147483648):wrap .i64 (q:Int)=(q:Int):=a0C (by omega)
def a6P(k:Nat)(x:Int)(L:List Int):List Int:=
 if a0Q x / 2^k<32 then a0O ((a0Q x%2^k:Nat):Int) k (unL (a0Q x / 2^k) L)else a0O ((a0Q x:Nat):Int) 32 (unL 32 L)
def a4J(k:Nat)(l:List Int)(L:List Int):List Int:=l.foldl (fun L x=>a6P k x L) L
theorem b7f{k:Nat}(h:k≤25)(x:Int)(L:List Int):L.length≤(a6P k x L).length∧(a6P k x L).length≤L.length+100:=by
 grind[a6P,a0V,b0P]
theorem b6z{k:Nat}(h:k≤25):∀(l L:List Int),L.length≤(a4J k l L).length∧(a4J k l L).length≤L.length+100*l.length
 | [],L=>by simp[a4J]
 |x::l,L=>by
  have g:=b7f h x L;have f:=b6z h l (a6P k x L);have e:a4J k (x::l) L=a4J k l (a6P k x L):=rfl
  grind
theorem a8X{k:Nat}(h:k≤25):a1K (k:Int)=some true:=by
 unfold a1K
 grind
theorem c4A{k:Nat}(x:k≤25)(D:l.length<10000)(t:l.all a0A=true)(C:L.length<900000000):b2P (wL L,(k:Int),l)=some (0,wL (a4J k l L)):=by
 have A:=a1N (f:=a9r) l (fun i=>((k:Int),l,l,(l.length:Int),(i:Int),wL L,())) (fun _=>true) (bt:=Sum.inl ((k:Int),l,wL L,())) (bf:=Sum.inl ((k:Int),l,wL L,()))
  (fun i h _=>by
   have:=lA.1 t _ (a05 h)
   simp only[a9r,dlt h,cT,a0D h,oB,b0Q,this,bT,cF,a0B (show i<1000000 by omega)])
  (fun i h hp=>by simp_all) (by simp[a9r])
 have p:∀(j i:Nat)(g:List Int),i+j=l.length→g.length+100*j<999990000→y0o a7a ((k:Int),l,(l.length:Int),(i:Int),wL g,())=some (wL (a4J k (l.drop i) g),()):=by
  intro j
  induction j with
  |zero=>
   intro i g hi _;obtain rfl:i=l.length:=by omega
   simp_all[a0E,a7a,a4J]
  |succ j ih=>
   intro i g hi hb;have a:i<l.length:=by omega
   have c:=lA.1 t _ (a05 a);have z:=a9E c;have y:=b7f x l[i] g;have e:decide ((k:Int)<0)=false:=by simp
   have q:A0k .u64 ((a0Q l[i]:Nat):Int) (k:Int)=((a0Q l[i] / 2^k:Nat):Int):=a6v (by omega);have o:=a43 (a0Q l[i]) (2^k);have r:=a96 (a0Q l[i]) (2^k);have d:A0j .u64 ((a0Q l[i] / 2^k:Nat):Int) (k:Int)=((a0Q l[i] / 2^k*2^k:Nat):Int):=b2j (by omega) (by grind);have u:wrap .u64 (((a0Q l[i]:Nat):Int)-((a0Q l[i] / 2^k*2^k:Nat):Int))=((a0Q l[i]%2^k:Nat):Int):=by
    rw[a77 (a0Q l[i] / 2^k)]
    grind[a0L]
   have w:wrap .i64 ((a0Q l[i] / 2^k:Nat):Int)=((a0Q l[i] / 2^k:Nat):Int):=b3H (a41 o z);rw[a03 a,a0F (s':=((k:Int),l,(l.length:Int),((i+1:Nat):Int),wL (a6P k l[i] g),())) (by
    by_cases hq:a0Q l[i] / 2^k<32
    have m:decide (((a0Q l[i] / 2^k:Nat):Int)<32)=true:=decide_eq_true (by omega);have s:(unL (a0Q l[i] / 2^k) g).length<999999000:=by
     rw[b0P];omega
    have b:=c3j (L:=g) (n:=a0Q l[i] / 2^k) (a78 (a33 hq (by simp))) (by omega);have hp:=a3g (L:=unL (a0Q l[i] / 2^k) g) (v:=((a0Q l[i]%2^k:Nat):Int)) (n:=k) (by omega) s;simp only[a7a,dlt a,cT,a0D a,oB,b0R c,e,cF,q,m,w,b,d,u,hp,a6P,if_pos hq,a0B (show i<1000000 by omega)];have m:decide (((a0Q l[i] / 2^k:Nat):Int)<32)=false:=decide_eq_false (by omega);have s:=b0P 32 g;have b:a2k (wL g,(32:Int))=some (0,wL (unL 32 g)):=c3j (L:=g) (n:=32) (by omega) (by omega);have hp:a0G (wL (unL 32 g),((a0Q l[i]:Nat):Int),(32:Int))=some (a8e ((a0Q l[i]:Nat):Int) 32,wL (a0O ((a0Q l[i]:Nat):Int) 32 (unL 32 g))):=a3g (L:=unL 32 g) (v:=((a0Q l[i]:Nat):Int)) (n:=32) (by omega) (by omega);simp only[a7a,dlt a,cT,a0D a,oB,b0R c,e,cF,q,m,b,hp,a6P,if_neg hq,a0B (show i<1000000 by omega)])]
   exact ih (i+1) _ (by omega) (by omega)
 have B:=p l.length 0 L (by omega) (by omega);simp_all[b2P,a8X]
def a1o(zn:List Nat):List Int:=zn.map fun(a:Nat)=>(a:Int)
theorem c2w(n M:Nat):(a00 n M).sum=n*M:=by
 simp
theorem b4I{o n warm:Int}(h:(a1F o n warm).length≠0):∃zn:List Nat,a1F o n warm=a1o zn∧(zn.sum:Int)=n-warm∧zn.length≤256:=by
 unfold a1F at h⊢;cases hr:(a6n n warm&&(decide (0≤o)&&decide (o≤8)))with
 |false=>simp_all
 |true=>
  rw[hr]at h;simp only[cT]at h⊢;simp[a6n]at hr;unfold b5d at h⊢
  split at h
  rename_i g;rw[if_pos g];obtain⟨O,rfl⟩:=a01 hr.2.1;obtain⟨N,rfl⟩:=a01 (show 0≤n by omega);obtain⟨w,rfl⟩:=a01 (show 0≤warm by omega);simp only[tN]at g⊢;have hp:=d1V (o:=O) (by omega);have f:=a96 N (2^O);rw[g.1,a79]at f;have k:w≤N / 2^O:=by omega
  generalize N / 2^O=M at g k f⊢;generalize 2^O=P at hp f⊢;refine⟨(M-w)::a00 (P-1) M,?_,?_,?_⟩
  grind[a1o,List.map_replicate]
  rw[a59,c2w];obtain⟨q,rfl⟩:∃q,P=q+1:=⟨P-1,by omega⟩
  grind
  simp_all;simp_all
def a9y(k:Int)(part L:List Int):List Int:=
 if k=31 then a1C (a0I part) part (a0O ((a0I part:Nat):Int) 5 (a0O (wrap .u64 k) 5 L))else a4J k.toNat part (a0O (wrap .u64 k) 5 L)
def a4K:List Nat→List Int→List Int→List Int→List Int
 |z::zs,k::ks,l,L=>a4K zs ks (l.drop z) (a9y k (l.take z) L)
 |_,_,_,L=>L
theorem b7g(h:kB k=true)(part L:List Int):L.length≤(a9y k part L).length∧(a9y k part L).length≤L.length+10+100*part.length:=by
 unfold a9y;have a:=a0V (wrap .u64 k) 5 L;split;have b:=a0V ((a0I part:Nat):Int) 5 (a0O (wrap .u64 k) 5 L);have c:=a6o (a0I part) part (a0O ((a0I part:Nat):Int) 5 (a0O (wrap .u64 k) 5 L));have f:=a6u part
 have:a0I part*part.length≤32*part.length:=a27 _ f
 omega;rename_i g;simp[kB]at h
 grind[b6z]
theorem a8f(h:i<zn.length):b00 (a1o zn) i 0=((zn[i]:Nat):Int):=by
 simp_all[a1o]
theorem a1u(h:List Nat):(a1o h).length=h.length:=by simp[a1o]
theorem b5D(h:i<zn.length):(zn.drop i).sum=zn[i]+(zn.drop (i+1)).sum:=by
 grind[a03]
theorem c3l{part rest:List Int}{wd:Nat}{a b:Int}{z:List Int}{p:Prt}(k:wd≤32)(hp:part.length<10000):∀(j i:Nat)(L:List Int),i+j=part.length→L.length+64*j<999990000→
  y0o a8s (rest,(wd:Int),a,b,part,(part.length:Int),(i:Int),z,wL L,p,())=some (rest,a,b,z,wL (a1C wd (part.drop i) L),p,())
 |0,i,L,hi,_=>by
  obtain rfl:i=part.length:=by omega
  simp_all[a0E,a8s,a1C]
 |j+1,i,L,hi,hb=>by
  have h:i<part.length:=by omega
  have g:decide ((wd:Int)<0)=false:=by simp
  have f:=a0V (a0W part[i] wd) wd L;rw[a03 h,a0F (s':=(rest,(wd:Int),a,b,part,(part.length:Int),((i+1:Nat):Int),z,wL (a0O (a0W part[i] wd) wd L),p,())) (by
   simp only[a8s,dlt h,cT,a0D h,oB,g,cF,show bits .u64 .and (wrap .u64 part[i]) (wrap .u64 ((A0j .u64 1 (wd:Int))-1))=a0W part[i] wd from rfl,a3g (show wd≤63 by omega) (show L.length<999999000 by omega),a0B (show i<1000000 by omega)])]
  exact c3l k hp j (i+1) _ (by omega) (by omega)
theorem b5h{zn:List Nat}{p:Prt}(N:p.2.1.length=zn.length)(c:p.2.1.all kB=true)(R:zn.length≤256):∀(j i:Nat)(l L:List Int),i+j=zn.length→(zn.drop i).sum=l.length→l.all a0A=true→l.length≤5000→L.length+10*j+100*l.length<800000000→
  y0o a4u (l,(zn.length:Int),(i:Int),a1o zn,wL L,p,())=some (wL (a4K (zn.drop i) (p.2.1.drop i) l L),())
 |0,i,l,L,hi,_,_,_,_=>by
  obtain rfl:i=zn.length:=by omega
  simp_all[a0E,a4u,a4K]
 |j+1,i,l,L,hi,hsum,hw,hl5,hb=>by
  have h:i<zn.length:=by omega
  have f:i<p.2.1.length:=by omega
  have s:=lA.1 c _ (a05 f);rw[b5D h]at hsum;have B:decide ((0:Int)≤(i:Int))=true:=by simp
  have C:decide ((i:Int)<(((a1o zn).length:Nat):Int))=true:=by simp_all[a1u]
  have D:decide ((0:Int)≤((zn[i]:Nat):Int))=true:=by simp
  have E:decide (((zn[i]:Nat):Int)≤((l.length:Nat):Int))=true:=by grind
  have t:(l.take zn[i]).length=zn[i]:=by simp_all
  have q:(l.drop zn[i]).length=(zn.drop (i+1)).sum:=by grind
  have w:(l.take zn[i]).all a0A=true:=lA.2 fun x A=>lA.1 hw x (a35 A);have y:(l.drop zn[i]).all a0A=true:=lA.2 fun x A=>lA.1 hw x (a36 A);have Q:=b7g s (l.take zn[i]) L;have O:=a0V (wrap .u64 p.2.1[i]) 5 L;have d:a0G (wL L,wrap .u64 p.2.1[i],(5:Int))=some (a8e (wrap .u64 p.2.1[i]) 5,wL (a0O (wrap .u64 p.2.1[i]) 5 L)):=a3g (n:=5) (by omega) (by omega);have G:zn.drop i=zn[i]::zn.drop (i+1):=a03 h;have H:p.2.1.drop i=p.2.1[i]::p.2.1.drop (i+1):=a03 f;rw[G,H,a4K];have r:a4u (l,(zn.length:Int),(i:Int),a1o zn,wL L,p,())=some (.inl (l.drop zn[i],(zn.length:Int),((i+1:Nat):Int),a1o zn,wL (a9y p.2.1[i] (l.take zn[i]) L),p,())):=by
   by_cases h31:p.2.1[i]=31
   have m:(p.2.1[i] != 31)=false:=by simp_all
   have v:=a6u (l.take zn[i]);have u:=a2i (l:=l.take zn[i]) (by unfold short;omega);have P:=a0V ((a0I (l.take zn[i]):Nat):Int) 5 (a0O (wrap .u64 p.2.1[i]) 5 L);have I:wrap .u64 ((a0I (l.take zn[i]):Nat):Int)=((a0I (l.take zn[i]):Nat):Int):=a0L (by omega);have o:a0G (wL (a0O (wrap .u64 p.2.1[i]) 5 L),((a0I (l.take zn[i]):Nat):Int),(5:Int))=some (a8e ((a0I (l.take zn[i]):Nat):Int) 5,wL (a0O ((a0I (l.take zn[i]):Nat):Int) 5 (a0O (wrap .u64 p.2.1[i]) 5 L))):=a3g (n:=5) (by omega) (by omega);have e:=c3l (part:=l.take zn[i]) (rest:=l.drop zn[i]) (a:=(zn.length:Int)) (b:=(i:Int)) (z:=a1o zn) (p:=p) v (by omega) (l.take zn[i]).length 0 (a0O ((a0I (l.take zn[i]):Nat):Int) 5 (a0O (wrap .u64 p.2.1[i]) 5 L)) (by omega) (by omega);simp only[nZ,a31]at e;simp only[a4u,dlt h,B,C,a8f h,D,E,cT,a04,tN,a0D f,oB,d,m,cF,u,I,o,a20,e,a0B (show i<1000000 by omega),a9y,if_pos h31];have m:(p.2.1[i] != 31)=true:=by simp_all
   simp[kB]at s;obtain⟨K,M⟩:=a01 (show 0≤p.2.1[i]by omega);have g:=c4A (k:=K) (l:=l.take zn[i]) (L:=a0O (wrap .u64 p.2.1[i]) 5 L) (by omega) (by omega) w (by omega);rw[←M]at g;have F:K=p.2.1[i].toNat:=by omega
   simp only[a4u,dlt h,B,C,a8f h,D,E,cT,a04,tN,a0D f,oB,d,m,g,a20,a0B (show i<1000000 by omega),a9y,if_neg h31,F]
  rw[a0F r];exact b5h N c R j (i+1) (l.drop zn[i]) _ (by omega) q.symm y (by omega) (by omega)
theorem c1l{k:Nat}(d:k≤25)(g:a0A x=true):∃c,a7u ((k:Int),x)=some c∧0≤c∧c≤65:=by
 have e:=a9E g;have f:A0k .u64 ((a0Q x:Nat):Int) (k:Int)=((a0Q x / 2^k:Nat):Int):=a6v (by omega);have a:wrap .i64 ((a0Q x / 2^k:Nat):Int)=((a0Q x / 2^k:Nat):Int):=b3H (a41 (a43 _ _) e);have h:decide ((k:Int)<0)=false:=by simp
 unfold a7u;simp only[a8X d,b0Q,g,oB,bT,cF,b0R g,h,f,a];generalize a0Q x / 2^k=q
 by_cases hq:q<32
 have b:decide ((q:Int)<32)=true:=decide_eq_true (by omega);refine⟨(q:Int)+1+k,?_,by omega,by omega⟩;simp only[b,cT]
 grind[a0C]
 grind
theorem c2x{k:Nat}(o:k≤25)(p:l.all a0A=true)(s:l.length<10000):∃c,a3m ((k:Int),l)=some c∧0≤c∧c≤65*l.length:=by
 have g:∀(j i:Nat)(c:Int),i+j=l.length→0≤c→c≤65*i→∃c',y0o a3S ((k:Int),c,l,(l.length:Int),(i:Int),())=some (c',())∧0≤c'∧c'≤65*l.length:=by
  intro j
  induction j with
  |zero=>
   intro i c hi a f;obtain rfl:i=l.length:=by omega
   simp_all[a0E,a3S]
  |succ j ih=>
   intro i c hi a f;have h:i<l.length:=by omega
   obtain⟨d,b,m,n⟩:=c1l o (lA.1 p _ (a05 h));have e:wrap .i64 (c+d)=c+d:=a0C (by omega);rw[a0F (s':=((k:Int),c+d,l,(l.length:Int),((i+1:Nat):Int),())) (by simp only[a3S,dlt h,cT,a0D h,oB,b,e,a0B (show i<1000000 by omega)])];exact ih (i+1) _ (by omega) (by omega) (by omega)
 obtain⟨c,f,q,r⟩:=g l.length 0 0 (by omega) (by omega) (by omega);simp_all[a3m]
theorem c6T{n:Nat}(g:w≤32)(f:n<10000):0≤(w:Int)*(n:Int)∧(w:Int)*(n:Int)≤32*n:=by
 have h:w*n≤32*n:=a27 _ g;omega
theorem c1m(h:l.length<10000):∃c,a5H l=some c∧0≤c∧c≤5+32*l.length:=by
 have g:=c6T (a6u l) h;refine⟨5+((a0I l:Nat):Int)*((l.length:Nat):Int),?_,by omega,by omega⟩;unfold a5H;simp only[a2i (show short l by unfold short;omega),oB]
 grind[a0C]
theorem b4f{zn:List Nat}{p:Prt}(H:p.2.1.length=zn.length)(g:p.2.1.all kB=true)(I:zn.length≤256):∀(j i:Nat)(l:List Int)(c:Int),i+j=zn.length→(zn.drop i).sum=l.length→l.all a0A=true→l.length≤5000→4≤c→c+10*j+65*l.length<1000000→
  ∃c',y0o a1t (l,c,(zn.length:Int),(i:Int),a1o zn,p,())=some (c',())∧4≤c'
 |0,i,l,c,hi,_,_,_,hc,_=>by
  obtain rfl:i=zn.length:=by omega
  simp_all[a0E,a1t]
 |j+1,i,l,c,hi,hsum,hw,hl5,hc,hb=>by
  have h:i<zn.length:=by omega
  have f:i<p.2.1.length:=by omega
  have q:=lA.1 g _ (a05 f);rw[b5D h]at hsum;have z:decide ((0:Int)≤(i:Int))=true:=by simp
  have A:decide ((i:Int)<(((a1o zn).length:Nat):Int))=true:=by simp_all[a1u]
  have B:decide ((0:Int)≤((zn[i]:Nat):Int))=true:=by simp
  have C:decide (((zn[i]:Nat):Int)≤((l.length:Nat):Int))=true:=by grind
  have s:(l.take zn[i]).length=zn[i]:=by simp_all
  have b:(l.drop zn[i]).length=(zn.drop (i+1)).sum:=by grind
  have v:(l.take zn[i]).all a0A=true:=lA.2 fun x y=>lA.1 hw x (a35 y);have w:(l.drop zn[i]).all a0A=true:=lA.2 fun x y=>lA.1 hw x (a36 y);have e:∃d,a1t (l,c,(zn.length:Int),(i:Int),a1o zn,p,())=some (.inl (l.drop zn[i],c+d,(zn.length:Int),((i+1:Nat):Int),a1o zn,p,()))∧0≤d∧d≤10+65*zn[i]:=by
   by_cases h31:p.2.1[i]=31
   have a:(p.2.1[i]==31)=true:=by simp_all
   obtain⟨r,m,t,u⟩:=c1m (l:=l.take zn[i]) (by omega);have n:wrap .i64 (5+r)=5+r:=a0C (by omega);have o:wrap .i64 (c+(5+r))=c+(5+r):=a0C (by omega);refine⟨5+r,?_,by omega,by omega⟩;simp only[a1t,dlt h,z,A,a8f h,B,C,cT,a04,tN,a0D f,oB,a,m,n,o,a20,a0B (show i<1000000 by omega)];have a:(p.2.1[i]==31)=false:=by simp_all
   simp[kB]at q;obtain⟨K,D⟩:=a01 (show 0≤p.2.1[i]by omega);obtain⟨r,m,t,u⟩:=c2x (k:=K) (by omega) v (by omega);rw[←D]at m;have n:wrap .i64 (5+r)=5+r:=a0C (by omega);have o:wrap .i64 (c+(5+r))=c+(5+r):=a0C (by omega);refine⟨5+r,?_,by omega,by omega⟩;simp only[a1t,dlt h,z,A,a8f h,B,C,cT,cF,a04,tN,a0D f,oB,a,m,n,o,a20,a0B (show i<1000000 by omega)]
  obtain⟨d,E,F,G⟩:=e;rw[a0F E];exact b4f H g I j (i+1) (l.drop zn[i]) _ (by omega) b.symm w (by omega) (by omega) (by omega)
structure PartsOk (p:Prt) (n warm:Int) (l:List Int) (zn:List Nat):Prop where
 may:a5z p n warm=true
 sizes:a1F p.1 n warm=a1o zn
 sum:zn.sum=l.length
 len:zn.length≤256
 ks:p.2.1.length=zn.length
 all:p.2.1.all kB=true
 wide:l.all a0A=true
 short:l.length≤5000
 row:a6n n warm=true
 rest:(l.length:Int)=n-warm
 order:0≤p.1∧p.1≤8
theorem PartsOk.of{p:Prt}{n warm:Int}{l:List Int}(h:a5z p n warm=true)(i:(l.length:Int)=n-warm)(j:l.all a0A=true)(e:l.length≤5000):∃g,PartsOk p n warm l g:=by
 have f:=h;simp only[a5z,bA,a34,beq_eq_false_iff_ne,ne_eq,beq_iff_eq]at f;obtain⟨c,o,d⟩:=f;obtain⟨g,a,m,b⟩:=b4I c;have k:a6n n warm=true∧0≤p.1∧p.1≤8:=by
  grind[a1F]
 exact⟨g,h,a,by omega,b,by simp_all[a1u],d,j,e,k.1,i,k.2⟩
theorem b1n{n warm:Int}{l:List Int}(h:a6n n warm=true)(c:(l.length:Int)=n-warm)(d:l.all a0A=true)(a:l.length≤5000):a6Z (n,warm,l)=some true:=by
 have e:wrap .i64 (n-warm)=n-warm:=by
  simp[a6n]at h;exact a0C (by omega)
 have k:(((l.length:Nat):Int) != n-warm)=false:=by simp_all
 have f:b3n=a2u:=rfl;have g:short l:=by unfold short;omega
 have b:=a4w g;simp_all[a2o,a6Z,b3C]
theorem b9E(h:PartsOk p n warm l zn):∃c,a4C (p,n,warm,l)=some c∧4≤c:=by
 have k:Go.Ab.short p.2.1:=by have:=h.ks;have:=h.len;unfold Go.Ab.short;omega
 have a:=h.short;have b:=h.len;obtain⟨c,g,f⟩:=b4f h.ks h.all h.len zn.length 0 l 4 (by omega) (by rw[a31];exact h.sum) h.wide h.short (by omega) (by omega);simp at g;refine⟨c,?_,f⟩;unfold a4C;simp only[b3D k,h.may,b1n h.row h.rest h.wide h.short,oB,bT,cF,a1V,h.sizes,a1u,g]
def a4m(p:Prt)(zn:List Nat)(l L:List Int):List Int:=a4K zn p.2.1 l (a0O (wrap .u64 p.1) 4 L)
theorem c3m(h:PartsOk p n warm l zn)(i:L.length<700000000):b1G (wL L,p,n,warm,l)=some (0,wL (a4m p zn l L)):=by
 have e:=h.short;have j:=h.len;obtain⟨c,a,b⟩:=b9E h;have k:(c==0)=false:=by grind
 have d:=a0V (wrap .u64 p.1) 4 L;have f:a0G (wL L,wrap .u64 p.1,(4:Int))=some (a8e (wrap .u64 p.1) 4,wL (a0O (wrap .u64 p.1) 4 L)):=a3g (n:=4) (by omega) (by omega);have g:=b5h h.ks h.all h.len zn.length 0 l (a0O (wrap .u64 p.1) 4 L) (by omega) (by rw[a31];exact h.sum) h.wide h.short (by omega);simp at g;unfold b1G;simp only[a,oB,k,cF,f,a1V,h.sizes,a1u,g,a4m]
theorem b9F{c:List Int}{wd:Nat}(k:wd≤32)(g:c.length<10000):∀(j i:Nat)(L:List Int),i+j=c.length→L.length+64*j<999990000→
  y0o a5Q ((wd:Int),c,(c.length:Int),(i:Int),wL L,())=some (wL (a1C wd (c.drop i) L),())
 |0,i,L,hi,_=>by
  obtain rfl:i=c.length:=by omega
  simp_all[a0E,a5Q,a1C]
 |j+1,i,L,hi,hb=>by
  have h:i<c.length:=by omega
  have f:=a0V (a0W c[i] wd) wd L;rw[a03 h,a0F (s':=((wd:Int),c,(c.length:Int),((i+1:Nat):Int),wL (a0O (a0W c[i] wd) wd L),())) (by
   simp only[a5Q,dlt h,cT,a0D h,oB,b3G (show wd≤63 by omega) (show L.length<999999000 by omega),a0B (show i<1000000 by omega)])]
  exact b9F k g j (i+1) _ (by omega) (by omega)
theorem c1I{t:List Int}{n wd:Int}{s:Sub}(a:t.length=3):∀(j i:Nat)(L:List Int),i+j=3→L.length+64*j<999990000→
  y0o b0A (n,wd,t,(i:Int),wL L,s,())=some (n,wd,wL (a1C 8 (t.drop i) L),s,())
 |0,i,L,hi,_=>by
  obtain rfl:i=t.length:=by omega
  grind[a0E,b0A,a1C]
 |j+1,i,L,hi,hb=>by
  have h:i<t.length:=by omega
  have f:decide ((i:Int)<3)=true:=by grind
  have k:=a0V (a0W t[i] 8) 8 L;have g:a2F (wL L,t[i],(8:Int))=some (wL (a0O (a0W t[i] 8) 8 L)):=b3G (n:=8) (by omega) (by omega);rw[a03 h,a0F (s':=(n,wd,t,((i+1:Nat):Int),wL (a0O (a0W t[i] 8) 8 L),s,())) (by
   simp only[b0A,f,cT,a0D h,oB,g,a0B (show i<1000000 by omega)])]
  exact c1I a j (i+1) _ (by omega) (by omega)
theorem c1J{l:List Int}{n:Int}{wd:Nat}{s:Sub}(k:wd≤32)(g:l.length<10000):∀(j i:Nat)(L:List Int),i+j=l.length→L.length+64*j<999990000→
  y0o b0C (n,(wd:Int),l,(l.length:Int),(i:Int),wL L,s,())=some (n,wL (a1C wd (l.drop i) L),s,())
 |0,i,L,hi,_=>by
  obtain rfl:i=l.length:=by omega
  simp_all[a0E,b0C,a1C]
 |j+1,i,L,hi,hb=>by
  have h:i<l.length:=by omega
  have f:=a0V (a0W l[i] wd) wd L;rw[a03 h,a0F (s':=(n,(wd:Int),l,(l.length:Int),((i+1:Nat):Int),wL (a0O (a0W l[i] wd) wd L),s,())) (by
   simp only[b0C,dlt h,cT,a0D h,oB,b3G (show wd≤63 by omega) (show L.length<999999000 by omega),a0B (show i<1000000 by omega)])]
  exact c1J k g j (i+1) _ (by omega) (by omega)
def a6q(s:Stg)(L:List Int):List Int:=a0O (wrap .u64 s.2.1) 4 (a0O (wrap .u64 (wrap .i64 (s.1-1))) 5 L)
def a3j(st:List Stg)(L:List Int):List Int:=st.foldl (fun L s=>a6q s L) L
theorem b6A(s:Stg)(L:List Int):(a6q s L).length≤L.length+9:=by
 grind[a0V,a6q]
theorem b5i:∀(st:List Stg)(L:List Int),(a3j st L).length≤L.length+9*st.length
 | [],L=>by simp[a3j]
 |s::st,L=>by
  have h:=b6A s L;have g:=b5i st (a6q s L);have e:a3j (s::st) L=a3j st (a6q s L):=rfl
  grind
theorem b8j{st:List Stg}{n wd:Int}{s:Sub}(a:st.length<10000):∀(j i:Nat)(L:List Int),i+j=st.length→L.length+64*j<999990000→
  y0o b0B (n,wd,st,(st.length:Int),(i:Int),wL L,s,())=some (n,wd,wL (a3j (st.drop i) L),s,())
 |0,i,L,hi,_=>by
  obtain rfl:i=st.length:=by omega
  simp_all[a0E,b0B,a3j]
 |j+1,i,L,hi,hb=>by
  have h:i<st.length:=by omega
  have k:=a0V (wrap .u64 (wrap .i64 (st[i].1-1))) 5 L;have b:=b6A st[i] L;have g:a0G (wL L,wrap .u64 (wrap .i64 (st[i].1-1)),(5:Int))=some (a8e (wrap .u64 (wrap .i64 (st[i].1-1))) 5,wL (a0O (wrap .u64 (wrap .i64 (st[i].1-1))) 5 L)):=a3g (n:=5) (by omega) (by omega);have f:a0G (wL (a0O (wrap .u64 (wrap .i64 (st[i].1-1))) 5 L),wrap .u64 st[i].2.1,(4:Int))=some (a8e (wrap .u64 st[i].2.1) 4,wL (a6q st[i] L)):=a3g (n:=4) (by omega) (by omega);rw[a03 h,a0F (s':=(n,wd,st,(st.length:Int),((i+1:Nat):Int),wL (a6q st[i] L),s,())) (by
   simp only[b0B,dlt h,cT,a0D h,oB,g,f,a0B (show i<1000000 by omega)])]
  exact b8j a j (i+1) _ (by omega) (by omega)
def a6r(s:Sub)(L:List Int):List Int:=
 a1C (a0I s.2.2.2.2.2.1) s.2.2.2.2.2.1 (a0O ((a0I s.2.2.2.2.2.1:Nat):Int) 5 (a0O (wrap .u64 s.2.2.2.1) 4 (a0O (wrap .u64 (wrap .i64 (((s.2.2.2.2.2.1.length:Nat):Int)-1))) 5 L)))
theorem c2y{s:Sub}(h:s.2.2.2.2.2.1.length≤40)(L:List Int):(a6r s L).length≤L.length+2000:=by
 unfold a6r;have f:=a0V (wrap .u64 (wrap .i64 (((s.2.2.2.2.2.1.length:Nat):Int)-1))) 5 L;have k:=a0V (wrap .u64 s.2.2.2.1) 4 (a0O (wrap .u64 (wrap .i64 (((s.2.2.2.2.2.1.length:Nat):Int)-1))) 5 L);have a:=a0V ((a0I s.2.2.2.2.2.1:Nat):Int) 5 (a0O (wrap .u64 s.2.2.2.1) 4 (a0O (wrap .u64 (wrap .i64 (((s.2.2.2.2.2.1.length:Nat):Int)-1))) 5 L));have b:=a6o (a0I s.2.2.2.2.2.1) s.2.2.2.2.2.1 (a0O ((a0I s.2.2.2.2.2.1:Nat):Int) 5 (a0O (wrap .u64 s.2.2.2.1) 4 (a0O (wrap .u64 (wrap .i64 (((s.2.2.2.2.2.1.length:Nat):Int)-1))) 5 L)));have g:=a6u s.2.2.2.2.2.1
 have:a0I s.2.2.2.2.2.1*s.2.2.2.2.2.1.length≤32*40:=a70 g h
 omega
theorem b8k(h:s.2.2.2.2.2.1.length≤40)(l:L.length<900000000):a8r (wL L,s)=some (wL (a6r s L)):=by
 have e:=a0V (wrap .u64 (wrap .i64 (((s.2.2.2.2.2.1.length:Nat):Int)-1))) 5 L;have i:=a0V (wrap .u64 s.2.2.2.1) 4 (a0O (wrap .u64 (wrap .i64 (((s.2.2.2.2.2.1.length:Nat):Int)-1))) 5 L);have j:=a0V ((a0I s.2.2.2.2.2.1:Nat):Int) 5 (a0O (wrap .u64 s.2.2.2.1) 4 (a0O (wrap .u64 (wrap .i64 (((s.2.2.2.2.2.1.length:Nat):Int)-1))) 5 L));have k:=a6u s.2.2.2.2.2.1;have f:wrap .u64 ((a0I s.2.2.2.2.2.1:Nat):Int)=((a0I s.2.2.2.2.2.1:Nat):Int):=a0L (by omega);have a:a0G (wL L,wrap .u64 (wrap .i64 (((s.2.2.2.2.2.1.length:Nat):Int)-1)),(5:Int))=some (a8e (wrap .u64 (wrap .i64 (((s.2.2.2.2.2.1.length:Nat):Int)-1))) 5,wL (a0O (wrap .u64 (wrap .i64 (((s.2.2.2.2.2.1.length:Nat):Int)-1))) 5 L)):=a3g (n:=5) (by omega) (by omega);have b:a0G (wL (a0O (wrap .u64 (wrap .i64 (((s.2.2.2.2.2.1.length:Nat):Int)-1))) 5 L),wrap .u64 s.2.2.2.1,(4:Int))=some (a8e (wrap .u64 s.2.2.2.1) 4,wL (a0O (wrap .u64 s.2.2.2.1) 4 (a0O (wrap .u64 (wrap .i64 (((s.2.2.2.2.2.1.length:Nat):Int)-1))) 5 L))):=a3g (n:=4) (by omega) (by omega);have d:a0G (wL (a0O (wrap .u64 s.2.2.2.1) 4 (a0O (wrap .u64 (wrap .i64 (((s.2.2.2.2.2.1.length:Nat):Int)-1))) 5 L)),((a0I s.2.2.2.2.2.1:Nat):Int),(5:Int))=some (a8e ((a0I s.2.2.2.2.2.1:Nat):Int) 5,wL (a0O ((a0I s.2.2.2.2.2.1:Nat):Int) 5 (a0O (wrap .u64 s.2.2.2.1) 4 (a0O (wrap .u64 (wrap .i64 (((s.2.2.2.2.2.1.length:Nat):Int)-1))) 5 L)))):=a3g (n:=5) (by omega) (by omega);have g:=b9F (c:=s.2.2.2.2.2.1) k (by omega) s.2.2.2.2.2.1.length 0 (a0O ((a0I s.2.2.2.2.2.1:Nat):Int) 5 (a0O (wrap .u64 s.2.2.2.1) 4 (a0O (wrap .u64 (wrap .i64 (((s.2.2.2.2.2.1.length:Nat):Int)-1))) 5 L))) (by omega) (by omega);simp at g;unfold a8r;simp only[a,b,a2i (show short s.2.2.2.2.2.1 by unfold short;omega),f,d,g,oB,a6r]
def b1V(s:Sub)(L:List Int):List Int:=
 a0O ((a0I s.2.2.2.2.2.2.2.2.1:Nat):Int) 5 (a0O (wrap .u64 s.2.1) 5 (a0O (wrap .u64 s.1) 3 L))
def a2r(s:Sub)(L:List Int):List Int:=
 if s.1=2 then a0O (wrap .u64 s.2.2.1) 3 L
 else if s.1=3 then a6r s L
 else if s.1=4 then a6r s (a1C 8 s.2.2.2.2.2.2.1 (a0O (wrap .u64 (wrap .i64 (s.2.2.2.2.1-1))) 10 L))
 else if s.1=5 then a3j s.2.2.2.2.2.2.2.1 (a0O (wrap .u64 ((s.2.2.2.2.2.2.2.1.length:Nat):Int)) 2 L)
 else L
theorem c3n(h:SmallS s)(L:List Int):(a2r s L).length≤L.length+3000:=by
 have f:=h.coefs;have k:=h.taps;have g:=h.stages
 grind[a2r,a0V,c2y,a6o,b5i]
theorem b6B:∀(zs:List Nat)(ks l L:List Int),ks.all kB=true→(a4K zs ks l L).length≤L.length+10*zs.length+100*l.length
 |z::zs,k::ks,l,L,h=>by
  simp only[a07,bA]at h;have g:=b7g h.1 (l.take z) L;have f:=b6B zs ks (l.drop z) (a9y k (l.take z) L) h.2;rw[a90]at g;rw[a52]at f;simp only[a4K,lC];omega
 | [],_,_,_,_=>by simp_all[a4K]
 |_::_,[],_,_,_=>by grind[a4K]
def a5g(s:Sub)(zn:List Nat)(L:List Int):List Int:=
 if s.1=0∨s.1=1 then a1C (a0I s.2.2.2.2.2.2.2.2.1) s.2.2.2.2.2.2.2.2.1 (a2r s (b1V s L))
 else a4m s.2.2.2.2.2.2.2.2.2.1 zn s.2.2.2.2.2.2.2.2.2.2.1 (a1C (a0I s.2.2.2.2.2.2.2.2.1) s.2.2.2.2.2.2.2.2.1 (a2r s (b1V s L)))
theorem b5E(h:SmallS s)(R:L.length<100000000):
  ∃(e:Int)(L':List Int),a9J (wL L,s,n)=some (e,wL L')∧(e=0∨L'=L)∧L'.length≤L.length+700000∧
   ((a2f s n).isSome=true→e=0∧∃a,L'=a5g s a L∧(s.1≠0∧s.1≠1→PartsOk s.2.2.2.2.2.2.2.2.2.1 n ((s.2.2.2.2.2.2.2.2.1.length:Nat):Int) s.2.2.2.2.2.2.2.2.2.2.1 a))∧((a2f s n).isSome=false→e=1∧L'=L):=by
 unfold a9J;simp only[b9B h,oB];cases hs:(a2f s n).isSome with
 |false=>exact⟨1,L,rfl,.inr rfl,by omega,fun h=>(by grind),fun _=>⟨rfl,rfl⟩⟩
 |true=>
  have hp:a1s s n:=by
   grind[a2f]
  obtain⟨P,Q,z,-,-,-,-,u,D,A,-,o⟩:=hp;have b:=c6R z;have m:=a6u s.2.2.2.2.2.2.2.2.1;have r:short s.2.2.2.2.2.2.2.2.1:=by have:=h.warm;unfold short;omega
  have c:=h.warm;have q:=h.rest;have B:=h.stages;have C:=h.taps;have q1:=a0V (wrap .u64 s.1) 3 L;have S:=a0V (wrap .u64 s.2.1) 5 (a0O (wrap .u64 s.1) 3 L);have T:=a0V ((a0I s.2.2.2.2.2.2.2.2.1:Nat):Int) 5 (a0O (wrap .u64 s.2.1) 5 (a0O (wrap .u64 s.1) 3 L));have y:wrap .u64 ((a0I s.2.2.2.2.2.2.2.2.1:Nat):Int)=((a0I s.2.2.2.2.2.2.2.2.1:Nat):Int):=a0L (by omega);have H:a0G (wL L,wrap .u64 s.1,(3:Int))=some (a8e (wrap .u64 s.1) 3,wL (a0O (wrap .u64 s.1) 3 L)):=a3g (n:=3) (by omega) (by omega);have I:a0G (wL (a0O (wrap .u64 s.1) 3 L),wrap .u64 s.2.1,(5:Int))=some (a8e (wrap .u64 s.2.1) 5,wL (a0O (wrap .u64 s.2.1) 5 (a0O (wrap .u64 s.1) 3 L))):=a3g (n:=5) (by omega) (by omega);have v:a0G (wL (a0O (wrap .u64 s.2.1) 5 (a0O (wrap .u64 s.1) 3 L)),((a0I s.2.2.2.2.2.2.2.2.1:Nat):Int),(5:Int))=some (a8e ((a0I s.2.2.2.2.2.2.2.2.1:Nat):Int) 5,wL (b1V s L)):=a3g (n:=5) (by omega) (by omega);have K:(b1V s L).length≤L.length+13:=by unfold b1V;omega
  generalize hM:b1V s L=M at v K;have U:=c3n h M;have N:=a6o (a0I s.2.2.2.2.2.2.2.2.1) s.2.2.2.2.2.2.2.2.1 (a2r s M);have V:a0I s.2.2.2.2.2.2.2.2.1*s.2.2.2.2.2.2.2.2.1.length≤32*5000:=a70 m c;have g:=c1J (l:=s.2.2.2.2.2.2.2.2.1) (n:=n) (s:=s) m (by omega) s.2.2.2.2.2.2.2.2.1.length 0 (a2r s M) (by omega) (by omega);simp at g

  have i:=b8j (st:=s.2.2.2.2.2.2.2.1) (n:=n) (wd:=((a0I s.2.2.2.2.2.2.2.2.1:Nat):Int)) (s:=s) (by omega) s.2.2.2.2.2.2.2.1.length 0 (a0O (wrap .u64 ((s.2.2.2.2.2.2.2.1.length:Nat):Int)) 2 M) (by omega) (by grind[a0V]);have X:=a0V (wrap .u64 (wrap .i64 (s.2.2.2.2.1-1))) 10 M;have Y:=a6o 8 s.2.2.2.2.2.2.1 (a0O (wrap .u64 (wrap .i64 (s.2.2.2.2.1-1))) 10 M);have j:=c1I (t:=s.2.2.2.2.2.2.1) (n:=n) (wd:=((a0I s.2.2.2.2.2.2.2.2.1:Nat):Int)) (s:=s) C 3 0 (a0O (wrap .u64 (wrap .i64 (s.2.2.2.2.1-1))) 10 M) (by rfl) (by omega);simp at i j;have E:a0G (wL M,wrap .u64 s.2.2.1,(3:Int))=some (a8e (wrap .u64 s.2.2.1) 3,wL (a0O (wrap .u64 s.2.2.1) 3 M)):=a3g (n:=3) (by omega) (by omega);have F:a0G (wL M,wrap .u64 (wrap .i64 (s.2.2.2.2.1-1)),(10:Int))=some (a8e (wrap .u64 (wrap .i64 (s.2.2.2.2.1-1))) 10,wL (a0O (wrap .u64 (wrap .i64 (s.2.2.2.2.1-1))) 10 M)):=a3g (n:=10) (by omega) (by omega);have G:a0G (wL M,wrap .u64 ((s.2.2.2.2.2.2.2.1.length:Nat):Int),(2:Int))=some (a8e (wrap .u64 ((s.2.2.2.2.2.2.2.1.length:Nat):Int)) 2,wL (a0O (wrap .u64 ((s.2.2.2.2.2.2.2.1.length:Nat):Int)) 2 M)):=a3g (n:=2) (by omega) (by omega);have w:=b8k (s:=s) h.coefs (L:=M) (by omega);have x:=b8k (s:=s) h.coefs (L:=a1C 8 s.2.2.2.2.2.2.1 (a0O (wrap .u64 (wrap .i64 (s.2.2.2.2.1-1))) 10 M)) (by omega);simp only[bT,cF,a2i r,oB,H,I,y,v];generalize hPM:a1C (a0I s.2.2.2.2.2.2.2.2.1) s.2.2.2.2.2.2.2.2.1 (a2r s M)=PM at g N

  have tail:∀(d:s.1≠0∧s.1≠1),∃a,PartsOk s.2.2.2.2.2.2.2.2.2.1 n ((s.2.2.2.2.2.2.2.2.1.length:Nat):Int) s.2.2.2.2.2.2.2.2.2.2.1 a:=fun d=>by
   simp_all[PartsOk.of]
  rcases b with k|k|k|k|k|k;have f:a2r s M=M:=by unfold a2r;grind
  rw[f]at g;refine⟨0,PM,?_,.inl rfl,by omega,fun _=>⟨rfl,[],by simp_all[a5g],fun h=>absurd k (by omega)⟩,fun h=>by grind⟩;simp only[k,show((0:Int)==2)=false from rfl,show((0:Int)==4)=false from rfl,show((0:Int)==3)=false from rfl,show((0:Int)==5)=false from rfl,cF,oB,g,a6t]
  simp
  have f:a2r s M=M:=by unfold a2r;grind
  rw[f]at g;refine⟨0,PM,?_,.inl rfl,by omega,fun _=>⟨rfl,[],by simp_all[a5g],fun h=>absurd k (by omega)⟩,fun h=>by grind⟩;simp only[k,show((1:Int)==2)=false from rfl,show((1:Int)==4)=false from rfl,show((1:Int)==3)=false from rfl,show((1:Int)==5)=false from rfl,cF,oB,g,a6t]
  simp
  all_goals
   obtain⟨a,p⟩:=tail (by omega);have Z:=c3m (L:=PM) p (by omega);have O:(a4m s.2.2.2.2.2.2.2.2.2.1 a s.2.2.2.2.2.2.2.2.2.2.1 PM).length≤L.length+700000:=by
    have z1:=a0V (wrap .u64 s.2.2.2.2.2.2.2.2.2.1.1) 4 PM;have z2:=b6B a s.2.2.2.2.2.2.2.2.2.1.2.1 s.2.2.2.2.2.2.2.2.2.2.1 (a0O (wrap .u64 s.2.2.2.2.2.2.2.2.2.1.1) 4 PM) p.all;have z3:=p.len
    grind[a4m]
   refine⟨0,a4m s.2.2.2.2.2.2.2.2.2.1 a s.2.2.2.2.2.2.2.2.2.2.1 PM,?_,.inl rfl,O,fun _=>⟨rfl,a,by simp_all[a5g],fun _=>p⟩,fun h=>by grind⟩
  have f:a2r s M=a0O (wrap .u64 s.2.2.1) 3 M:=by unfold a2r;grind
  rw[f]at g;simp only[k,show((2:Int)==2)=true from rfl,cT,E,oB,g,a6t]
  grind
  have f:a2r s M=a6r s M:=by unfold a2r;grind
  rw[f]at g;simp only[k,show((3:Int)==2)=false from rfl,show((3:Int)==4)=false from rfl,show((3:Int)==3)=true from rfl,cT,cF,w,oB,g,a6t]
  grind
  have f:a2r s M=a6r s (a1C 8 s.2.2.2.2.2.2.1 (a0O (wrap .u64 (wrap .i64 (s.2.2.2.2.1-1))) 10 M)):=by unfold a2r;grind
  rw[f]at g;simp only[k,show((4:Int)==2)=false from rfl,show((4:Int)==4)=true from rfl,cT,cF,F,j,x,oB,g,a6t]
  grind
  have f:a2r s M=a3j s.2.2.2.2.2.2.2.1 (a0O (wrap .u64 ((s.2.2.2.2.2.2.2.1.length:Nat):Int)) 2 M):=by unfold a2r;grind
  rw[f]at g;simp only[k,show((5:Int)==2)=false from rfl,show((5:Int)==4)=false from rfl,show((5:Int)==3)=false from rfl,show((5:Int)==5)=true from rfl,cT,cF,G,i,oB,g,a6t]
  grind
theorem b4J(h:List Nat):(a1o h).map a29=h:=by
 unfold a1o;rw[List.map_map]
 have:a29∘(fun(a:Nat)=>(a:Int))=id:=by rfl
 simp_all
def a2Z(s:Sub)(n:Int):Int:=
 if(a2f s n).isSome=true then(((a5g s ((a1F s.2.2.2.2.2.2.2.2.2.1.1 n ((s.2.2.2.2.2.2.2.2.1.length:Nat):Int)).map a29) []).length:Nat):Int)else 0
theorem c1n(h:s.1≠0∧s.1≠1→PartsOk s.2.2.2.2.2.2.2.2.2.1 n ((s.2.2.2.2.2.2.2.2.1.length:Nat):Int) s.2.2.2.2.2.2.2.2.2.2.1 zn)(L:List Int):
  a5g s zn L=a5g s ((a1F s.2.2.2.2.2.2.2.2.2.1.1 n ((s.2.2.2.2.2.2.2.2.1.length:Nat):Int)).map a29) L:=by
 by_cases hk:s.1=0∨s.1=1
 simp_all[a5g];rw[(h (not_or.1 hk)).sizes,b4J]
theorem b7A(h:SmallS s)(n:Int):a2G (s,n)=some (a2Z s n):=by
 obtain⟨e,f,g,-,-,k,c⟩:=b5E h (n:=n) (L:=[]) (by simp);have a:wL []=(([]:List Int),(0:Int),()):=rfl;rw[a]at g;obtain⟨d,-⟩:=a5K f;unfold a2G a2Z;simp[g,a8R];cases hs:(a2f s n).isSome with
 |false=>
  simp_all
 |true=>
  obtain⟨rfl,i,rfl,b⟩:=k hs;rw[if_pos rfl,←c1n b];simp_all
def dif:List Int→List Int
 |a::b::r=>W (b-a)::dif (b::r)
 |_=>[]
theorem a8J:∀l:List Int,(dif l).length=l.length-1
 | []=>rfl
 | [_]=>rfl
 |a::b::r=>by simp[dif,a8J (b::r)]
theorem c1o:∀(l:List Int)(i:Nat)(x y:Int),l[i]?=some x→l[i+1]?=some y→(dif l)[i]?=some (W (y-x))
 |a::b::r,0,x,y,h1,h2=>by simp at h1 h2;subst h1;subst h2;rfl
 |a::b::r,i+1,x,y,h1,h2=>by
  simp only[dif,List.getElem?_cons_succ]at h1 h2⊢;exact c1o (b::r) i x y h1 h2
 | [_],0,x,y,h1,h2=>by simp_all
 | [_],i+1,x,y,h1,h2=>by simp_all
 | [],i,x,y,h1,h2=>by simp_all
def a2g:Nat→List Int→List Int
 |0,l=>l
 |o+1,l=>dif (a2g o l)
theorem a5L(l:List Int):∀o,(a2g o l).length=l.length-o
 |0=>rfl
 |o+1=>by simp only[a2g,a8J,a5L l o];omega
theorem b5F{l:List Int}(h:short l)(o:Nat):short (a2g o l):=by
 have h:l.length<1000000:=h;show(a2g o l).length<1000000;rw[a5L];omega
def b1o(l:List Int)(i:Nat):List Int:=(dif l).take i++l.drop i
theorem b4K(h:i≤l.length-1):(b1o l i).length=l.length:=by
 grind[b1o,a8J]
theorem c1K{j:Nat}(h:i≤l.length-1)(g:i≤j):(b1o l i).getD j 0=l.getD j 0:=by
 simp_all[a8J,b1o,a58]
theorem c8e(h:i<l.length-1):(b1o l i).set i (W (l.getD (i+1) 0-l.getD i 0))=b1o l (i+1):=by
 have e:((dif l).take i).length=i:=by grind[a8J]
 have f:l[i]?=some l[i]:=lG (by omega);have k:l[i+1]?=some l[i+1]:=lG (by omega);have a:=c1o l i _ _ f k;have g:i<(dif l).length:=by grind
 simp only[b1o];rw[List.set_append,if_neg (by omega),e,Nat.sub_self,a03 (show i<l.length by omega),List.set_cons_zero,a37 g,aA]
 grind
theorem c5T{l:List Int}{o k:Int}(g:short l)(h:1≤l.length):y0o a5o ((0:Int),o,k,l,())=some (o,k,b1o l (l.length-1),()):=by
 have g:l.length<1000000:=g;have r:b1o l 0=l:=by rfl
 have:=a1B (f:=a5o) (fun i:Nat=>((i:Int),o,k,b1o l i,())) (l.length-1) (b:=(o,k,b1o l (l.length-1),()))
  (fun i hi=>by
   have d:wrap .i64 ((i:Int)+1)=((i+1:Nat):Int):=a0B (by omega);have c:=b4K (l:=l) (i:=i) (by omega);have a:decide (((i+1:Nat):Int)<((l.length:Nat):Int))=true:=by grind
   have e:decide ((0:Int)≤((i+1:Nat):Int))=true:=by rfl
   have m:decide ((0:Int)≤(i:Int))=true:=by simp
   have n:decide ((i:Int)<((l.length:Nat):Int))=true:=by grind
   have s:a29 ((i+1:Nat):Int)=i+1:=by rfl
   have t:a29 (i:Int)=i:=by rfl
   have st:=c8e (l:=l) (i:=i) (by omega);have p:=c1K (l:=l) (i:=i) (j:=i+1) (by omega) (by omega);have q:=c1K (l:=l) (i:=i) (j:=i) (by omega) (by omega);simp_all[a5o])
  (by
   have c:=b4K (l:=l) (i:=l.length-1) (by omega);have d:wrap .i64 (((l.length-1:Nat):Int)+1)=((l.length:Nat):Int):=by grind[a0C]
   have a:decide (((l.length:Nat):Int)<((l.length:Nat):Int))=false:=by simp
   simp_all[a5o])
 simp_all
theorem c6U{l:List Int}:(b1o l (l.length-1)).take (l.length-1)=dif l:=by
 simp_all[a66,a8J,b1o]
theorem b6C(y:o≤4)(x:o≤l.length)(g:short l)(r:l.all a0A=true):
  a4F (l,(o:Int))=some (bif (a2g o l).all a0A then(a2g o l,0)else([],6)):=by
 have q:l.length<1000000:=g;have h:=a1B (f:=a7J) (fun k:Nat=>((o:Int),(k:Int),a2g k l,())) o (b:=(a2g o l,()))
  (fun k v=>by
   have n:1≤(a2g k l).length:=by rw[a5L];omega
   have p:(a2g k l).length<1000000:=b5F g k;have j:decide ((k:Int)<(o:Int))=true:=by simp_all
   have w:=b4K (l:=a2g k l) (i:=(a2g k l).length-1) (by omega);have z:wrap .i64 ((((a2g k l).length:Nat):Int)-1)=(((a2g k l).length-1:Nat):Int):=by grind[a0C]
   have w2:wrap .i64 ((k:Int)+1)=((k+1:Nat):Int):=a0B (by omega);have s:decide ((0:Int)≤(((a2g k l).length-1:Nat):Int))=true:=by simp
   have t:decide ((((a2g k l).length-1:Nat):Int)≤(((a2g k l).length:Nat):Int))=true:=by simp
   have u:decide ((a2g k l).length-1≤(a2g k l).length)=true:=by simp
   simp_all[a2g,a7J,c5T,b5F,c6U])
  (by
   have j:decide ((o:Int)<(o:Int))=false:=by simp
   simp_all[a7J])
 have a:decide ((o:Int)<0)=false:=by simp
 have c:decide ((o:Int) > 4)=false:=by grind
 have d:decide (((l.length:Nat):Int)<(o:Int))=false:=by simp_all
 have e:lim l.length=true:=a0T (by omega);simp at h;have m:a2g 0 l=l:=rfl;rw[m]at h;unfold a4F;simp only[a,c,d,e,cF,cT,oB,a7k g,r,bT,h,a7k (b5F g o)]
 grind
def ex:Nat→(Nat→Int)→Nat→Int
 |0,f,i=>f i
 |o+1,f,i=>ex o f (i+1)-ex o f i
theorem b8O{l:List Int}(g:l.all a0A=true):∀(o i:Nat),i+o<l.length→(a2g o l)[i]?=some (W (ex o (fun j=>l.getD j 0) i))
 |0,i,h=>by
  simp_all[a2g,ex,b7d]
 |o+1,i,h=>by
  have f:=b8O g o i (by omega);have k:=b8O g o (i+1) (by omega);simp_all[a2g,ex,c1o,a8c]
theorem c6V(e:l.all a0A=true){j:Nat}(d:o≤4)(h:o+j<l.length):W (W (ex o (fun j=>l.getD j 0) j)+a6l o (l.take (o+j)))=l.getD (o+j) 0:=by
 have f:a0A (l.getD (o+j) 0)=true:=by
  simp_all
 have g:∀i:Nat,1≤i→i≤o→atB (l.take (o+j)) i=l.getD (o+j-i) 0:=fun i b c=>by
  simp[atB,a67 (a78 h),List.getElem?_take]
  grind
 have a:ex o (fun j=>l.getD j 0) j+a6l o (l.take (o+j))=l.getD (o+j) 0:=by
  have k:o=0∨o=1∨o=2∨o=3∨o=4:=by omega
  rcases k with rfl|rfl|rfl|rfl|rfl;simp[ex,a6l]
  all_goals grind[ex,a6l]
 have:W (W (ex o (fun j=>l.getD j 0) j)+a6l o (l.take (o+j)))=W (ex o (fun j=>l.getD j 0) j+a6l o (l.take (o+j))):=by
  simp_all[a8c]
 simp_all[b7d]
theorem c3o{l:List Int}(f:l.all a0A=true){o:Nat}(b:o≤4):∀(k j:Nat),o+j+k=l.length→a4f (a6l o) ((a2g o l).drop j) (l.take (o+j))=some l
 |0,j,h=>by
  rw[List.drop_of_length_le (by rw[a5L];omega),a66 (by omega)];rfl
 |k+1,j,h=>by
  have g:j<(a2g o l).length:=by rw[a5L];omega
  have a:=b8O f o j (by omega);rw[lG g]at a;have e:=Option.some.inj a;have c:l.getD (o+j) 0=l[o+j]:=by grind
  have st:=c6V f b (show o+j<l.length by omega);rw[c]at st;rw[a03 g,e];simp only[a4f,st,lA.1 f _ (a05 (show o+j<l.length by omega)),cT];have d:l.take (o+j)++[l[o+j]]=l.take (o+(j+1)):=by
   rw[show o+(j+1)=(o+j)+1 by rfl]
   simp
  rw[d];exact c3o f b k (j+1) (by omega)
theorem a7w{σ β:Type}{f:σ→Option (σ ⊕ β)}(I:Nat→σ→Prop)(Q:β→Prop)(n:Nat)(g:∀i s,i<n→I i s→∃s',f s=some (.inl s')∧I (i+1) s')
  (a:∀s,I n s→∃b,f s=some (.inr b)∧Q b):∀(k i:Nat)(s:σ),i+k=n→I i s→∃b,y0o f s=some b∧Q b
 |0,i,s,h,hi=>by
  obtain rfl:i=n:=by omega
  grind[a0E]
 |k+1,i,s,h,hi=>by
  obtain⟨s',c,d⟩:=g i s (by omega) hi;rw[a0F c];exact a7w I Q n g a k (i+1) s' (by omega) d
theorem b8l(y:Int):0≤wrap .u64 y∧wrap .u64 y<18446744073709551616:=by
 grind[wrap,IntKind.bits,IntKind.signed]
def b1W(n:Int)(x:Int):Bool:=a0A x&&!(a28 x (A0j .i64 1 n) != 0)
def b5G{β:Type}(n:Int)(bad:β)(out:List Int)(x:Int):List Int ⊕ β:=bif b1W n x then .inl (out++[A0k .i64 x n])else .inr bad
def b0S(n:Int)(l:List Int):Option (List Int):=bif l.all (b1W n)then some (l.map fun x=>A0k .i64 x n)else none
theorem b6D{β:Type}(n:Int)(h:β)(g:List Int→β):∀(l out:List Int),a8V g (a2J (b5G n h) l out)=match b0S n l with|some r=>g (out++r)|none=>h
 | [],out=>by grind[a2J,a8V,b0S]
 |x::l,out=>by
  simp only[a2J,b5G,b0S,a07];cases hx:b1W n x with
  |true=>
   simp only[cT,a51];rw[b6D n h g l _];simp only[b0S];cases l.all (b1W n)with
   |true=>simp
   |false=>rfl
  |false=>rfl
theorem c3p{o:Nat}(h:o≤30):A0j .i64 1 (o:Int)=((2^o:Nat):Int):=by
 have g:2^o≤2^30:=a06 (by omega) h
 have:=b8L (N:=1) (o:=o) (by omega) (by omega)
 simp_all
theorem b5j(d:o≤30)(m:l.length<100000):a7f (l,(o:Int))=some (a4X (b0S (o:Int) l)):=by
 have e:short l:=by unfold short;omega
 have g:¬ (o:Int)<0:=by omega
 have b:¬ (o:Int) > 30:=by omega
 have c:(A0j .i64 (1:Int) (o:Int)==0)=false:=by
  rw[c3p d]
  have:0<2^o:=a18 o
  grind
 unfold a7f;simp[g,b]
 have:=a1M (f:=a6H) l (fun i out=>((o:Int),l,(l.length:Int),(i:Int),out,())) (b5G (o:Int) (Sum.inr ((6:Int),([]:List Int),())))
  (fun i out=>out.length=i) (fun out=>Sum.inl (out,()))
  (fun i h out j=>by
   have k:i<1000000:=by omega
   simp only[a6H,dlt h,cT,a0D h,oB,b5b,b5G,b1W,g,c,decide_false,cF];cases hb:a0A l[i]with
   |true=>
    cases hb2:(a28 l[i] (A0j .i64 1 (o:Int)) != 0)with
    |false=>
     simp only[cT,bT,cF,oB,g,decide_false,a0S (show out.length+1<1000000 by omega),a0B k,a04,a30,hb2];simp_all
    |true=>
     simp
   |false=>
    simp)
  (fun out _=>by simp[a6H]) (a:=[]) rfl
 simp[b6D]at this;rw[this];cases b0S (o:Int) l<;>rfl
theorem b8P{o:Nat}(h:o≤30){x:Int}(k:b1W (o:Int) x=true):a0A (A0k .i64 x (o:Int))=true∧A0j .i64 (A0k .i64 x (o:Int)) (o:Int)=x∧a0A x=true:=by
 simp only[b1W,c3p h,bA,a34,bne_eq_false_iff_eq]at k;obtain⟨f,d⟩:=k;obtain⟨c,rfl⟩:=Int.dvd_of_tmod_eq_zero d;have g:=a1D.1 f;have e:min (a29 (o:Int)) (IntKind.bits .i64)=o:=by grind[IntKind.bits]
 have hp:(0:Int)<2^o:=Int.pow_pos (by omega);have b:((2^o:Nat):Int)=2^o:=by simp
 rw[b]at g f⊢;have a:A0k .i64 (2^o*c) (o:Int)=c:=by
  unfold A0k
  grind[a61]
 rw[a];refine⟨a1D.2 ?_,?_,f⟩;generalize (2:Int)^o=p at hp g;have i:p*c=(p-1)*c+c:=by grind
 by_cases hc:0≤c
 have:=a49 (show 0≤p-1 by omega) hc
 omega
 have:=a49 (show 0≤p-1 by omega) (show 0≤-c by omega)
 grind
 grind[A0j,a0C]
theorem d0J(h:o≤30)(f:b0S (o:Int) l=some d):d.all a0A=true∧d.length=l.length∧upO (o:Int) d=some l:=by
 unfold b0S at f;cases ha:l.all (b1W (o:Int))with
 |false=>simp_all
 |true=>
  rw[ha]at f;simp at f;subst f;have g:=lA.1 ha;refine⟨?_,by simp,?_⟩;simp_all[b8P];have a:(l.map fun x=>A0k .i64 x (o:Int)).all (fun x=>a0A x&&a0A (A0j .i64 x (o:Int)))=true:=by
   simp only[List.all_map];refine lA.2 fun x k=>?_
   obtain⟨c,e,i⟩:=b8P h (g x k);simp_all
  unfold upO;rw[a]
  simp
  have b:l.map ((fun x=>A0j .i64 x (o:Int))∘fun x=>A0k .i64 x (o:Int))=l.map id:=List.map_congr_left (fun x k=>(b8P h (g x k)).2.1);simp_all
theorem c5U{n warm:Int}(h:a6n n warm=true):(a1F 0 n warm).length≠0:=by
 have g:=h;simp[a6n]at g
 grind[a1F,b5d]
theorem c5V(h:-1048576≤x∧x≤1048575):v0o (v0n x (-1048576)) 1048575=x:=by
 unfold v0o v0n
 grind
theorem d3X(h:a0A x=true):-1048576≤A0k .i64 x ((10:Nat):Int)∧A0k .i64 x ((10:Nat):Int)≤1048575:=by
 have g:=a1D.1 h;have e:A0k .i64 x ((10:Nat):Int)=x / 1024:=by
  show a97 x 1024=_
  grind
 omega
theorem c1L{x:Int}(f:a0A x=true){a l:List Int}{n i:Int}:∀(k s:Nat),s+k=10→∃s':Nat,s'≤10∧y0o a3y (a,(s:Int),x,l,n,i,())=some (a,(s':Int),l,n,i,())
 |0,s,h=>by
  obtain rfl:s=10:=by omega
  have g:decide (((10:Nat):Int)<0)=false:=by rfl
  have d:=c5V (d3X f);refine⟨10,a23 _,a0E ?_⟩;simp_all[a3y,a2x]
 |k+1,s,h=>by
  have g:decide ((s:Int)<0)=false:=decide_eq_false (by omega);cases hc:(v0o (v0n (A0k .i64 x (s:Int)) (-1048576)) 1048575 != A0k .i64 x (s:Int))with
  |false=>exact⟨s,by omega,a0E (by simp only[a3y,g,cF,a2x,oB,hc])⟩
  |true=>
   obtain⟨s',b,c⟩:=c1L f (a:=a) (l:=l) (n:=n) (i:=i) k (s+1) (by omega);refine⟨s',b,?_⟩;rw[a0F (s':=(a,((s+1:Nat):Int),x,l,n,i,())) (by simp only[a3y,g,cF,a2x,oB,hc,cT,a0B (show s<1000000 by omega)])];omega
theorem c4B(v:l.all a0A=true)(z:l.length<100000):∃r,a7K l=some r∧r.length=l.length:=by
 obtain⟨b,x,s,y,u⟩:=a7w (f:=a5p) (fun i st=>∃s:Nat,s≤10∧st=(l,(s:Int),l,(l.length:Int),(i:Int),())) (fun b=>∃s:Nat,s≤10∧b=(l,(s:Int),())) l.length
  (fun i st hi h=>by
   obtain⟨s,p,rfl⟩:=h;obtain⟨s',g,e⟩:=c1L (lA.1 v _ (a05 hi)) (a:=l) (l:=l) (n:=(l.length:Int)) (i:=(i:Int)) (10-s) s (by omega);exact⟨_,by simp only[a5p,dlt hi,cT,a0D hi,oB,e,a0B (show i<1000000 by omega)]<;>rfl,s',g,rfl⟩)
  (fun st h=>by
   obtain⟨s,p,rfl⟩:=h;exact⟨_,by simp_all[a5p],s,p,rfl⟩) l.length 0 _ (by omega) ⟨0,by omega,rfl⟩
 subst u;obtain⟨c,w,o,q,t⟩:=a7w (f:=a5q) (fun i st=>∃o:List Int,st=((s:Int),l,(l.length:Int),(i:Int),o,())∧o.length=l.length) (fun b=>∃o:List Int,b=(o,())∧o.length=l.length) l.length
  (fun i st hi h=>by
   obtain⟨o,rfl,m⟩:=h;have k:decide ((s:Int)<0)=false:=decide_eq_false (by omega);have d:decide ((0:Int)≤(i:Int))=true:=by simp
   have j:decide ((i:Int)<((o.length:Nat):Int))=true:=decide_eq_true (by omega);exact⟨_,by simp only[a5q,dlt hi,cT,a0D hi,oB,k,cF,d,j,a04,a0B (show i<1000000 by omega)]<;>rfl,_,rfl,by grind⟩)
  (fun st h=>by
   obtain⟨o,rfl,m⟩:=h;exact⟨_,by simp_all[a5q],o,rfl,m⟩) l.length 0 _ (by omega) ⟨a00 l.length 0,rfl,by simp⟩
 subst q;refine⟨o,?_,t⟩;have k:decide ((0:Int)≤((l.length:Nat):Int))=true:=by simp
 have d:decide (((l.length:Nat):Int)≤((l.length:Nat):Int))=true:=by simp
 have j:lim l.length=true:=a0S (by omega);simp_all[a7K]
theorem b9G:∀(N:Nat)(num den:Int),den.toNat≤N→∃a b,y0o a3r (num,den,())=some (a,b,())
 |N,num,den,h=>by
  by_cases hd:den≥1099511627776
  ·have g:decide (den≥(1099511627776:Int))=true:=decide_eq_true hd;have e:A0k .i64 den 1=den / 2:=by
    show a97 den 2=_
    grind
   rw[a0F (s':=(A0k .i64 num 1,den / 2,())) (by simp_all[a3r])]
   match N with
   |0=>omega
   |N+1=>exact b9G N _ _ (by omega)
  have g:decide (den≥(1099511627776:Int))=false:=decide_eq_false hd;exact⟨num,den,a0E (by simp only[a3r,g,cF])⟩
theorem b9H{f g:List Int}(t:1≤m)(r:g.length=f.length)(s:f.length<100000)(q:m<1000):∃k,a4R (f,g,(m:Int))=some k:=by
 obtain⟨b,n,d,den,o⟩:=a7w (f:=a3q) (fun i st=>∃d den:Int,st=(f,g,d,den,((m+i:Nat):Int),())) (fun b=>∃d den:Int,b=(d,den,())) (f.length-m)
  (fun i st hi h=>by
   obtain⟨d,den,rfl⟩:=h;have j:m+i<f.length:=by omega
   have e:wrap .i64 (((m+i:Nat):Int)-1)=((m+i-1:Nat):Int):=by grind[a0C]
   exact⟨_,by simp only[a3q,dlt j,cT,a0D j,e,a0D (show m+i-1<g.length by omega),oB,a0B (show m+i<1000000 by omega)]<;>rfl,_,_,rfl⟩)
  (fun st h=>by
   obtain⟨d,den,rfl⟩:=h;have l:decide (((m+(f.length-m):Nat):Int)<((f.length:Nat):Int))=false:=decide_eq_false (by omega);exact⟨_,by simp only[a3q,l,cF]<;>rfl,_,_,rfl⟩) (f.length-m) 0 (f,g,0,0,(m:Int),()) (by omega) ⟨0,0,rfl⟩
 subst o;obtain⟨a,c,p⟩:=b9G den.toNat d den (a23 _);unfold a4R;simp[n,p];cases hc:(c==0)with
 |true=>simp
 |false=>
  simp
  cases decide ((A0j .i64 a 15).tmod c<0)<;>exact⟨_,rfl⟩
theorem c2z{f g:List Int}{order:Int}(x:1≤m)(r:g.length=f.length)(w:f.length<100000)(s:m<1000):
  ∃f' a:List Int,y0o a3d (order,(m:Int),k,((f.length:Nat):Int)-1,f,g,ks,())=some (order,(m:Int),f',a,ks,())∧f'.length=f.length∧a.length=f.length:=by
 obtain⟨b,t,f',a,u,v⟩:=a7w (f:=a3d) (fun i st=>∃f' a:List Int,st=(order,(m:Int),k,((f.length:Nat):Int)-1-(i:Int),f',a,ks,())∧f'.length=f.length∧a.length=f.length)
  (fun b=>∃f' a:List Int,b=(order,(m:Int),f',a,ks,())∧f'.length=f.length∧a.length=f.length) (f.length-m)
  (fun i st hi h=>by
   obtain⟨f',a,rfl,c,d⟩:=h;have j:decide (((f.length:Nat):Int)-1-(i:Int)≥(m:Int))=true:=decide_eq_true (by omega);have l:decide ((0:Int)≤((f.length:Nat):Int)-1-(i:Int))=true:=decide_eq_true (by omega);have n:decide (((f.length:Nat):Int)-1-(i:Int)<((f'.length:Nat):Int))=true:=decide_eq_true (by omega);have o:decide (((f.length:Nat):Int)-1-(i:Int)<((a.length:Nat):Int))=true:=decide_eq_true (by omega);have e:wrap .i64 (((f.length:Nat):Int)-1-(i:Int)-1)=((f.length:Nat):Int)-1-((i+1:Nat):Int):=by grind[a0C]
   have p:decide ((0:Int)≤((f.length:Nat):Int)-1-((i+1:Nat):Int))=true:=decide_eq_true (by omega);have q:decide (((f.length:Nat):Int)-1-((i+1:Nat):Int)<((a.length:Nat):Int))=true:=decide_eq_true (by omega);exact⟨_,by simp only[a3d,j,l,n,o,e,p,q,cT,a04,a2x,oB]<;>rfl,_,_,rfl,by simp_all,by simp_all⟩)
  (fun st h=>by
   obtain⟨f',a,rfl,c,d⟩:=h;have j:decide (((f.length:Nat):Int)-1-((f.length-m:Nat):Int)≥(m:Int))=false:=decide_eq_false (by omega);exact⟨_,by simp only[a3d,j,cF]<;>rfl,f',a,rfl,c,d⟩) (f.length-m) 0 _ (by omega) ⟨f,g,rfl,rfl,r⟩
 grind
theorem c3q{f g:List Int}(x:o≤32)(v:g.length=f.length)(w:f.length<100000):∃ks:List Int,y0o a3e ((o:Int),(1:Int),f,g,([]:List Int),())=some (ks,())∧ks.length=o:=by
 obtain⟨b,p,ks,t,u⟩:=a7w (f:=a3e) (fun i st=>∃f' a ks:List Int,st=((o:Int),((i+1:Nat):Int),f',a,ks,())∧f'.length=f.length∧a.length=f.length∧ks.length=i)
  (fun b=>∃ks:List Int,b=(ks,())∧ks.length=o) o
  (fun i st hi h=>by
   obtain⟨f',a,ks,rfl,j,l,q⟩:=h;have d:decide (((i+1:Nat):Int)≤(o:Int))=true:=decide_eq_true (by omega);obtain⟨k,n⟩:=b9H (f:=f') (g:=a) (m:=i+1) (by omega) (by omega) (by omega) (by omega);have e:wrap .i64 (((f'.length:Nat):Int)-1)=((f'.length:Nat):Int)-1:=a0C (by omega);obtain⟨r,s,p,t,u⟩:=c2z (f:=f') (g:=a) (ks:=ks++[k]) (m:=i+1) (order:=(o:Int)) (k:=k) (by omega) (by omega) (by omega) (by omega);have c:lim (ks.length+1)=true:=a0S (by omega);exact⟨_,by simp only[a3e,d,cT,n,oB,c,e,a09,p,a0B (show i+1<1000000 by omega)]<;>rfl,r,s,ks++[k],rfl,by omega,by omega,by grind⟩)
  (fun st h=>by
   obtain⟨f',a,ks,rfl,j,l,q⟩:=h;have d:decide (((o+1:Nat):Int)≤(o:Int))=false:=decide_eq_false (by omega);exact⟨_,by simp only[a3e,d,cF]<;>rfl,ks,rfl,q⟩) o 0 _ (by omega) ⟨f,g,[],rfl,rfl,v,rfl⟩
 simp_all
theorem c3r(h:l.all a0A=true)(t:l.length≤4096)(s:1≤o)(m:o≤32):∃ks:List Int,a6I (l,(o:Int))=some (ks,0)∧ks.length=o:=by
 have p:short l:=by unfold short;omega
 obtain⟨r,e,q⟩:=c4B h (by omega);have n:short r:=by unfold short;omega
 obtain⟨ks,i,j⟩:=c3q (f:=r) (g:=r) m rfl (by omega);have k:decide ((o:Int)<1)=false:=decide_eq_false (by omega);have a:decide ((o:Int) > 32)=false:=decide_eq_false (by omega);have b:decide (((l.length:Nat):Int) > 4096)=false:=decide_eq_false (by omega);have c:decide ((0:Int)≤(o:Int))=true:=by simp
 have d:lim o=true:=a0S (by omega);refine⟨ks,?_,j⟩;unfold a6I;simp only[k,a,b,c,d,cF,cT,oB,a5X p,h,bT,e,a8d n,tN,a04,i]
theorem b3I{σ β:Type}{f:σ→Option (σ ⊕ β)}(I:Nat→σ→Prop)(Q:β→Prop)(n:Nat)(g:∀i s,i<n→I i s→(∃s',f s=some (.inl s')∧I (i+1) s')∨(∃b,f s=some (.inr b)∧Q b))
  (a:∀s,I n s→∃b,f s=some (.inr b)∧Q b):∀(k i:Nat)(s:σ),i+k=n→I i s→∃b,y0o f s=some b∧Q b
 |0,i,s,h,hi=>by
  obtain rfl:i=n:=by omega
  grind[a0E]
 |k+1,i,s,h,hi=>by
  rcases g i s (by omega) hi with⟨s',c,d⟩|⟨b,c,d⟩;rw[a0F c];exact b3I I Q n g a k (i+1) s' (by omega) d;simp_all[a0E]
theorem c4C(g:ks.length≤32):∃b,y0o a2a (ks,ks,(ks.length:Int),(0:Int),())=some b∧(b=.inl (ks,())∨b=.inr (([]:List Int),(1:Int),())):=
 b3I (f:=a2a) (fun i s=>s=(ks,ks,(ks.length:Int),(i:Int),())) (fun b=>b=.inl (ks,())∨b=.inr (([]:List Int),(1:Int),())) ks.length
  (fun i s hi h=>by
   subst h;cases h1:decide (ks[i]<(-16383:Int))with
   |true=>exact Or.inr ⟨_,by simp_all[a2a,a0D],Or.inr rfl⟩
   |false=>
    cases h2:decide (ks[i] > (16383:Int))with
    |true=>exact Or.inr ⟨_,by simp_all[a2a,a0D],Or.inr rfl⟩
    |false=>exact Or.inl ⟨_,by simp only[a2a,dlt hi,cT,cF,a0D hi,oB,h1,h2,a0B (show i<1000000 by omega)]<;>rfl,rfl⟩)
  (fun s h=>by
   subst h;exact⟨_,by simp_all[a2a],Or.inl rfl⟩) ks.length 0 _ (by omega) rfl
theorem c4D{c a:List Int}(t:c.length=i)(hi:i≤32):
  ∃g:List Int,y0o a3Z (c,(i:Int),k,a,n,(i:Int),c,(c.length:Int),(0:Int),([]:List Int),())=some (k,a,n,(i:Int),g,())∧g.length=i:=by
 obtain⟨b,p,g,q,r⟩:=a7w (f:=a3Z) (fun j s=>∃g:List Int,s=(c,(i:Int),k,a,n,(i:Int),c,(c.length:Int),(j:Int),g,())∧g.length=j)
  (fun b=>∃g:List Int,b=(k,a,n,(i:Int),g,())∧g.length=c.length) c.length
  (fun j s e h=>by
   obtain⟨g,rfl,l⟩:=h;have m:wrap .i64 ((i:Int)-1)=(i:Int)-1:=a0C (by omega);have o:wrap .i64 ((i:Int)-1-(j:Int))=((i-1-j:Nat):Int):=by grind[a0C]
   have d:lim (g.length+1)=true:=a0S (by omega);exact⟨_,by simp only[a3Z,dlt e,cT,a0D e,oB,m,o,a0D (show i-1-j<c.length by omega),d,a0B (show j<1000000 by omega),a09]<;>rfl,_,rfl,by grind⟩)
  (fun s h=>by
   obtain⟨g,rfl,l⟩:=h;exact⟨_,by simp_all[a3Z],g,rfl,l⟩) c.length 0 _ (by omega) ⟨[],rfl,rfl⟩
 simp_all
theorem c5W(A:1≤ks.length)(v:ks.length≤32):∃c e,a8z ks=some (c,e)∧(e=0→c.length=ks.length):=by
 obtain⟨b,o,p⟩:=c4C v;have d:decide (((ks.length:Nat):Int)<1)=false:=decide_eq_false (by omega);have j:decide (((ks.length:Nat):Int) > 32)=false:=decide_eq_false (by omega);unfold a8z;simp[d,j,o];rcases p with rfl|rfl;obtain⟨r,q,c,t,u⟩:=a7w (f:=a5T) (fun i s=>∃c:List Int,s=(c,ks,(ks.length:Int),(i:Int),())∧c.length=i) (fun r=>∃c:List Int,r=(c,())∧c.length=ks.length) ks.length
  (fun i s hi h=>by
   obtain⟨c,rfl,g⟩:=h;have m:wrap .i64 ((i:Int)+1)=((i+1:Nat):Int):=a0B (by omega);have l:decide ((0:Int)≤((i+1:Nat):Int))=true:=by rfl
   have w:lim (i+1)=true:=a0S (by omega);obtain⟨z,y,B⟩:=c4D (c:=c) (a:=ks) (i:=i) (k:=ks[i]) (n:=(ks.length:Int)) g (by omega);have x:lim (z.length+1)=true:=a0S (by omega);exact⟨_,by simp only[a5T,dlt hi,cT,a0D hi,oB,m,l,tN,w,a04,y,x,a09]<;>rfl,_,rfl,by grind⟩)
  (fun s h=>by
   obtain⟨c,rfl,g⟩:=h;exact⟨_,by simp_all[a5T],c,rfl,g⟩) ks.length 0 _ (by omega) ⟨[],rfl,rfl⟩
 subst t;simp at q;exact⟨c,0,by simp_all,fun _=>u⟩
 grind
theorem c4E{c:List Int}{s:Nat}{half:Int}(m:c.length≤32)(d:w≤32):
  ∃out:List Int,y0o a2c (c,(w:Int),(s:Int),half,c,(c.length:Int),(0:Int),([]:List Int),())=some (c,(w:Int),(s:Int),out,()):=by
 obtain⟨b,i,out,l⟩:=b3I (f:=a2c) (fun j st=>∃out:List Int,st=(c,(w:Int),(s:Int),half,c,(c.length:Int),(j:Int),out,())∧out.length=j)
  (fun b=>∃out:List Int,b=(c,(w:Int),(s:Int),out,())) c.length
  (fun j st k h=>by
   obtain⟨out,rfl,e⟩:=h;have a:decide ((s:Int)<0)=false:=decide_eq_false (by omega);have g:lim (out.length+1)=true:=a0S (by omega);cases hf:a1i (A0k .i64 (wrap .i64 (c[j]+half)) (s:Int)) (w:Int)with
   |true=>exact Or.inl ⟨_,by simp only[a2c,dlt k,cT,a0D k,oB,a,cF,a6p d,hf,bT,g,a0B (show j<1000000 by omega),a09]<;>rfl,_,rfl,by grind⟩
   |false=>exact Or.inr ⟨_,by simp only[a2c,dlt k,cT,a0D k,oB,a,cF,a6p d,hf,a30]<;>rfl,out,rfl⟩)
  (fun st h=>by
   obtain⟨out,rfl,e⟩:=h;exact⟨_,by simp_all[a2c],out,rfl⟩) c.length 0 _ (by omega) ⟨[],rfl,rfl⟩
 simp_all
theorem c4F{c:List Int}{w:Int}(g:c.length≤32):∃b,y0o a2b (c,w,c,(c.length:Int),(0:Int),())=some b∧(b=.inl (c,w,())∨b=.inr ((0:Int),(1:Int),([]:List Int),())):=
 b3I (f:=a2b) (fun i s=>s=(c,w,c,(c.length:Int),(i:Int),())) (fun b=>b=.inl (c,w,())∨b=.inr ((0:Int),(1:Int),([]:List Int),())) c.length
  (fun i s hi h=>by
   subst h;cases h1:decide (c[i]<(-35184372088832:Int))with
   |true=>exact Or.inr ⟨_,by simp_all[a2b,a0D],Or.inr rfl⟩
   |false=>
    cases h2:decide (c[i] > (35184372088832:Int))with
    |true=>exact Or.inr ⟨_,by simp_all[a2b,a0D],Or.inr rfl⟩
    |false=>exact Or.inl ⟨_,by simp only[a2b,dlt hi,cT,cF,a0D hi,oB,h1,h2,a0B (show i<1000000 by omega)]<;>rfl,rfl⟩)
  (fun s h=>by
   subst h;exact⟨_,by simp_all[a2b],Or.inl rfl⟩) c.length 0 _ (by omega) rfl
theorem c5X{c:List Int}(A:1≤c.length)(p:c.length≤32)(C:2≤w∧w≤16):∃o sh e,a8A (c,(w:Int))=some (o,sh,e)∧(e=0→o.length=c.length):=by
 obtain⟨b,x,y⟩:=c4F (w:=(w:Int)) p;have q:decide (((c.length:Nat):Int)<1)=false:=decide_eq_false (by omega);have t:decide (((c.length:Nat):Int) > 32)=false:=decide_eq_false (by omega);have u:decide ((w:Int)<2)=false:=decide_eq_false (by omega);have v:decide ((w:Int) > 16)=false:=decide_eq_false (by omega);unfold a8A;simp[q,t,u,v,x];rcases y with rfl|rfl
 ·obtain⟨r,B,z⟩:=b3I (f:=a2R) (fun i s=>s=(c,(w:Int),(i:Int),())) (fun r=>r=.inl ()∨∃(sh:Int)(o:List Int),r=.inr (sh,(0:Int),o,())∧o.length=c.length) 15
   (fun i s hi h=>by
    subst h;have d:decide ((i:Int)≤14)=true:=decide_eq_true (by omega);have j:decide ((0:Int)≤((c.length:Nat):Int))=true:=by simp
    have l:lim c.length=true:=a0S (by omega);have k:∀g:Int,∃o:List Int,y0o a2c (c,(w:Int),(i:Int),g,c,(c.length:Int),(0:Int),([]:List Int),())=some (c,(w:Int),(i:Int),o,()):=fun g=>c4E p (by omega)
    by_cases hp:(i:Int) > 0
    ·have n:wrap .i64 ((i:Int)-1)=(i:Int)-1:=a0C (by omega);have m:decide ((i:Int)-1<0)=false:=decide_eq_false (by omega);obtain⟨o,a⟩:=k (A0j .i64 1 ((i:Int)-1));cases hc:((((o.length:Nat):Int))==((c.length:Nat):Int))with
     |true=>exact Or.inr ⟨_,by simp only[a2R,d,cT,hp,decide_true,n,m,cF,oB,j,tN,l,a04,a,hc]<;>rfl,Or.inr ⟨_,o,rfl,by grind⟩⟩
     |false=>exact Or.inl ⟨_,by simp only[a2R,d,cT,hp,decide_true,n,m,cF,oB,j,tN,l,a04,a,hc,a0B (show i<1000000 by omega)]<;>rfl,rfl⟩
    ·obtain⟨o,a⟩:=k 0;cases hc:((((o.length:Nat):Int))==((c.length:Nat):Int))with
     |true=>exact Or.inr ⟨_,by simp only[a2R,d,cT,hp,decide_false,cF,oB,j,tN,l,a04,a,hc]<;>rfl,Or.inr ⟨_,o,rfl,by grind⟩⟩
     |false=>exact Or.inl ⟨_,by simp only[a2R,d,cT,hp,decide_false,cF,oB,j,tN,l,a04,a,hc,a0B (show i<1000000 by omega)]<;>rfl,rfl⟩)
   (fun s h=>by
    subst h;have d:decide (((15:Nat):Int)≤14)=false:=by rfl
    exact⟨_,by rfl,Or.inl rfl⟩) 15 0 (c,(w:Int),(0:Int),()) (by rfl) rfl
  rcases z with rfl|⟨sh,o,rfl,a⟩;exact⟨[],0,6,by simp_all,fun h=>absurd h (by simp)⟩;exact⟨o,sh,0,by simp_all,fun _=>a⟩
 grind
theorem c6W(j:l.all a0A=true)(d:l.length≤4096)(k:1≤o)(a:o≤32)(b:2≤w∧w≤16):∃c sh e,a3U (l,(o:Int),(w:Int))=some (c,sh,e)∧(e=0→c.length=o):=by
 obtain⟨ks,g,n⟩:=c3r j d k a;obtain⟨c,e,f,p⟩:=c5W (ks:=ks) (by omega) (by omega);unfold a3U;simp[g,f]
 by_cases he:e=0
 subst he;obtain⟨s,sh,m,q,r⟩:=c5X (c:=c) (w:=w) (by omega) (by omega) b
 grind
 have i:(e != 0)=true:=by simp_all
 exact⟨[],0,e,by grind,fun h=>absurd h he⟩
theorem c5Y(a:l.length<100000)(c:o≤4):∃v,a9t (l,(o:Int))=some v:=by
 obtain⟨b,g,v,k⟩:=a7w (f:=a4G) (fun i s=>∃v:Int,s=((o:Int),v,l,(l.length:Int),(i:Int),())) (fun b=>∃v:Int,b=(v,())) l.length
  (fun i s hi h=>by
   obtain⟨v,rfl⟩:=h;cases hc:decide (wrap .i64 ((i:Int)+(o:Int))≥4)with
   |true=>exact⟨_,by simp only[a4G,dlt hi,cT,a0D hi,oB,hc,a0B (show i<1000000 by omega)]<;>rfl,_,rfl⟩
   |false=>exact⟨_,by simp only[a4G,dlt hi,cT,cF,a0D hi,oB,hc,a0B (show i<1000000 by omega)]<;>rfl,_,rfl⟩)
  (fun s h=>by
   obtain⟨v,rfl⟩:=h;exact⟨_,by simp_all[a4G],v,rfl⟩) l.length 0 ((o:Int),(0:Int),l,(l.length:Int),(0:Int),()) (by omega) ⟨0,rfl⟩
 simp_all[a9t]
theorem b9I(h:o≤4)(b:l.length<100000)(g:l.all a0A=true):∃r e,a4F (l,(o:Int))=some (r,e)∧r.length≤l.length:=by
 by_cases hn:o≤l.length
 ·rw[b6C h hn (by unfold short;omega) g];cases (a2g o l).all a0A with
  |true=>exact⟨_,_,rfl,by rw[a5L];omega⟩
  |false=>simp
 have f:decide ((o:Int)<0)=false:=decide_eq_false (by omega);have k:decide ((o:Int) > 4)=false:=decide_eq_false (by omega);have a:decide (((l.length:Nat):Int)<(o:Int))=true:=decide_eq_true (by omega);simp_all[a4F]
theorem b9J(d:l.length<100000)(j:l.all a0A=true):∃o:Nat,a6g l=some (o:Int)∧o≤4:=by
 obtain⟨b,n,o,p,q⟩:=a7w (f:=a3J) (fun i s=>∃(o:Nat)(v:Int),s=(l,(o:Int),v,(i:Int),())∧o≤4) (fun b=>∃o:Nat,b=((o:Int),())∧o≤4) 5
  (fun i s hi h=>by
   obtain⟨o,v,rfl,a⟩:=h;have g:decide ((i:Int)≤4)=true:=decide_eq_true (by omega);obtain⟨r,e,k,m⟩:=b9I (o:=i) (by omega) d j;obtain⟨y,c⟩:=c5Y (l:=r) (o:=i) (by omega) (by omega);cases hc:(e != 0)with
   |true=>exact⟨_,by simp only[a3J,g,cT,k,oB,hc,a0B (show i<1000000 by omega)]<;>rfl,o,v,rfl,a⟩
   |false=>
    cases h4:decide (v<0)with
    |true=>exact⟨_,by simp only[a3J,g,cT,cF,k,oB,hc,c,h4,a0B (show i<1000000 by omega)]<;>rfl,i,y,rfl,by omega⟩
    |false=>
     cases h5:decide (y<v)with
     |true=>exact⟨_,by simp only[a3J,g,cT,cF,k,oB,hc,c,h4,h5,a0B (show i<1000000 by omega)]<;>rfl,i,y,rfl,by omega⟩
     |false=>exact⟨_,by simp only[a3J,g,cT,cF,k,oB,hc,c,h4,h5,a0B (show i<1000000 by omega)]<;>rfl,o,v,rfl,a⟩)
  (fun s h=>by
   obtain⟨o,v,rfl,a⟩:=h;have g:decide (((5:Nat):Int)≤4)=false:=by rfl
   exact⟨_,by rfl,o,rfl,a⟩) 5 0 (l,(0:Int),(-1:Int),(0:Int),()) (by rfl) ⟨0,-1,rfl,by omega⟩
 grind[a6g]
def a9z(g:List Int→Int):List Int→List Int→List Int
 | [],_=>[]
 |x::r,done=>W (x-g done)::a9z g r (done++[x])
theorem b3J(g:List Int→Int):∀r done,(a9z g r done).length=r.length
 | [],_=>rfl
 |x::r,done=>by simp[a9z,b3J g r]
theorem c6X{x g:Int}(h:a0A x=true):W (W (x-g)+g)=x:=by
 have:=b7d h
 simp_all[a8c]
theorem b5H(g:List Int→Int):∀(r done:List Int),r.all a0A=true→a4f g (a9z g r done) done=some (done++r)
 | [],done,_=>by simp[a9z,a4f]
 |x::r,done,h=>by
  rw[a07,bA]at h;simp only[a9z,a4f,c6X h.1,h.1,cT,b5H g r (done++[x]) h.2,aA,a69]
def b1X(g:List Int→Int)(r done:List Int):Option (List Int):=bif (a9z g r done).all a0A then some (a9z g r done)else none
def b4g{β:Type}(g:List Int→Int)(bad:β)(a:List Int×List Int)(x:Int):(List Int×List Int) ⊕ β:=
 bif a0A (W (x-g a.1))then .inl (a.1++[x],a.2++[W (x-g a.1)])else .inr bad
theorem b5I{β:Type}(g:List Int→Int)(f:β)(k:List Int×List Int→β):∀(r done acc:List Int),
  a8V k (a2J (b4g g f) r (done,acc))=match b1X g r done with|some e=>k (done++r,acc++e)|none=>f
 | [],done,acc=>by grind[a2J,a8V,b1X,a9z]
 |x::r,done,acc=>by
  simp[a2J,b4g];cases h:a0A (W (x-g done))with
  |true=>
   simp
   rw[b5I g f k r];simp only[b1X,a9z,a07,h,a51]
   grind
  |false=>simp_all[a8V,b1X,a9z]
theorem b9K{g:List Int→Int}{done e:List Int}(h:b1X g r done=some e):e=a9z g r done∧e.all a0A=true:=by
 unfold b1X at h
 grind
theorem c1M(h:i<l.length):l.take i++[l[i]]=l.take (i+1):=by simp
theorem b8Q{l:List Int}{p:Int→Bool}(h:l.all p=true)(i:Nat):(l.take i).all p=true:=by
 grind
theorem c8f{p:Int→Bool}(h:l.all p=true)(i:Nat):(l.drop i).all p=true:=by
 grind
theorem c1N{σ β:Type}{f:σ→Option (σ ⊕ β)}(l:List Int)(k:Nat)(q:k≤l.length)(S:Nat→List Int→σ)(g:List Int×List Int→Int→(List Int×List Int) ⊕ β)(d:List Int→β)
  (j:∀i (h:i<l.length) c,k≤i→c.length=i-k→(∀a',g (l.take i,c) l[i]=.inl a'→f (S i c)=some (.inl (S (i+1) a'.2))∧a'.1=l.take (i+1)∧a'.2.length=i+1-k)∧(∀b,g (l.take i,c) l[i]=.inr b→f (S i c)=some (.inr b)))
  (e:∀c,c.length=l.length-k→f (S l.length c)=some (.inr (d c))):y0o f (S k [])=some (a8V (fun a=>d a.2) (a2J g (l.drop k) (l.take k,[]))):=by
 have h:=a1M (f:=f) (l.drop k) (fun i a=>S (k+i) a.2) g (fun i a=>a.1=l.take (k+i)∧a.2.length=i) (fun a=>d a.2)
  (fun i hi a n=>by
   obtain⟨a1,c⟩:=a;obtain⟨m,o⟩:=n;simp only at m o;subst m;rw[a52]at hi;have p:k+i<l.length:=by omega
   grind)
  (fun a n=>by
   simp_all) (a:=(l.take k,[])) ⟨by simp,rfl⟩
 omega
def b5J(l c:List Int)(s:Int):Option (List Int):=bif l.all a0A then b1X (b1k c s) (l.drop c.length) (l.take c.length)else none
theorem b5k{c:List Int}{s:Int}(v:a9D c s=true)(t:c.length≤l.length)(y:l.length<100000):
  a7g (l,c,s)=some (a4X (b5J l c s)):=by
 have m:short l:=by unfold short;omega
 have k:short c:=by unfold short;omega
 have d:0≤s:=by simp_all[a9D]
 have o:decide (((l.length:Nat):Int)<((c.length:Nat):Int))=false:=by simp_all
 unfold a7g b5J;simp only[a9w k,v,oB,bT,cF,o,a5X m];cases hw:l.all a0A with
 |false=>rfl
 |true=>
  have p:wrap .i64 (((l.length:Nat):Int)-((c.length:Nat):Int))=((l.length-c.length:Nat):Int):=by grind[a0C]
  have x:decide ((0:Int)≤((l.length-c.length:Nat):Int))=true:=by simp
  have q:lim (l.length-c.length)=true:=a0S (by omega);simp[p,q]
  have:=c1N (f:=a4H) l c.length t (fun i h=>(l,c,s,(i:Int),h,())) (b4g (b1k c s) (.inr ((6:Int),([]:List Int),()))) (fun h=>.inl (h,()))
   (fun i hi h u a=>by
    have n:short (l.take i):=by unfold short;grind
    have e:decide ((0:Int)≤(i:Int))=true:=by simp
    have j:decide ((i:Int)≤((l.length:Nat):Int))=true:=by grind
    have r:lim (h.length+1)=true:=a0S (by omega);constructor
    ·intro w g;unfold b4g at g;cases hq:a0A (W (l[i]-b1k c s (l.take i)))with
     |false=>simp_all
     |true=>
      simp only[hq,cT,Sum.inl.injEq]at g;subst g;refine⟨?_,c1M hi,by grind⟩;simp only[a4H,dlt hi,cT,a0D hi,oB,e,j,a04,tN,b5z n k d,a6k,hq,bT,cF,r,a0B (a33 hi m),a09]
    ·intro b hb;unfold b4g at hb;cases hq:a0A (W (l[i]-b1k c s (l.take i)))with
     |true=>simp_all
     |false=>
      simp[hq]at hb;subst hb;simp only[a4H,dlt hi,cT,a0D hi,oB,e,j,a04,tN,b5z n k d,a6k,hq,a30])
   (fun h a=>by simp[a4H])
  rw[this,b5I];cases b1X (b1k c s) (l.drop c.length) (l.take c.length)<;>rfl
theorem b5K{c:List Int}{s:Int}(h:b5J l c s=some r):b3z (l.take c.length) r c s=some l∧r.all a0A=true∧r.length=l.length-c.length:=by
 unfold b5J at h;cases hw:l.all a0A with
 |false=>simp_all
 |true=>
  simp[hw]at h;obtain⟨e,g⟩:=b9K h;refine⟨?_,g,by simp_all[b3J]⟩;simp[b3z,b8Q hw,g]
  grind[b5H,List.take_append_drop]
def b5l(l:List Int)(lag:Int)(t:List Int):Option (List Int):=bif l.all a0A then b1X (a9x lag t) l []else none
theorem c3s(o:b1T lag t=true)(c:t.length=3)(r:l.length<100000):
  a9h (l,lag,t)=some (a4X (b5l l lag t)):=by
 have a:short l:=by unfold short;omega
 obtain⟨e,j⟩:2≤lag∧lag≤1024:=by simp_all[b1T]
 unfold a9h b5l;simp only[b4F c,o,oB,bT,cF,b3Y a];cases hw:l.all a0A with
 |false=>rfl
 |true=>
  have q:decide ((0:Int)≤((l.length:Nat):Int))=true:=by simp
  have d:lim l.length=true:=a0S (by omega);simp[d]
  have:=c1N (f:=a6h) l 0 (Nat.zero_le _) (fun i h=>(l,lag,l,(l.length:Int),(i:Int),h,t,())) (b4g (a9x lag t) (.inr ((6:Int),([]:List Int),()))) (fun h=>.inl (h,()))
   (fun i hi h n k=>by
    have m:lim (h.length+1)=true:=a0S (by omega);have hp:=b4a (lag:=lag) (t:=t) (a78 hi) a c e j;constructor
    ·intro p g;unfold b4g at g;cases hq:a0A (W (l[i]-a9x lag t (l.take i)))with
     |false=>simp_all
     |true=>
      simp only[hq,cT,Sum.inl.injEq]at g;subst g;refine⟨?_,c1M hi,by simp_all⟩;simp only[a6h,dlt hi,cT,a0D hi,oB,hp,a8b,hq,bT,cF,m,a0B (a33 hi a),a09]
    ·intro b hb;unfold b4g at hb;cases hq:a0A (W (l[i]-a9x lag t (l.take i)))with
     |true=>simp_all
     |false=>
      simp_all[a6h,a0D,a8b])
   (fun h k=>by simp[a6h])
  simp only[nZ]at this;rw[this,b5I,a31,List.take_zero];cases b1X (a9x lag t) l []<;>rfl
theorem b7h(h:b5l l lag t=some r):b4b r lag t=some l∧r.all a0A=true∧r.length=l.length:=by
 unfold b5l at h;cases hw:l.all a0A with
 |false=>simp_all
 |true=>
  simp[hw]at h;obtain⟨e,g⟩:=b9K h;refine⟨?_,g,by rw[e,b3J]⟩;simp[b4b,g];simp_all[b5H]
def rsG:List Int→Fil→List Int
 | [],_=>[]
 |x::r,f=>W (x-a1g f)::rsG r (b2Y f x)
theorem b5L:∀r f,(rsG r f).length=r.length
 | [],_=>rfl
 |x::r,f=>by simp[rsG,b5L r]
def rsO:List Int→List Int→Fil→Option (List Int)
 | [],done,_=>some done
 |x::r,done,f=>bif a0A (W (x-a1g f))then rsO r (done++[W (x-a1g f)]) (b2Y f x)else none
theorem c6Y:∀(r done:List Int)(f:Fil),rsO r done f=bif (rsG r f).all a0A then some (done++rsG r f)else none
 | [],done,f=>by simp[rsO,rsG]
 |x::r,done,f=>by
  simp[rsO,rsG];cases a0A (W (x-a1g f))with
  |false=>rfl
  |true=>simp_all[c6Y]
theorem c4W:∀(r z:List Int)(f:Fil),r.all a0A=true→stO (rsG r f) z f=some (z++r)
 | [],z,f,_=>by simp[rsG,stO]
 |x::r,z,f,h=>by
  rw[a07,bA]at h;have e:W (a1g f+W (x-a1g f))=x:=by grind[c6X]
  simp only[rsG,stO,e,h.1,cT,c4W r _ _ h.2,aA,a69]
theorem b4h{row:List Int}{a:List Stg}{b c:Int}(j:short row):∀(k i:Nat)(done:List Int)(f:Fil),i+k=row.length→done.length=i→FilOk f→
  y0o a5r (a,b,c,(row.length:Int),(i:Int),done++row.drop i,f,())=some (match rsO (row.drop i) done f with
   |some r=>.inl (a,b,c,r,())
   |none=>.inr ((6:Int),([]:List Int),()))
 |0,i,done,f,h,hd,hf=>by
  obtain rfl:i=row.length:=by omega
  rw[a91,a47];exact a0E (b:=Sum.inl (a,b,c,done,())) (by simp[a5r])
 |k+1,i,done,f,h,hd,hf=>by
  have hi:i<row.length:=by omega
  have l:row.length<1000000:=j;have d:decide ((0:Int)≤(i:Int))=true:=by simp
  have m:(done++row.drop i).length=row.length:=by grind
  have e:decide ((i:Int)<(((done++row.drop i).length:Nat):Int))=true:=by simp_all
  have g:rsO (row.drop i) done f=bif a0A (W (row[i]-a1g f))then rsO (row.drop (i+1)) (done++[W (row[i]-a1g f)]) (b2Y f row[i])else none:=by
   rw[a03 hi];rfl
  rw[g];cases hw:a0A (W (row[i]-a1g f))with
  |true=>
   rw[a0F (s':=(a,b,c,(row.length:Int),((i+1:Nat):Int),(done++[W (row[i]-a1g f)])++row.drop (i+1),b2Y f row[i],())) (by
    simp only[a5r,dlt hi,d,e,cT,a04,a6m hf,oB,tN,b4c hd hi,a5f,hw,bT,cF,b6x hf,c3c hd hi,a0B (show i<1000000 by omega)])]
   exact b4h j k (i+1) _ _ (by omega) (by simp_all) (c3b hf _)
  |false=>
   exact a0E (by
    simp only[a5r,dlt hi,d,e,cT,a04,a6m hf,oB,tN,b4c hd hi,a5f,hw,a30];rfl)
def lRO:List Stg→List Int→Option (List Int)
 | [],row=>some row
 |s::r,row=>match rsO row [] (b1l s)with
  |some row'=>lRO r row'
  |none=>none
theorem c3t{row:List Int}{f:Fil}(h:rsO row [] f=some d):d=rsG row f∧d.all a0A=true:=by
 rw[c6Y]at h
 grind
theorem c1O:∀(a b:List Stg)(row:List Int),lO (a++b) row=match lO a row with|some r=>lO b r|none=>none
 | [],b,row=>rfl
 |s::a,b,row=>by
  simp only[a63,lO];split;exact c1O a b _;rfl
theorem c3u:∀(st:List Stg)(row d:List Int),row.all a0A=true→lRO st row=some d→lO st.reverse d=some row∧d.all a0A=true∧d.length=row.length
 | [],row,d,hw,h=>by
  simp[lRO]at h;subst h;exact⟨rfl,hw,rfl⟩
 |s::st,row,d,hw,h=>by
  simp only[lRO]at h
  split at h
  rename_i g c;obtain⟨e,f⟩:=c3t c;obtain⟨k,a,b⟩:=c3u st g d f h;refine⟨?_,a,by rw[b,e,b5L]⟩;rw[List.reverse_cons,c1O,k];simp only[lO];rw[e,c4W row [] _ hw,a08];cases h
theorem b2K{st:List Stg}(f:∀s∈st,stageB s=true)(l:st.length≤3):∀(j k:Nat)(row:List Int),k+j=st.length→short row→
  y0o a5s (st,(st.length:Int),(k:Int),row,())=some (match lRO (st.drop k) row with
   |some r=>.inl (r,())
   |none=>.inr ((6:Int),([]:List Int),()))
 |0,k,row,h,hs=>by
  obtain rfl:k=st.length:=by omega
  simp_all[a0E,a5s,lRO]
 |j+1,k,row,h,hs=>by
  have d:k<st.length:=by omega
  have g:=f _ (a05 d);have e:=b4h (a:=st) (b:=(st.length:Int)) (c:=(k:Int)) hs row.length 0 [] (b1l st[k]) (by omega) rfl (c4V g);simp at e;have i:((0:Int) != 0)=false:=rfl;rw[a03 d];simp[lRO];cases hr:rsO row [] (b1l st[k])with
  |some r=>
   rw[hr]at e;rw[a0F (s':=(st,(st.length:Int),((k+1:Nat):Int),r,())) (by simp only[a5s,dlt d,cT,a0D d,oB,b3B g,i,cF,e,a0B (show k<1000000 by omega)])];exact b2K f l j (k+1) r (by omega) (by have:=(c3t hr).1;unfold short at hs⊢;simp_all[b5L])
  |none=>
   simp_all[a0E,a5s,a0D,b3B]
def b3d(l:List Int)(st:List Stg):Option (List Int):=bif l.all a0A then lRO st l else none
theorem c2A{st:List Stg}(k:a9j st=true)(a:l.length<100000):b0K (l,st)=some (a4X (b3d l st)):=by
 have h:=k;simp only[a9j,bA,dT]at h;have f:short st:=by unfold short;omega
 have g:short l:=by unfold short;omega
 unfold b0K b3d;simp only[b3y f,k,oB,bT,cF,b3x g];cases hw:l.all a0A with
 |false=>rfl
 |true=>
  have:=b2K (lA.1 h.2) h.1 st.length 0 l (by omega) g
  simp at this;simp[a8d g,this];cases lRO st l<;>rfl
theorem b9L{st:List Stg}(h:b3d l st=some r):b2h r st=some l∧r.all a0A=true∧r.length=l.length:=by
 unfold b3d at h;cases hw:l.all a0A with
 |false=>simp_all
 |true=>
  simp[hw]at h;obtain⟨f,g,k⟩:=c3u st l r hw h;exact⟨by simp only[b2h,g,cT,f],g,k⟩
theorem p64{w:Nat}(h:w≤64):((2^w:Nat):Int) ∣ 18446744073709551616:=a21.2 (a54 2 h)
theorem d1X(n:Int):∃q,wrap .i64 n=n+18446744073709551616*q:=by
 rw[a8c,Int.bmod];split;exact⟨-(n / 18446744073709551616),by omega⟩;exact⟨-(n / 18446744073709551616)-1,by omega⟩
theorem c8g(h:w≤64)(n:Int):((2^w:Nat):Int) ∣ wrap .i64 n↔((2^w:Nat):Int) ∣ n:=by
 obtain⟨q,g⟩:=d1X n;rw[g]
 grind[a64,a48,p64]
theorem c1P(h:w≤64)(a:Int):2^w ∣ (a02 64 a).toNat↔((2^w:Nat):Int) ∣ a:=by
 have e:(((a02 64 a).toNat:Nat):Int)=a+18446744073709551616*-(a / 18446744073709551616):=by
  rw[a42];omega
 rw[←a21,e]
 grind[a64,a48,p64]
theorem c5Z(w x y:Nat):2^w ∣ (x ||| y)↔2^w ∣ x∧2^w ∣ y:=by
 simp_all[Nat.dvd_iff_mod_eq_zero,Nat.or_mod_two_pow]
theorem d1Y(h:w≤64)(a b:Int):((2^w:Nat):Int) ∣ bits .i64 .or a b↔((2^w:Nat):Int) ∣ a∧((2^w:Nat):Int) ∣ b:=by
 show((2^w:Nat):Int) ∣ wrap .i64 ((((a02 64 a) ||| (a02 64 b)).toNat:Nat):Int)↔_;rw[c8g h,a21,a55,c5Z,c1P h,c1P h]
def orI(l:List Int)(a:Int):Int:=l.foldl (fun a x=>bits .i64 .or a x) a
theorem b5m{w:Nat}(h:w≤64):∀(l:List Int)(a:Int),((2^w:Nat):Int) ∣ orI l a↔((2^w:Nat):Int) ∣ a∧∀x∈l,((2^w:Nat):Int) ∣ x
 | [],a=>by simp[orI]
 |x::l,a=>by
  show((2^w:Nat):Int) ∣ orI l (bits .i64 .or a x)↔_;rw[b5m h l,d1Y h];simp_all[and_assoc]
theorem c3v:∀(l:List Int),(∀x∈l,x=0)→orI l 0=0
 | [],_=>rfl
 |x::l,h=>by
  have g:=h x (List.mem_cons_self);subst g;show orI l (bits .i64 .or 0 0)=0;rw[show bits .i64 .or 0 0=0 from by rfl];simp_all[c3v]
theorem d1Z(k:l.all a0A=true)(h:∃x∈l,x≠0):orI l 0≠0:=by
 intro e;obtain⟨x,g,f⟩:=h;have b:=((b5m (w:=62) (by omega) l 0).1 (by omega)).2 x g;have a:=a1D.1 (lA.1 k x g);omega
def a8K(l:List Int)(w:Nat):Prop:=
 ((∀x∈l,x=0)∧w=0)∨((∃x∈l,x≠0)∧w≤30∧(∀x∈l,((2^w:Nat):Int) ∣ x)∧(w=30∨∃x∈l,¬ ((2^(w+1):Nat):Int) ∣ x))
theorem c6a{v w:Nat}(h:v≤w){x:Int}(g:((2^w:Nat):Int) ∣ x):((2^v:Nat):Int) ∣ x:=
 Int.dvd_trans (a21.2 (a54 2 h)) g
theorem a8K.unique(hv:a8K l v)(g:a8K l w):v=w:=by
 have d:∀{v w:Nat},v≤30→w≤30→(∀x∈l,((2^w:Nat):Int) ∣ x)→(v=30∨∃x∈l,¬ ((2^(v+1):Nat):Int) ∣ x)→w≤v:=by
  grind[c6a]
 rcases hv with⟨f,hv⟩|⟨⟨x,c,h⟩,hv1,hv2,hv3⟩
 ·rcases g with⟨-,g⟩|⟨⟨x,c,h⟩,-⟩
  all_goals grind
 ·rcases g with⟨f,-⟩|⟨-,k,a,b⟩
  all_goals grind
theorem c3w:∀(n N:Nat),N≤n→0<N→∃k m,N=2^k*(2*m+1)
 |0,N,h,h0=>absurd h0 (by omega)
 |n+1,N,h,h0=>by
  by_cases he:N%2=0
  obtain⟨k,m,e⟩:=c3w n (N / 2) (by omega) (by omega);refine⟨k+1,m,?_⟩;rw[a80,a77 (2^k) 2,Nat.mul_assoc,←e];omega;exact⟨0,N / 2,by omega⟩
theorem d0K{k:Nat}(h:2^k*(2*m+1)<2^64):(2^k*(2*m+1)) &&& (2^64-2^k*(2*m+1))=2^k:=by
 have hp:1≤2^k:=a75;have n:k<64:=by
  refine a92 fun g=>?_
  have d:2^64≤2^k:=a06 (by simp) g
  grind
 have e:2^k*(2*m+1)=(2^k*(2*m)+(2^k-1))+1:=by grind
 have l:2^k*(2*m)+(2^k-1)<2^64:=by omega
 refine Nat.eq_of_testBit_eq fun i=>?_
 have a:(2^64-2^k*(2*m+1)).testBit i=(decide (i<64)&&!(2^k*(2*m)+(2^k-1)).testBit i):=by
  rw[e];exact Nat.testBit_two_pow_sub_succ l i
 have f:=a56 (2*m+1) (b:=0) (i:=k) (by omega) i;rw[a79]at f;have c:=a56 (2*m) (b:=2^k-1) (i:=k) (by omega) i;rw[Nat.testBit_and,a,f,c,Nat.testBit_two_pow]
 by_cases d:i<k
 grind
 by_cases h2:k=i
 simp_all;obtain⟨j,rfl⟩:∃j,i=k+(j+1):=⟨i-k-1,by omega⟩;have o:k+(j+1)-k=j+1:=by omega
 have p:(2*m+1) / 2=m:=by omega
 simp_all[Nat.testBit_succ]
theorem c8h:∀k:Nat,k<64→b1x[(2^k*285870213051353865)%18446744073709551616 / 288230376151711744]?=some (k:Int):=by
 have h:∀k:Fin 64,b1x[(2^k.val*285870213051353865)%18446744073709551616 / 288230376151711744]?=some (k.val:Int):=by decide
 exact fun k g=>h ⟨k,g⟩
theorem c4G{k:Nat}:¬ 2^(k+1) ∣ 2^k*(2*m+1):=by
 rintro⟨c,h⟩
 rw[a80,Nat.mul_assoc]at h
 grind[Nat.eq_of_mul_eq_mul_left]
theorem c8i{N:Nat}(d:0<N)(h:N<18446744073709551616):∃k:Nat,a1w (N:Int)=some (k:Int)∧2^k ∣ N∧¬ 2^(k+1) ∣ N:=by
 obtain⟨k,m,e⟩:=c3w N N (a23 _) d;have n:2^k≤N:=by grind
 have i:k<64:=by
  refine a92 fun g=>?_
  have l:2^64≤2^k:=a06 (by simp) g;omega
 refine⟨k,?_,⟨_,e⟩,e▸c4G⟩;have hb:bits .u64 .and (N:Int) (wrap .u64 (0-(N:Int)))=((2^k:Nat):Int):=by
  have b:wrap .u64 (0-(N:Int))=((18446744073709551616-N:Nat):Int):=by
   grind[wrap,IntKind.bits,IntKind.signed]
  rw[b];show wrap .u64 (((a02 64 (N:Int)) &&& (a02 64 ((18446744073709551616-N:Nat):Int))).toNat:Int)=_;rw[a26,a26,a62,a32,a32,a24 h,a24 (by omega)]
  have:=d0K (k:=k) (m:=m) (by omega)
  rw[←e]at this;rw[show(18446744073709551616:Nat)=2^64 from rfl,this];exact a0L (by omega)
 have j:((N:Int)==0)=false:=by grind
 unfold a1w;rw[hb,j,cF];have f:wrap .u64 (((2^k:Nat):Int)*285870213051353865)=(((2^k*285870213051353865)%18446744073709551616:Nat):Int):=by
  rfl
 have a:=c8h k i;generalize (2^k*285870213051353865)%18446744073709551616=M at f a;have c:=a6v (N:=M) (o:=58) (by omega);rw[f,show(58:Int)=((58:Nat):Int)from rfl,c,show 2^58=288230376151711744 from rfl];generalize M / 288230376151711744=J at a
 grind[a0D,a0C]
theorem c8j{n:Nat}(g:n≤62)(c:Int):A0k .i64 (((2^n:Nat):Int)*c) (n:Int)=c:=by
 have hp:0<2^n:=a18 n;have e:min (a29 (n:Int)) (IntKind.bits .i64)=n:=by grind[IntKind.bits]
 have h:((2^n:Nat):Int)=2^n:=by simp
 unfold A0k
 grind[a61]
theorem c4X{l:List Int}(g:short l):∀(k i:Nat)(a:Int),i+k=l.length→y0o a5n (a,l,(l.length:Int),(i:Int),())=some (orI (l.drop i) a,())
 |0,i,a,h=>by
  obtain rfl:i=l.length:=by omega
  simp_all[a0E,a5n,orI]
 |k+1,i,a,h=>by
  have hi:i<l.length:=by omega
  have f:l.length<1000000:=g;rw[a03 hi,a0F (s':=(bits .i64 .or a l[i],l,(l.length:Int),((i+1:Nat):Int),())) (by
   simp only[a5n,dlt hi,cT,a0D hi,oB,a0B (show i<1000000 by omega)])]
  exact c4X g k (i+1) _ (by omega)
theorem c4H{l:List Int}{r:Nat}(g:r≤30)(h:r=30∨¬ ((2^(r+1):Nat):Int) ∣ orI l 0):r=30∨∃x∈l,¬ ((2^(r+1):Nat):Int) ∣ x:=by
 grind[b5m,a81]
theorem b8R{l:List Int}(y:short l)(j:l.all a0A=true):∃w:Nat,a3I l=some (w:Int)∧w≤30∧a8K l w:=by
 have a:=c4X y l.length 0 0 (by omega);simp at a;unfold a3I;simp[a]
 by_cases hz:∀x∈l,x=0
 have e:=c3v l hz;exact⟨0,by simp_all,by omega,.inl ⟨hz,rfl⟩⟩
 ·have g:∃x∈l,x≠0:=Classical.byContradiction fun m=>hz fun x g=>Classical.byContradiction fun s=>m ⟨x,g,s⟩;have t:=d1Z j g;have n:(orI l 0==0)=false:=by simp_all
  obtain⟨q,u⟩:∃q,wrap .u64 (orI l 0)=orI l 0+18446744073709551616*q:=⟨-(orI l 0 / 18446744073709551616),by
   grind[wrap,IntKind.bits,IntKind.signed]⟩
  obtain⟨B,r2⟩:=b8l (orI l 0);obtain⟨N,d⟩:=a01 B;have b:∀v,v≤64→(2^v ∣ N↔((2^v:Nat):Int) ∣ orI l 0):=fun v hv=>by
   rw[←a21,←d,u]
   grind[a64,a48,p64]
  have h:0<N:=by
   refine Nat.pos_of_ne_zero fun C=>?_
   obtain⟨x,f,A⟩:=g;have E:=((b5m (w:=62) (by omega) l 0).1 ((b 62 (by omega)).1 (by omega))).2 x f;have z:=a1D.1 (lA.1 j x f);omega
  obtain⟨k,p,c,r⟩:=c8i h (by omega);have i:k≤63:=by
   refine Nat.le_of_not_lt fun o=>?_
   have a:2^64≤2^k:=a06 (by simp) (by omega)
   have:=Nat.le_of_dvd h c
   omega
  simp only[n,cF,d,p,oB];have D:v0o (k:Int) 30=((min k 30:Nat):Int):=by rw[b4Y];omega
  refine⟨min k 30,by grind,by omega,.inr ⟨g,by omega,?_,?_⟩⟩
  all_goals grind[b5m,Nat.dvd_trans,a54,c4H]
theorem d0L(g:w≤30)(d:l.all a0A=true)(h:a8K l w):b0S (w:Int) l=some (l.map fun x=>A0k .i64 x (w:Int)):=by
 have f:∀x∈l,((2^w:Nat):Int) ∣ x:=by
  rcases h with⟨h,-⟩|⟨-,-,h,-⟩
  all_goals grind[a81]
 have:l.all (b1W (w:Int))=true:=by
  rw[lA];intro x k;obtain⟨c,a⟩:=f x k;have b:a28 x (A0j .i64 1 (w:Int))=0:=by simp_all[c3p]
  simp_all[b1W]
 simp only[b0S,this,cT]
theorem b1p{N n:Nat}(g:n≤63)(h:N<2^n)(L:List Int):(a0O (N:Int) n L).length=L.length+n:=by
 grind[a0O,a6v,a65,b4e]
def a5A(k:Nat)(x:Int):Nat:=if a0Q x / 2^k<32 then a0Q x / 2^k+1+k else 65
theorem c3x{k:Nat}(h:k≤25)(x:Int):a5A k x≤65:=by
 grind[a5A]
theorem c6Z{k:Nat}(a:k≤25)(g:a0A x=true)(L:List Int):(a6P k x L).length=L.length+a5A k x:=by
 unfold a6P a5A;have hp:0<2^k:=a18 k;have h:a0Q x%2^k<2^k:=a38 _ hp;have f:=a9E g;split;rw[b1p (by omega) h,b0P];omega
 grind[b1p,b0P]
theorem b9M{k:Nat}(g:k≤25):∀(l L:List Int),l.all a0A=true→(a4J k l L).length=L.length+(l.map (a5A k)).sum
 | [],L,_=>by rfl
 |x::l,L,h=>by
  simp only[a07,bA]at h;have e:a4J k (x::l) L=a4J k l (a6P k x L):=rfl;rw[e,b9M g l _ h.2,c6Z g h.1,List.map_cons,a59];omega
theorem c3y{k:Nat}(c:k≤25)(g:a0A x=true):a7u ((k:Int),x)=some ((a5A k x:Nat):Int):=by
 have d:=a9E g;have f:A0k .u64 ((a0Q x:Nat):Int) (k:Int)=((a0Q x / 2^k:Nat):Int):=a6v (by omega);have a:wrap .i64 ((a0Q x / 2^k:Nat):Int)=((a0Q x / 2^k:Nat):Int):=b3H (a41 (a43 _ _) d);have h:decide ((k:Int)<0)=false:=by simp
 unfold a7u a5A;simp only[a8X c,b0Q,g,oB,bT,cF,b0R g,h,f,a];generalize a0Q x / 2^k=q
 by_cases hq:q<32
 have b:decide ((q:Int)<32)=true:=decide_eq_true (by omega);simp only[b,cT,if_pos hq]
 grind[a0C]
 grind
theorem c3z{f:Int→Nat}{M:Nat}(h:∀x,f x≤M):∀l:List Int,(l.map f).sum≤M*l.length
 | []=>by simp
 |x::l=>by
  have:=h x
  have:=c3z h l
  rw[List.map_cons,a59,lC,a88,a89];omega
theorem c3A{f:Int→Nat}{l:List Int}{i:Nat}(h:i<l.length):((l.take (i+1)).map f).sum=((l.take i).map f).sum+f l[i]:=by
 rw[a37 h,pA,List.sum_append];rfl
theorem b8m{k:Nat}(g:k≤25)(c:l.all a0A=true)(d:l.length<10000):a3m ((k:Int),l)=some (((l.map (a5A k)).sum:Nat):Int):=by
 have:=a1B (f:=a3S) (fun i:Nat=>((k:Int),((((l.take i).map (a5A k)).sum:Nat):Int),l,(l.length:Int),(i:Int),())) l.length (b:=((((l.map (a5A k)).sum:Nat):Int),()))
  (fun i hi=>by
   have a:=c3y g (lA.1 c _ (a05 hi));have h:=c3z (c3x g) (l.take (i+1));rw[c3A hi]at h;rw[a90]at h;have e:wrap .i64 (((((l.take i).map (a5A k)).sum:Nat):Int)+((a5A k l[i]:Nat):Int))=((((l.take (i+1)).map (a5A k)).sum:Nat):Int):=by
    grind[c3A,a0C]
   simp only[a3S,dlt hi,cT,a0D hi,oB,a,e,a0B (show i<1000000 by omega)])
  (by simp_all[a3S])
 unfold a3m;simp_all
theorem c8k(x:Int){n:Nat}(f:n≤62):∃N:Nat,a0W x n=(N:Int)∧N<2^n:=by
 obtain⟨h,g⟩:=b8l x;obtain⟨y,k⟩:=a01 h;have hp:0<2^n:=a18 n;refine⟨y%2^n,?_,a38 _ hp⟩
 grind[a0W,c3k]
theorem b4i{n:Nat}(h:n≤62):∀(l L:List Int),(a1C n l L).length=L.length+n*l.length
 | [],L=>by rfl
 |x::l,L=>by
  have e:a1C n (x::l) L=a1C n l (a0O (a0W x n) n L):=rfl;obtain⟨N,g,f⟩:=c8k x h;rw[e,b4i h l,g,b1p (by omega) f,lC,a88,a89];omega
theorem d2a{x:Int}(h:a0A x=true):a1i x ((31:Nat):Int)=true:=by
 have:=a1D.1 h
 have g:A0j .i64 (-1) (((31:Nat):Int)-1)=-1073741824:=by rfl
 have f:wrap .i64 (A0j .i64 1 (((31:Nat):Int)-1)-1)=1073741823:=by rfl
 unfold a1i
 grind
theorem b9N{x:Int}(h:a0A x=true):∀(k w:Nat),w+k=32→1≤k→a1G x k w≤31
 |k+1,w,hk,_=>by
  simp[a1G]
  by_cases h31:w=31
  grind[d2a]
  ·cases (x != 0)&&!a1i x w with
   |true=>exact b9N h k (w+1) (by omega) (by omega)
   |false=>grind
theorem b4j:∀(l:List Int)(w:Nat),l.all a0A=true→w≤31→l.foldl (fun w x=>a1G x (32-w) w) w≤31
 | [],w,_,h=>h
 |x::l,w,hl,h=>by
  simp only[a07,bA]at hl;exact b4j l _ hl.2 (b9N hl.1 (32-w) w (by omega) (by omega))
theorem a1Q{l:List Int}(h:l.all a0A=true):a0I l≤31:=b4j l 0 h (by omega)
theorem b3K(g:l.length<10000):a5H l=some (((5+a0I l*l.length:Nat)):Int):=by
 have h:=a6u l;have f:a0I l*l.length≤32*l.length:=a27 _ h;unfold a5H;simp only[a2i (show short l by unfold short;omega),oB]
 grind[a0C]
def b1Y(k:Int)(part:List Int):Nat:=5+(if k=31 then 5+a0I part*part.length else(part.map (a5A k.toNat)).sum)
def a5B:List Nat→List Int→List Int→Nat
 |z::zs,k::ks,l=>b1Y k (l.take z)+a5B zs ks (l.drop z)
 |_,_,_=>0
theorem a3C{q:Nat}(h:q<2147483648):wrap .u64 (q:Int)=(q:Int):=a0L (by omega)
theorem c7a(h:kB k=true)(g:part.all a0A=true)(L:List Int):(a9y k part L).length=L.length+b1Y k part:=by
 simp[kB]at h;obtain⟨K,rfl⟩:=a01 (show 0≤k by omega)
 grind[b1p,a1Q,a9y,b1Y,a3C,b4i,b9M]
theorem b9O:∀(zs:List Nat)(ks l L:List Int),ks.all kB=true→l.all a0A=true→(a4K zs ks l L).length=L.length+a5B zs ks l
 |z::zs,k::ks,l,L,h,hw=>by
  simp only[a07,bA]at h;have g:(l.take z).all a0A=true:=lA.2 fun x a=>lA.1 hw x (a35 a);have f:(l.drop z).all a0A=true:=lA.2 fun x a=>lA.1 hw x (a36 a);simp only[a4K,a5B];rw[b9O zs ks _ _ h.2 f,c7a h.1 g];omega
 | [],_,_,_,_,_=>by rfl
 |_::_,[],_,_,_,_=>by rfl
theorem c8l(h:kB k=true)(part:List Int):b1Y k part≤10+65*part.length:=by
 simp[kB]at h;unfold b1Y;split;have g:a0I part*part.length≤32*part.length:=a27 _ (a6u part);omega
 have:=c3z (c3x (k:=k.toNat) (by omega)) part
 omega
theorem b3L{zn:List Nat}{p:Prt}(E:p.2.1.length=zn.length)(a:p.2.1.all kB=true)(F:zn.length≤256):∀(j i:Nat)(l:List Int)(c:Nat),i+j=zn.length→(zn.drop i).sum=l.length→l.all a0A=true→l.length≤5000→c+10*j+65*l.length<1000000→
  y0o a1t (l,(c:Int),(zn.length:Int),(i:Int),a1o zn,p,())=some (((c+a5B (zn.drop i) (p.2.1.drop i) l:Nat):Int),())
 |0,i,l,c,hi,_,_,_,_=>by
  obtain rfl:i=zn.length:=by omega
  grind[a0E,a1t,a5B]
 |j+1,i,l,c,hi,hsum,hw,hl5,hb=>by
  have h:i<zn.length:=by omega
  have f:i<p.2.1.length:=by omega
  have o:=lA.1 a _ (a05 f);rw[b5D h]at hsum;have z:decide ((0:Int)≤(i:Int))=true:=by simp
  have A:decide ((i:Int)<(((a1o zn).length:Nat):Int))=true:=by simp_all[a1u]
  have B:decide ((0:Int)≤((zn[i]:Nat):Int))=true:=by simp
  have C:decide (((zn[i]:Nat):Int)≤((l.length:Nat):Int))=true:=by grind
  have d:(l.take zn[i]).length=zn[i]:=by simp_all
  have e:(l.drop zn[i]).length=(zn.drop (i+1)).sum:=by grind
  have v:(l.take zn[i]).all a0A=true:=lA.2 fun x y=>lA.1 hw x (a35 y);have w:(l.drop zn[i]).all a0A=true:=lA.2 fun x y=>lA.1 hw x (a36 y);have g:=c8l o (l.take zn[i]);rw[d]at g;have n:a1t (l,(c:Int),(zn.length:Int),(i:Int),a1o zn,p,())=some (.inl (l.drop zn[i],((c+b1Y p.2.1[i] (l.take zn[i]):Nat):Int),(zn.length:Int),((i+1:Nat):Int),a1o zn,p,())):=by
   by_cases h31:p.2.1[i]=31
   have b:(p.2.1[i]==31)=true:=by simp_all
   have m:=b3K (l:=l.take zn[i]) (by omega);have u:b1Y p.2.1[i] (l.take zn[i])=5+(5+a0I (l.take zn[i])*(l.take zn[i]).length):=by simp_all[b1Y]
   rw[u]at g⊢;generalize 5+a0I (l.take zn[i])*(l.take zn[i]).length=r at m g⊢;have s:wrap .i64 (5+(r:Int))=5+(r:Int):=a0C (by omega);have t:wrap .i64 ((c:Int)+(5+(r:Int)))=((c+(5+r):Nat):Int):=by grind[a0C]
   simp only[a1t,dlt h,z,A,a8f h,B,C,cT,a04,tN,a0D f,oB,b,m,s,t,a20,a0B (show i<1000000 by omega)];have b:(p.2.1[i]==31)=false:=by simp_all
   have q:=o;simp[kB]at q;obtain⟨K,D⟩:=a01 (show 0≤p.2.1[i]by omega);have m:=b8m (k:=K) (by omega) v (by omega);have u:b1Y p.2.1[i] (l.take zn[i])=5+((l.take zn[i]).map (a5A K)).sum:=by simp_all[b1Y]
   rw[←D]at m;rw[u]at g⊢;generalize ((l.take zn[i]).map (a5A K)).sum=r at m g⊢;have s:wrap .i64 (5+(r:Int))=5+(r:Int):=a0C (by omega);have t:wrap .i64 ((c:Int)+(5+(r:Int)))=((c+(5+r):Nat):Int):=by grind[a0C]
   simp only[a1t,dlt h,z,A,a8f h,B,C,cT,cF,a04,tN,a0D f,oB,b,m,s,t,a20,a0B (show i<1000000 by omega)]
  rw[a0F n,b3L E a F j (i+1) (l.drop zn[i]) _ (by omega) e.symm w (by omega) (by omega)];rw[a03 h,a03 f]
  grind[a5B]
theorem c2B(h:PartsOk p n warm l zn):a4C (p,n,warm,l)=some ((4+a5B zn p.2.1 l:Nat):Int):=by
 have f:Go.Ab.short p.2.1:=by have:=h.ks;have:=h.len;unfold Go.Ab.short;omega
 have k:=h.short;have a:=h.len;have g:=b3L h.ks h.all h.len zn.length 0 l 4 (by omega) (by rw[a31];exact h.sum) h.wide h.short (by omega);simp only[nZ,a25,a31]at g;unfold a4C;simp only[b3D f,h.may,b1n h.row h.rest h.wide h.short,oB,bT,cF,a1V,h.sizes,a1u,g]
theorem c2C(h:PartsOk p n warm l zn)(L:List Int):(a4m p zn l L).length=L.length+(4+a5B zn p.2.1 l):=by
 obtain⟨o,g⟩:=a01 h.order.1;have f:=h.order.2;unfold a4m;rw[b9O _ _ _ _ h.all h.wide,g,a3C (by omega),b1p (by omega) (by omega)];omega
def a1W(o:Int):Sub:=((0:Int),(0:Int),o,(0:Int),(0:Int),([]:List Int),a00 3 (0:Int),([]:List Stg),([]:List Int),((0:Int),([]:List Int),()),([]:List Int),())
theorem c4I(o:Int):SmallS (a1W o):=⟨by simp[a1W],by rfl,by simp[a1W],by simp[a1W],by simp[a1W],by simp[a1W]⟩
def b7i(k:Nat)(l:List Int):Nat:=(l.map (a5A k)).sum
def rbN(l:List Int):Nat→Nat
 |0=>0
 |i+1=>if b7i (i+1) l<b7i (rbN l i) l then i+1 else rbN l i
theorem c3B(l:List Int):∀i,rbN l i≤i
 |0=>a23 _
 |i+1=>by
  have:=c3B l i
  simp only[rbN]
  split<;>omega
theorem b5M{k:Nat}(h:k≤25)(f:l.all a0A=true)(g:l.length<10000):a3m ((k:Int),l)=some ((b7i k l:Nat):Int):=b8m h f g
theorem d2b(h:a<b):decide ((a:Int)<(b:Int))=true:=decide_eq_true (by omega)
theorem c6b(h:¬ a<b):decide ((a:Int)<(b:Int))=false:=decide_eq_false (by omega)
theorem b7j(g:l.all a0A=true)(h:l.length<10000):b1N l=some ((rbN l 25:Nat):Int):=by
 have:=a1B (f:=a8B) (fun i:Nat=>(l,((rbN l i:Nat):Int),((b7i (rbN l i) l:Nat):Int),((i+1:Nat):Int),())) 25 (b:=(((rbN l 25:Nat):Int),()))
  (fun i hi=>by
   have a:decide (((i+1:Nat):Int)≤25)=true:=decide_eq_true (by omega);have d:wrap .i64 (((i+1:Nat):Int)+1)=((i+1+1:Nat):Int):=a0B (by omega);have c:=b5M (k:=i+1) (by omega) g h
   by_cases hlt:b7i (i+1) l<b7i (rbN l i) l
   simp_all[a8B,rbN];simp only[a8B,a,cT,cF,c,oB,d,c6b hlt,rbN,hlt,if_false])
  (by
   rfl)
 have m:=b5M (k:=0) (by omega) g h;have j:((0+1:Nat):Int)=1:=rfl;have e:rbN l 0=0:=rfl;simp_all[b1N]
def b3e(l:List Int):Int:=if 5+a0I l*l.length<b7i (rbN l 25) l then 31 else((rbN l 25:Nat):Int)
theorem c6c(l:List Int):kB (b3e l)=true:=by
 have:=c3B l 25
 unfold b3e;split;rfl;simp only[kB,Bool.or_eq_true,bA,dT];omega
theorem b9P(g:l.all a0A=true)(h:l.length<10000):a8C l=some (b3e l):=by
 have a:=c3B l 25;have f:=b5M (k:=rbN l 25) a g h;unfold a8C b3e
 by_cases hlt:5+a0I l*l.length<b7i (rbN l 25) l
 simp only[b7j g h,b3K h,f,oB,d2b hlt,cT,hlt,if_true];simp only[b7j g h,b3K h,f,oB,c6b hlt,cF,hlt,if_false]
def a2z:List Nat→List Int→List Int
 | [],_=>[]
 |z::zs,l=>b3e (l.take z)::a2z zs (l.drop z)
theorem b5n:∀zs l,(a2z zs l).length=zs.length
 | [],_=>rfl
 |z::zs,l=>by simp[a2z,b5n zs]
theorem b9Q:∀zs l,(a2z zs l).all kB=true
 | [],_=>rfl
 |z::zs,l=>by simp[a2z,b9Q zs,c6c]
theorem b6E{zn:List Nat}{n warm most least order:Int}{L:List Int}{a b:Prt}(m:zn.length≤256):∀(j i:Nat)(rest ks:List Int),i+j=zn.length→(zn.drop i).sum=rest.length→rest.all a0A=true→rest.length≤5000→ks.length=i→
  y0o a7L (n,warm,most,L,least,order,rest,((zn.length:Nat):Int),(i:Int),a1o zn,a,b,(order,ks,()),())=some (n,warm,most,L,least,order,a,b,(order,ks++a2z (zn.drop i) rest,()),())
 |0,i,rest,ks,h,_,_,_,_=>by
  obtain rfl:i=zn.length:=by omega
  simp_all[a0E,a7L,a2z]
 |j+1,i,rest,ks,h,hr,hwr,hr5,hki=>by
  have g:i<zn.length:=by omega
  rw[b5D g]at hr;have k:decide ((0:Int)≤(i:Int))=true:=by simp
  have c:decide ((i:Int)<(((a1o zn).length:Nat):Int))=true:=by simp_all[a1u]
  have d:decide ((0:Int)≤((zn[i]:Nat):Int))=true:=by simp
  have e:decide (((zn[i]:Nat):Int)≤((rest.length:Nat):Int))=true:=by grind
  have l:=b9P (b8Q hwr zn[i]) (by grind);have f:lim (ks.length+1)=true:=a0S (by omega);rw[a03 g,a0F (s':=(n,warm,most,L,least,order,rest.drop zn[i],((zn.length:Nat):Int),((i+1:Nat):Int),a1o zn,a,b,(order,ks++[b3e (rest.take zn[i])],()),())) (by
   simp only[a7L,dlt g,k,c,a8f g,d,e,cT,a04,tN,l,oB,f,a20,a0B (show i<1000000 by omega),a09])]
  rw[b6E m j (i+1) _ _ (by omega) (by grind) (c8f hwr _) (by grind) (by simp_all)];simp_all[a2z]
def zsN(o n warm:Int):List Nat:=(a1F o n warm).map a29
def b2Z(o n warm:Int)(l:List Int):Prt:=(o,a2z (zsN o n warm) l,())
def b9R(o n warm:Int)(l:List Int):Nat:=4+a5B (zsN o n warm) (a2z (zsN o n warm) l) l
def a1y(n warm:Int)(l:List Int):Nat→Prt×Nat
 |0=>((0,[],()),0)
 |i+1=>if(a1F (i:Int) n warm).length=0 then a1y n warm l i else
   if(a1y n warm l i).2=0∨b9R (i:Int) n warm l<(a1y n warm l i).2 then(b2Z (i:Int) n warm l,b9R (i:Int) n warm l)else a1y n warm l i
def b7B(n warm:Int)(l:List Int):Prt:=(a1y n warm l 7).1
theorem c4Y(b:(a1F (o:Int) n warm).length≠0)(a:(l.length:Int)=n-warm)(c:l.all a0A=true)(k:l.length≤5000):
  ∃h,a1F (o:Int) n warm=a1o h∧zsN (o:Int) n warm=h∧h.length≤256∧h.sum=l.length∧a5z (b2Z (o:Int) n warm l) n warm=true∧PartsOk (b2Z (o:Int) n warm l) n warm l h:=by
 obtain⟨h,e,i,j⟩:=b4I b;have d:zsN (o:Int) n warm=h:=by simp_all[zsN,b4J]
 have hp:a5z (b2Z (o:Int) n warm l) n warm=true:=by
  simp only[a5z,b2Z,bA,a34,beq_eq_false_iff_ne,ne_eq,beq_iff_eq];simp_all[a1u,b5n,b9Q]
 obtain⟨f,g⟩:=PartsOk.of hp a c k
 have:f=h:=by
  have m:=g.sizes
  grind[b2Z,b4J]
 grind
theorem b5N{n warm:Int}{l:List Int}(b:a6n n warm=true)(f:(l.length:Int)=n-warm)(a:l.all a0A=true)(g:l.length≤5000):∀i,1≤i→(a1y n warm l i).2≠0∧a5z (a1y n warm l i).1 n warm=true
 |0,h=>absurd h (by omega)
 |i+1,_=>by
  by_cases hs:(a1F (i:Int) n warm).length=0
  ·simp only[a1y,hs,if_true];cases i with
   |zero=>grind[c5U]
   |succ i=>exact b5N b f a g (i+1) (by omega)
  ·obtain⟨c,-,-,-,-,hp,-⟩:=c4Y hs f a g;simp only[a1y,hs,if_false];split;simp_all[b9R]
   ·rename_i k;cases i with
    |zero=>exact absurd (Or.inl rfl) k
    |succ i=>exact b5N b f a g (i+1) (by omega)
theorem c8m(f:a6n n warm=true)(g:(l.length:Int)=n-warm)(k:l.all a0A=true)(h:l.length≤5000):a5z (b7B n warm l) n warm=true:=
 (b5N f g k h 7 (by omega)).2
theorem c2D(z:a6n n warm=true)(x:(l.length:Int)=n-warm)(t:l.all a0A=true)(s:l.length≤5000):
  b0L (n,warm,(6:Int),l)=some (b7B n warm l,0):=by
 have:=a1B (f:=a3K) (fun i:Nat=>(n,warm,(6:Int),l,(((a1y n warm l i).2:Nat):Int),(i:Int),((0:Int),([]:List Int),()),(a1y n warm l i).1,())) 7 (b:=(((0:Int),([]:List Int),()),b7B n warm l,()))
  (fun i hi=>by
   have j:decide ((i:Int)≤v0o (v0n 6 0) 8)=true:=decide_eq_true (by have:v0o (v0n 6 0) 8=6:=rfl;omega);have r:wrap .i64 ((i:Int)+1)=((i+1:Nat):Int):=a0B (by omega)
   by_cases hs:(a1F (i:Int) n warm).length=0
   simp_all[a1y,a3K,a1V];have hb:((((a1F (i:Int) n warm).length:Nat):Int)==0)=false:=by simp_all
   obtain⟨h,p,o,w,y,-,q⟩:=c4Y hs x t s;have d:=b6E (n:=n) (warm:=warm) (most:=6) (least:=(((a1y n warm l i).2:Nat):Int)) (order:=(i:Int)) (L:=l) (a:=((0:Int),([]:List Int),())) (b:=(a1y n warm l i).1) w h.length 0 l [] (by omega) (by simp_all) t s rfl;simp at d;have e:=c2B q;simp only[b2Z,o]at e;have k:(((h.length:Nat):Int)==0)=false:=by simp_all[a1u]
   have m:(((a1o h).length:Nat):Int)=((h.length:Nat):Int):=by rw[a1u]
   have v:b2Z (i:Int) n warm l=((i:Int),a2z h l,()):=by simp only[b2Z,o]
   have u:b9R (i:Int) n warm l=4+a5B h (a2z h l) l:=by simp only[b9R,o]
   by_cases hz:(a1y n warm l i).2=0
   have g:((((a1y n warm l i).2:Nat):Int)==0)=true:=by simp_all
   have c:a1y n warm l (i+1)=(((i:Int),a2z h l,()),4+a5B h (a2z h l) l):=by simp_all[a1y]
   simp only[a3K,j,cT,a1V,oB,p,m,k,cF,d,e,r,c,g];have g:((((a1y n warm l i).2:Nat):Int)==0)=false:=by simp_all
   by_cases hlt:4+a5B h (a2z h l) l<(a1y n warm l i).2
   have c:a1y n warm l (i+1)=(((i:Int),a2z h l,()),4+a5B h (a2z h l) l):=by simp_all[a1y]
   simp only[a3K,j,cT,a1V,oB,p,m,k,cF,d,e,r,c,g,d2b hlt];have c:a1y n warm l (i+1)=a1y n warm l i:=by simp only[a1y,hs,if_false,hz,false_or,v,u,hlt]
   simp only[a3K,j,cT,a1V,oB,p,m,k,cF,d,e,r,c,g,c6b hlt])
  (by
   rfl)
 simp_all[a1y,b0L,b1n]
def a0Y(k:Int)(s:Sub):Sub:=
 (k,(0:Int),(if k=2 then s.2.2.1 else 0),(if k=3∨k=4 then s.2.2.2.1 else 0),(if k=4 then s.2.2.2.2.1 else 0),(if k=3∨k=4 then s.2.2.2.2.2.1 else[]),
  ((if k=4 then s.2.2.2.2.2.2.1 else a00 3 (0:Int)),(if k=5 then s.2.2.2.2.2.2.2.1 else[]),([]:List Int),((0:Int),([]:List Int),()),([]:List Int),()))
def z0:Prt:=((0:Int),([]:List Int),())
def a1H(s:Sub)(w:Nat)(wm:List Int)(p:Prt)(r:List Int):Sub:=
 (s.1,(w:Int),s.2.2.1,s.2.2.2.1,s.2.2.2.2.1,s.2.2.2.2.2.1,s.2.2.2.2.2.2.1,s.2.2.2.2.2.2.2.1,wm,p,r,())
theorem c7b(h:SmallS s)(k:Int):a6a (k,s)=some (a0Y k s):=by
 have f:short s.2.2.2.2.2.1:=by have:=h.coefs;unfold short;omega
 have g:short s.2.2.2.2.2.2.2.1:=by have:=h.stages;unfold short;omega
 grind[a6a,a0Y,b5C,b8i]
theorem c3C(h:SmallS s)(k:Int):SmallS (a0Y k s):=by
 have g:=h.coefs;have f:=h.taps;have a:=h.stages;refine⟨?_,?_,?_,by simp[a0Y],by simp[a0Y],by simp[a0Y]⟩<;>simp only[a0Y]<;>split<;>first|omega|simp
theorem c6d:a3V (a0Y k s).1 (a0Y k s) n↔a3V k s n:=by
 unfold a3V a0Y
 grind
open Classical in
def a2W (l:List Int):Nat:=if h:∃w,a8K l w then h.choose else 0
theorem d0M{l:List Int}{w:Nat}(h:a8K l w):a2W l=w:=by
 unfold a2W;rw[dif_pos ⟨w,h⟩];exact(Classical.choose_spec (⟨w,h⟩:∃w,a8K l w)).unique h
def a1b(l:List Int):List Int:=l.map fun x=>A0k .i64 x (a2W l:Int)
theorem a9k(h:short l)(g:l.all a0A=true):a3I l=some ((a2W l:Nat):Int)∧a2W l≤30∧a8K l (a2W l):=by
 grind[b8R,d0M]
theorem a5C(a:l.length≤4096)(f:l.all a0A=true):b0S ((a2W l:Nat):Int) l=some (a1b l)∧(a1b l).all a0A=true∧(a1b l).length=l.length∧upO ((a2W l:Nat):Int) (a1b l)=some l:=by
 obtain⟨-,g,k⟩:=a9k (show short l by unfold short;omega) f;have h:=d0L g f k;exact⟨h,d0J g h⟩
def a5D(k:Int)(s:Sub)(d:List Int):Option (List Int×List Int):=
 if k=2 then(bif (a2g s.2.2.1.toNat d).all a0A then some (d.take s.2.2.1.toNat,a2g s.2.2.1.toNat d)else none)
 else if k=3 then(b5J d s.2.2.2.2.2.1 s.2.2.2.1).map fun r=>(d.take s.2.2.2.2.2.1.length,r)
 else if k=4 then(b5l d s.2.2.2.2.1 s.2.2.2.2.2.2.1).bind fun x=>(b5J x s.2.2.2.2.2.1 s.2.2.2.1).map fun r=>(x.take s.2.2.2.2.2.1.length,r)
 else(b3d d s.2.2.2.2.2.2.2.1).map fun r=>([],r)
theorem c3D(j:k=2∨k=3∨k=4∨k=5)(i:a3V k s (d.length:Int))(n:d.all a0A=true)(h:a5D k s d=some (wm,r)):
  wm.length≤d.length∧r.length=d.length-wm.length∧r.all a0A=true∧wm.all a0A=true:=by
 have f:=i;simp only[a3V]at f;rcases j with rfl|rfl|rfl|rfl
 ·have:0≤s.2.2.1∧s.2.2.1≤(d.length:Int):=by omega
  simp[a5D]at h;cases hq:(a2g s.2.2.1.toNat d).all a0A with
  |false=>simp_all
  |true=>
   simp[hq]at h;obtain⟨rfl,rfl⟩:=h;simp_all[a5L,b8Q]
 have:(s.2.2.2.2.2.1.length:Int)≤(d.length:Int):=by omega
 simp only[a5D,show ¬ (3:Int)=2 by simp,if_false,if_true,a22,pJ]at h;obtain⟨c,g,rfl,rfl⟩:=h;obtain⟨-,a,b⟩:=b5K g
 grind
 have:(s.2.2.2.2.2.1.length:Int)≤(d.length:Int):=by omega
 simp only[a5D,show ¬ (4:Int)=2 by simp,show ¬ (4:Int)=3 by simp,if_false,if_true,a16,a22,pJ]at h;obtain⟨x,e,c,g,rfl,rfl⟩:=h;obtain⟨-,l,m⟩:=b7h e;obtain⟨-,a,b⟩:=b5K g
 grind
 simp only[a5D,show ¬ (5:Int)=2 by simp,show ¬ (5:Int)=3 by simp,show ¬ (5:Int)=4 by simp,if_false,a22,pJ]at h;obtain⟨c,g,rfl,rfl⟩:=h;obtain⟨-,a,b⟩:=b9L g;simp_all
theorem c8n(v:k=2∨k=3∨k=4∨k=5)(h:SmallS s)(q:a3V k s (d.length:Int))(D:d.length≤4096)(y:d.all a0A=true)(w:Nat):
  b1M (a1H (a0Y k s) w [] z0 [],d)=some (match a5D k s d with|none=>(6,a1H (a0Y k s) w [] z0 [])|some (wm,r)=>(0,a1H (a0Y k s) w wm z0 r)):=by
 have l:=h.taps;have g:=h.stages;have i:short d:=by unfold short;omega
 obtain⟨k',w',o,sh,lag,c,t,st,z,p,E,u⟩:=s;simp only[a3V]at q l g;unfold b1M;rcases v with rfl|rfl|rfl|rfl;obtain⟨n,C,e⟩:0≤o∧o≤4∧o≤(d.length:Int):=by omega
 obtain⟨O,rfl⟩:=a01 n;have g:short (d.take O):=by unfold short;grind
 have j:decide ((O:Int)≤((d.length:Nat):Int))=true:=by simp_all
 simp only[a1H,a0Y,a5D,if_true,show((2:Int)==2)=true from rfl,cT,b6C (show O≤4 by omega) (show O≤d.length by omega) i y,oB,tN]
 grind[b2i,a2h,a8d]
 ·obtain⟨f,e⟩:a9D c sh=true∧(c.length:Int)≤(d.length:Int):=by simp_all
  have g:short (d.take c.length):=by unfold short;grind
  have m:decide ((0:Int)≤((c.length:Nat):Int))=true:=by simp
  have j:decide (((c.length:Nat):Int)≤((d.length:Nat):Int))=true:=by simp_all
  simp only[a1H,a0Y,a5D,show((3:Int)==2)=false from rfl,show((3:Int)==3)=true from rfl,show ¬ (3:Int)=2 by simp,show ¬ (3:Int)=4 by simp,show ¬ (3:Int)=5 by simp,true_or,if_true,if_false,cT,cF,b5k f (show c.length≤d.length by omega) (show d.length<100000 by omega),oB];cases b5J d c sh with
  |none=>rfl
  |some r=>simp_all[a4X,b2i,a2h,a8d]
 ·obtain⟨f,e,a⟩:a9D c sh=true∧(c.length:Int)≤(d.length:Int)∧b1T lag t=true:=by simp_all
  simp[a1H,a0Y,a5D,c3s a l (show d.length<100000 by omega)];cases hx:b5l d lag t with
  |none=>rfl
  |some x=>
   obtain⟨-,A,B⟩:=b7h hx;have g:short (x.take c.length):=by unfold short;grind
   have m:decide ((0:Int)≤((c.length:Nat):Int))=true:=by simp
   have j:decide (((c.length:Nat):Int)≤((x.length:Nat):Int))=true:=by simp_all
   simp[a4X,b5k f (show c.length≤x.length by omega) (show x.length<100000 by omega)]
   grind[b2i,a2h,a8d]
 ·obtain⟨e,b⟩:0<st.length∧a9j st=true:=by simp_all
  have g:short (d.take 0):=by simp[short]
  simp only[a1H,a0Y,a5D,show((5:Int)==2)=false from rfl,show((5:Int)==3)=false from rfl,show((5:Int)==4)=false from rfl,show((5:Int)==5)=true from rfl,show ¬ (5:Int)=2 by simp,show ¬ (5:Int)=3 by simp,show ¬ (5:Int)=4 by simp,or_self,if_true,if_false,cT,cF,c2A b (show d.length<100000 by omega),oB];cases b3d d st with
  |none=>rfl
  |some r=>
   rfl
open Classical in

def a1q (k:Int) (l:List Int) (s:Sub):Sub×Int:=
 if ¬ (1≤l.length∧l.length≤4096∧a3V k s (l.length:Int))then(a1W 0,1)
 else if l.all a0A=false then(a1W 0,6)
 else if k=0 then(bif l.all (fun x=>x==l.headD 0)then(a1H (a0Y 0 s) 0 [l.headD 0] z0 [],0)else(a1W 0,7))
 else if k=1 then(a1H (a0Y 1 s) (a2W l) (a1b l) z0 [],0)
 else match a5D k s (a1b l)with
  |none=>(a1W 0,6)
  |some (wm,r)=>(a1H (a0Y k s) (a2W l) wm (b7B (l.length:Int) (wm.length:Int) r) r,0)
theorem c6e(h:1≤l.length):m0h l 0=some (l.headD 0):=by
 cases l with
 |nil=>grind
 |cons a l=>rfl
theorem c3E(k:1≤l.length)(c:short l)(a b:Sub):
  y0o a5e (l,l,(l.length:Int),(0:Int),a,b,())=some (bif l.all (fun x=>x==l.headD 0)then .inl (l,a,b,())else .inr ((7:Int),a1W 0,())):=by
 have:=a1N (f:=a5e) l (fun i=>(l,l,(l.length:Int),(i:Int),a,b,())) (fun x=>x==l.headD 0) (bt:=Sum.inl (l,a,b,())) (bf:=Sum.inr ((7:Int),a1W 0,()))
  (fun i h hp=>by
   have g:(l[i] != l.headD 0)=false:=by simp_all
   simp only[a5e,dlt h,cT,a0D h,oB,c6e k,g,cF,a0B (a33 h c)])
  (fun i h hp=>by
   have g:(l[i] != l.headD 0)=true:=by simp_all
   simp only[a5e,dlt h,cT,a0D h,oB,c6e k,g];rfl)
  (by simp[a5e])
 omega
theorem b8n(h:a3V k s n)(g:k≠0)(f:k≠1):k=2∨k=3∨k=4∨k=5:=by
 rcases h with h|h|⟨h,-⟩|⟨h,-⟩|⟨h,-⟩|⟨h,-⟩;omega;omega
 all_goals omega
theorem d0N(h:SmallS s)(k:Int)(D:l.length≤100000):b2Q (k,l,s)=some (a1q k l s):=by
 have j:short l:=by unfold short;omega
 unfold b2Q a1q
 by_cases h1:1≤l.length
 rotate_left;have e:decide (((l.length:Nat):Int)<1)=true:=decide_eq_true (by omega);rw[if_pos (fun g=>h1 g.1)];simp only[e,cT,oB];rfl;have a:decide (((l.length:Nat):Int)<1)=false:=decide_eq_false (by omega)
 by_cases h2:l.length≤4096
 rotate_left;have e:decide (((l.length:Nat):Int) > 4096)=true:=decide_eq_true (by omega);rw[if_pos (fun g=>h2 g.2.1)];simp only[a,e,cT,cF,oB];rfl;have o:decide (((l.length:Nat):Int) > 4096)=false:=decide_eq_false (by omega)
 by_cases h3:a3V k s (l.length:Int)
 rotate_left;have b:b3F k s (l.length:Int)=false:=by simp[b3F,h3]
 rw[if_pos (fun g=>h3 g.2.2)];simp only[a,o,b5e h,b,cF,a30,cT,oB];rfl;have b:b3F k s (l.length:Int)=true:=by simp[b3F,h3]
 rw[if_neg (fun g=>g ⟨h1,h2,h3⟩)];simp only[a,o,b5e h,b,cF,bT,oB,a4w j];cases hw:l.all a0A with
 |false=>rfl
 |true=>
  simp only[bT,cF,c7b h,oB];rw[if_neg (by simp)]
  by_cases h0:k=0
  ·subst h0;have w:=c3E h1 j (a1W 0) (a0Y 0 s);have v:a1W 0=((0:Int),(0:Int),(0:Int),(0:Int),(0:Int),([]:(List Int)),a00 3 (0:Int),([]:(List (Int×Int×Unit))),([]:(List Int)),((0:Int),([]:(List Int)),()),([]:(List Int)),()):=rfl;rw[←v,if_pos rfl];simp only[show((0:Int)==0)=true from rfl,cT,w,oB];cases l.all (fun x=>x==l.headD 0)with
   |false=>rfl
   |true=>simp only[cT,c6e h1,oB];rfl
  ·obtain⟨z,A,-⟩:=a9k j hw;obtain⟨t,n,C,-⟩:=a5C h2 hw;have c:(k==0)=false:=by grind
   rw[if_neg h0];simp only[c,cF,z,oB,b5j A (show l.length<100000 by omega),t,a4X,show((0:Int) != 0)=false from rfl]
   by_cases hk1:k=1
   subst hk1;rfl
   ·have i:(k==1)=false:=by simp_all
    have p:=b8n h3 h0 hk1;rw[if_neg hk1];have m:=c8n p h (d:=a1b l) (by simp_all) (by omega) n (a2W l);have u:((a0Y k s).1,((a2W l:Nat):Int),(a0Y k s).2.2)=a1H (a0Y k s) (a2W l) [] z0 []:=rfl;simp only[i,cF,u,m,oB];cases hr:a5D k s (a1b l)with
    |none=>rfl
    |some q=>
     obtain⟨B,r⟩:=q;obtain⟨E,r2,y,-⟩:=c3D p (by simp_all) n hr;have f:a6n (l.length:Int) (B.length:Int)=true:=by simp_all[a6n]
     have hb:=c2D f (l:=r) (by omega) y (by omega);simp only[show((0:Int) != 0)=false from rfl,cF,a1H,hb,oB]
theorem c7c(h:a5z p n warm=true):p.2.1.length≤256:=by
 simp only[a5z,bA,a34,beq_eq_false_iff_ne,ne_eq,beq_iff_eq]at h
 grind[b4I,a1u]
theorem b5O(h:SmallS s)(g:wm.length≤5000)(f:r.length≤5000)(k:p.2.1.length≤300):SmallS (a1H s w wm p r):=
 ⟨h.coefs,h.taps,h.stages,g,f,k⟩
theorem c6f(f:(a1q k l s).2=0):
  1≤l.length∧l.length≤4096∧a3V k s (l.length:Int)∧l.all a0A=true∧
   ((k=0∧l.all (fun x=>x==l.headD 0)=true∧(a1q k l s).1=a1H (a0Y 0 s) 0 [l.headD 0] z0 [])∨
    (k=1∧(a1q k l s).1=a1H (a0Y 1 s) (a2W l) (a1b l) z0 [])∨
     ((k=2∨k=3∨k=4∨k=5)∧∃wm r,a5D k s (a1b l)=some (wm,r)∧(a1q k l s).1=a1H (a0Y k s) (a2W l) wm (b7B (l.length:Int) (wm.length:Int) r) r)):=by
 unfold a1q at f⊢
 split at f
 omega;rename_i g;have g:1≤l.length∧l.length≤4096∧a3V k s (l.length:Int):=Classical.byContradiction g;refine⟨g.1,g.2.1,g.2.2,?_⟩;rw[if_neg (fun h=>h g)]
 split at f
 omega;rename_i d;have a:l.all a0A=true:=by simp_all
 refine⟨a,?_⟩;rw[if_neg d]
 split at f
 grind
 rename_i b;rw[if_neg b]
 split at f
 simp_all;rename_i c;rw[if_neg c];refine .inr (.inr ⟨b8n g.2.2 b c,?_⟩)
 grind
theorem b3M:b5f (a1H (a0Y k s) w wm p r):=by
 unfold b5f a1H a0Y;simp_all
theorem b8S(h:a3V k s n):a3V (a1H (a0Y k s) w wm p r).1 (a1H (a0Y k s) w wm p r) n:=c6d.2 h
theorem c8o{l:List Int}(h:l.all (fun x=>x==l.headD 0)=true):a00 l.length (l.headD 0)=l:=by
 refine(List.eq_replicate_iff.2 ⟨rfl,fun x g=>?_⟩).symm
 grind
theorem c1p(I:SmallS s)(G:(a1q k l s).2=0):
  SmallS (a1q k l s).1∧(a1q k l s).1.1=k∧a1s (a1q k l s).1 (l.length:Int)∧a2f (a1q k l s).1 (l.length:Int)=some l:=by
 obtain⟨S,H,u,A,K⟩:=c6f G;have M:short l:=by unfold short;omega
 obtain⟨-,Y,-⟩:=a9k M A;obtain⟨O,v,P,D⟩:=a5C H A;have d:∀m:Sub,a1s m (l.length:Int)→c3f m (l.length:Int)=some l→a2f m (l.length:Int)=some l:=fun m j n=>by simp_all[a2f]
 have b:=c3C I k;rcases K with⟨rfl,y,e⟩|⟨rfl,e⟩|⟨z,i,r,f,e⟩
 ·rw[e];have g:a1s (a1H (a0Y 0 s) 0 [l.headD 0] z0 []) (l.length:Int):=by
   have T:a0A (l.headD 0)=true:=by
    cases l with
    |nil=>rfl
    |cons a l=>simp_all
   exact⟨by omega,by omega,b8S u,b3M,Int.le_refl _,(by simp:(0:Int)≤30),fun _=>rfl,rfl,by simp_all[a1H],rfl,fun _=>⟨rfl,rfl,rfl⟩,fun h=>absurd rfl h.1⟩
  refine⟨b5O b (by simp) (by simp) (by simp[z0]),rfl,g,d _ g ?_⟩;show some (a00 (l.length:Int).toNat (l.headD 0))=some l
  grind[c8o]
 rw[e];have g:a1s (a1H (a0Y 1 s) (a2W l) (a1b l) z0 []) (l.length:Int):=
  ⟨by omega,by omega,b8S u,b3M,a76 _,(by show((a2W l:Nat):Int)≤30;omega),fun h=>absurd h (by simp:¬ (1:Int)=0),by show(((a1b l).length:Nat):Int)=(l.length:Int);omega,v,rfl,fun _=>⟨rfl,rfl,rfl⟩,fun h=>absurd rfl h.2⟩
 refine⟨b5O b (by omega) (by simp) (by simp[z0]),rfl,g,d _ g ?_⟩;show upO ((a2W l:Nat):Int) (a1b l)=some l;omega
 ·rw[e];obtain⟨X,r2,C,N⟩:=c3D z (by simp_all) v f;have q:a6n (l.length:Int) (i.length:Int)=true:=by simp only[a6n,bA,dT];omega
  have hp:=c8m q (l:=r) (by omega) C (by omega);generalize b7B (l.length:Int) (i.length:Int) r=p at hp;have L:=c7c hp

  have t:a2h (a1H (a0Y k s) (a2W l) i p r) (l.length:Int)=(i.length:Int)∧backP (a1H (a0Y k s) (a2W l) i p r)=some (a1b l):=by
   simp only[a3V]at u;rcases z with rfl|rfl|rfl|rfl
   ·obtain⟨U,V,B⟩:0≤s.2.2.1∧s.2.2.1≤4∧s.2.2.1≤(l.length:Int):=by omega
    simp[a5D]at f;cases hq:(a2g s.2.2.1.toNat (a1b l)).all a0A with
    |false=>simp_all
    |true=>
     simp[hq]at f;obtain⟨rfl,rfl⟩:=f;refine⟨?_,?_⟩;show s.2.2.1=_
     grind
     show b8M ((a1b l).take s.2.2.1.toNat) (a2g s.2.2.1.toNat (a1b l)) s.2.2.1=some (a1b l);have hb:=c3o v (o:=s.2.2.1.toNat) (by omega) ((a1b l).length-s.2.2.1.toNat) 0 (by omega);rw[a31,a79]at hb
     grind[b8M]
   have B:(s.2.2.2.2.2.1.length:Int)≤(l.length:Int):=by omega
   simp only[a5D,show ¬ (3:Int)=2 by simp,if_false,if_true,a22,pJ]at f;obtain⟨w,j,rfl,rfl⟩:=f;obtain⟨n,-,-⟩:=b5K j;refine⟨?_,?_⟩;show((s.2.2.2.2.2.1.length:Nat):Int)=_;simp_all;exact n;have B:(s.2.2.2.2.2.1.length:Int)≤(l.length:Int):=by omega
   simp only[a5D,show ¬ (4:Int)=2 by simp,show ¬ (4:Int)=3 by simp,if_false,if_true,a16,a22,pJ]at f;obtain⟨x,F,w,j,rfl,rfl⟩:=f;obtain⟨Q,-,R⟩:=b7h F;obtain⟨n,-,-⟩:=b5K j;refine⟨?_,?_⟩;show((s.2.2.2.2.2.1.length:Nat):Int)=_;simp_all;show(b3z (x.take s.2.2.2.2.2.1.length) w s.2.2.2.2.2.1 s.2.2.2.1).bind (fun l=>b4b l s.2.2.2.2.1 s.2.2.2.2.2.2.1)=_;simp_all;simp only[a5D,show ¬ (5:Int)=2 by simp,show ¬ (5:Int)=3 by simp,show ¬ (5:Int)=4 by simp,if_false,a22,pJ]at f;obtain⟨w,j,rfl,rfl⟩:=f;obtain⟨n,-,-⟩:=b9L j;exact⟨rfl,n⟩
  have c:¬ (k=0∨k=1):=by omega
  have g:a1s (a1H (a0Y k s) (a2W l) i p r) (l.length:Int):=by
   unfold a1s;rw[t.1];exact⟨by omega,by omega,b8S u,b3M,a76 _,(by show((a2W l:Nat):Int)≤30;omega),fun h=>absurd (.inl h) c,rfl,N,C,fun h=>absurd h c,fun _=>⟨(by show((r.length:Nat):Int)=_;omega),hp⟩⟩
  refine⟨b5O b (by omega) (by omega) (by omega),rfl,g,d _ g ?_⟩;have E:¬ (a1H (a0Y k s) (a2W l) i p r).1=0:=fun h=>c (.inl h);unfold c3f;rw[if_neg E,t.2];exact D
theorem c6g:SmallS (a1W 0):=c4I 0
def cS(k o sh:Int)(c:List Int)(st:List Stg):Sub:=
 (k,(0:Int),o,sh,(0:Int),c,a00 3 (0:Int),st,([]:List Int),((0:Int),([]:List Int),()),([]:List Int),())
theorem b1q{k o sh:Int}{c:List Int}{st:List Stg}(h:c.length≤40)(g:st.length≤6):SmallS (cS k o sh c st):=
 ⟨h,rfl,g,by simp[cS],by simp[cS],by simp[cS]⟩
def b3a(d:List Int)(o w:Int):List Int×(Int×Int):=(a3U (d,o,w)).getD ([],0,1)
def b1r(d:List Int)(o w:Int):List Sub:=bif (b3a d o w).2.2==0 then[cS 3 0 (b3a d o w).2.1 (b3a d o w).1 []]else[]
def c6h(d:List Int):Int:=(a6g d).getD 0
def b5P(d:List Int):Sub×Bool:=(a3z d).getD (a1W 0,false)
def b8T(d:List Int):List Sub:=bif (b5P d).2 then[(b5P d).1]else[]
def b1s(i:Nat):List Sub:=(List.range i).map fun(j:Nat)=>cS 2 (j:Int) 0 [] []
def a2j(d:List Int):List Sub:=[cS 0 0 0 [] [],cS 1 0 0 [] [],cS 2 (c6h d) 0 [] []]
def a3u(d:List Int)(k:Int):List Sub:=if 1≤k then b1r d 4 12++b1r d 8 12 else[]
def b0T(d:List Int)(k:Int):List Sub:=if 2≤k then[cS 5 0 0 [] [((16:Int),(4:Int),())],cS 5 0 0 [] [((32:Int),(3:Int),()),((16:Int),(5:Int),())]]++b8T d else[]
def b9S(d:List Int)(k:Int):List Sub:=if 3≤k then b1s 5++(b1r d 1 12++(b1r d 2 12++(b1r d 12 14++b1r d 16 14)))else[]
def a2K(d:List Int)(k:Int):List Sub:=a2j d++(a3u d k++(b0T d k++b9S d k))
def b7C(d:List Int):Prop:=a3z d=some (b5P d)∧((b5P d).2=true→SmallS (b5P d).1)
theorem c3F(a:d.all a0A=true)(k:d.length≤4096)(h:1≤o)(g:o≤32)(f:2≤w∧w≤16):
  a3U (d,(o:Int),(w:Int))=some (b3a d o w)∧((b3a d o w).2.2=0→(b3a d o w).1.length=o):=by
 obtain⟨c,sh,e,b,i⟩:=c6W a k h g f;unfold b3a;simp_all
theorem b1t(d:List Int)(o w:Int):(b1r d o w).length≤1:=by
 grind[b1r]
theorem b1u(c:d.all a0A=true)(b:d.length≤4096)(f:1≤o)(k:o≤32)(a:2≤w∧w≤16){L:List Sub}(e:L.length<1000):
  a0P ((o:Int),(w:Int),d,L)=some (d,L++b1r d o w):=by
 obtain⟨g,-⟩:=c3F c b f k a;have h:lim (L.length+1)=true:=a0S (by omega);unfold a0P b1r;simp only[g,oB];cases (b3a d o w).2.2==0 with
 |true=>simp only[cT,h];rfl
 |false=>simp
theorem c6i{L:List Sub}(k:L.length<1000):y0o a2l ((0:Int),L,d,())=some (L++b1s 5,d,()):=by
 have:=a1B (f:=a2l) (fun i:Nat=>((i:Int),L++b1s i,d,())) 5 (b:=(L++b1s 5,d,()))
  (fun i hi=>by
   have g:decide ((i:Int)<5)=true:=decide_eq_true (by omega);have h:lim ((L++b1s i).length+1)=true:=a0S (by simp[b1s];omega);have e:(L++b1s i)++[cS 2 (i:Int) 0 [] []]=L++b1s (i+1):=by simp[b1s,List.range_succ]
   rw[←e];simp only[a2l,g,cT,h,a0B (show i<1000000 by omega)];rfl)
  (by
   rfl)
 simp at this;rw[show b1s 0=[]from rfl,a47]at this;omega
theorem d0O(a:d.all a0A=true)(c:d.length≤4096)(l:b7C d)(k:Int):a6J (d,k)=some (a2K d k):=by
 obtain⟨o,E,F⟩:=b9J (show d.length<100000 by omega) a;have hb:c6h d=(o:Int):=by simp_all[c6h]
 have D:(b8T d).length≤1:=by grind[b8T]
 have O:=b1t d 4 12;have P:=b1t d 8 12;have M:=b1t d 1 12;have N:=b1t d 2 12;have G:=b1t d 12 14;have y:=fun L (hL:L.length<1000)=>b1u (L:=L) a c (o:=4) (w:=12) (by omega) (by omega) (by omega) hL;have z:=fun L (hL:L.length<1000)=>b1u (L:=L) a c (o:=8) (w:=12) (by omega) (by omega) (by omega) hL;have v:=fun L (hL:L.length<1000)=>b1u (L:=L) a c (o:=1) (w:=12) (by omega) (by omega) (by omega) hL;have x:=fun L (hL:L.length<1000)=>b1u (L:=L) a c (o:=2) (w:=12) (by omega) (by omega) (by omega) hL;have i:=fun L (hL:L.length<1000)=>b1u (L:=L) a c (o:=12) (w:=14) (by omega) (by omega) (by omega) hL;have j:=fun L (hL:L.length<1000)=>b1u (L:=L) a c (o:=16) (w:=14) (by omega) (by omega) (by omega) hL;simp at y z v x i j;have Q:(a2j d).length=3:=rfl;have R:(a3u d k).length≤2:=by unfold a3u;split<;>simp<;>omega
 have S:(b0T d k).length≤3:=by unfold b0T;split<;>simp<;>omega
 have T:(b1s 5).length=5:=rfl;have K:(bif decide (k≥1)then((a0P ((4:Int),(12:Int),d,a2j d)).bind fun n=>(a0P ((8:Int),(12:Int),n.1,n.2)).bind fun p=>some (k,p.1,p.2,()))else some (k,d,a2j d,()))=some (k,d,a2j d++a3u d k,()):=by
  unfold a3u
  by_cases h:1≤k
  have e:decide (k≥1)=true:=decide_eq_true h;simp only[e,cT,y (a2j d) (by omega),oB,z (a2j d++b1r d 4 12) (by grind),if_pos h,aA]
  grind
 have C:a6J (d,k)=(a6g d).bind fun A=>
   (show Option (Int×((List Int)×((List Sub)×Unit)))from bif decide (k≥1)then((a0P ((4:Int),(12:Int),d,[cS 0 0 0 [] [],cS 1 0 0 [] [],cS 2 A 0 [] []])).bind fun n=>(a0P ((8:Int),(12:Int),n.1,n.2)).bind fun p=>some (k,p.1,p.2,()))else some (k,d,[cS 0 0 0 [] [],cS 1 0 0 [] [],cS 2 A 0 [] []],())).bind fun g=>
   (show Option (Int×((List Sub)×((List Int)×Unit)))from bif decide (g.1≥2)then(bif lim (g.2.2.1.length+1)then(bif lim ((g.2.2.1++[cS 5 0 0 [] [((16:Int),(4:Int),())]]).length+1)then((a3z g.2.1).bind fun q=>
    bif q.2 then(bif lim ((g.2.2.1++[cS 5 0 0 [] [((16:Int),(4:Int),())]]++[cS 5 0 0 [] [((32:Int),(3:Int),()),((16:Int),(5:Int),())]]).length+1)then some (g.1,g.2.2.1++[cS 5 0 0 [] [((16:Int),(4:Int),())]]++[cS 5 0 0 [] [((32:Int),(3:Int),()),((16:Int),(5:Int),())]]++[q.1],g.2.1,())else none)
    else some (g.1,g.2.2.1++[cS 5 0 0 [] [((16:Int),(4:Int),())]]++[cS 5 0 0 [] [((32:Int),(3:Int),()),((16:Int),(5:Int),())]],g.2.1,()))else none)else none)else some (g.1,g.2.2.1,g.2.1,())).bind fun t=>
   (show Option ((List Sub)×Unit)from bif decide (t.1≥3)then((y0o a2l ((0:Int),t.2.1,t.2.2.1,())).bind fun m=>(a0P ((1:Int),(12:Int),m.2.1,m.1)).bind fun r=>(a0P ((2:Int),(12:Int),r.1,r.2)).bind fun s=>
    (a0P ((12:Int),(14:Int),s.1,s.2)).bind fun f=>(a0P ((16:Int),(14:Int),f.1,f.2)).bind fun b=>some (b.2,()))else some (t.2.1,())).bind fun u=>some u.1:=rfl
 have B:[cS 0 0 0 [] [],cS 1 0 0 [] [],cS 2 (o:Int) 0 [] []]=a2j d:=by unfold a2j;grind
 have U:(bif decide (k≥2)then(bif lim ((a2j d++a3u d k).length+1)then(bif lim ((a2j d++a3u d k++[cS 5 0 0 [] [((16:Int),(4:Int),())]]).length+1)then((a3z d).bind fun q=>
    bif q.2 then(bif lim ((a2j d++a3u d k++[cS 5 0 0 [] [((16:Int),(4:Int),())]]++[cS 5 0 0 [] [((32:Int),(3:Int),()),((16:Int),(5:Int),())]]).length+1)then some (k,a2j d++a3u d k++[cS 5 0 0 [] [((16:Int),(4:Int),())]]++[cS 5 0 0 [] [((32:Int),(3:Int),()),((16:Int),(5:Int),())]]++[q.1],d,())else none)
    else some (k,a2j d++a3u d k++[cS 5 0 0 [] [((16:Int),(4:Int),())]]++[cS 5 0 0 [] [((32:Int),(3:Int),()),((16:Int),(5:Int),())]],d,()))else none)else none)else some (k,a2j d++a3u d k,d,()):Option (Int×((List Sub)×((List Int)×Unit))))=some (k,a2j d++(a3u d k++b0T d k),d,()):=by
  unfold b0T
  by_cases h:2≤k
  have e:decide (k≥2)=true:=decide_eq_true h;have q1:lim ((a2j d++a3u d k).length+1)=true:=a0S (by grind);have H:lim ((a2j d++a3u d k++[cS 5 0 0 [] [((16:Int),(4:Int),())]]).length+1)=true:=a0S (by simp;omega);have I:lim ((a2j d++a3u d k++[cS 5 0 0 [] [((16:Int),(4:Int),())]]++[cS 5 0 0 [] [((32:Int),(3:Int),()),((16:Int),(5:Int),())]]).length+1)=true:=a0S (by simp;omega);simp only[e,q1,H,I,cT,l.1,oB,if_pos h,b8T];cases (b5P d).2<;>simp
  grind
 have V:(bif decide (k≥3)then((y0o a2l ((0:Int),a2j d++(a3u d k++b0T d k),d,())).bind fun m=>(a0P ((1:Int),(12:Int),m.2.1,m.1)).bind fun r=>(a0P ((2:Int),(12:Int),r.1,r.2)).bind fun s=>
    (a0P ((12:Int),(14:Int),s.1,s.2)).bind fun f=>(a0P ((16:Int),(14:Int),f.1,f.2)).bind fun b=>some (b.2,()))else some (a2j d++(a3u d k++b0T d k),()):Option ((List Sub)×Unit))=some (a2K d k,()):=by
  unfold a2K b9S
  by_cases h:3≤k
  have e:decide (k≥3)=true:=decide_eq_true h;simp only[e,cT,c6i (L:=a2j d++(a3u d k++b0T d k)) (by simp;omega),oB,if_pos h];rw[v _ (by simp;omega)];simp only[oB];rw[x _ (by simp;omega)];simp only[oB];rw[i _ (by simp;omega)];simp only[oB];rw[j _ (by simp;omega)]
  simp
  grind
 rw[C,E,oB,B];simp only[];rw[K];simp only[oB];simp_all
theorem b9T(l:d.all a0A=true)(i:d.length≤4096)(f:b7C d)(k:Int):∀c∈a2K d k,SmallS c:=by
 have g:∀(o w:Nat),1≤o→o≤32→2≤w∧w≤16→∀c∈b1r d o w,SmallS c:=fun o w a b e c h=>by
  obtain⟨-,m⟩:=c3F l i a b e;unfold b1r at h;cases he:(b3a d o w).2.2==0 with
  |false=>simp_all
  |true=>
   rw[he]at h;simp at h
   grind[b1q]
 intro c h;simp[a2K]at h;rcases h with h|h|h|h;simp[a2j]at h;rcases h with rfl|rfl|rfl<;>exact b1q (by simp) (by simp);unfold a3u at h
 split at h
 simp at h;rcases h with h|h;exact g 4 12 (by omega) (by omega) (by omega) c h;exact g 8 12 (by omega) (by omega) (by omega) c h;simp_all
 ·unfold b0T at h
  split at h
  ·simp only[mA,mC,a93,or_false]at h;rcases h with(rfl|rfl)|h;simp_all[b1q];simp_all[b1q]
   ·unfold b8T at h;cases hg:(b5P d).2 with
    |false=>simp_all
    |true=>
     rw[hg]at h;simp at h;subst h;exact f.2 hg
  simp_all
 unfold b9S at h
 split at h
 simp only[mA,b1s,List.mem_map]at h;rcases h with⟨j,-,rfl⟩|h|h|h|h;simp_all[b1q];exact g 1 12 (by omega) (by omega) (by omega) c h;exact g 2 12 (by omega) (by omega) (by omega) c h;exact g 12 14 (by omega) (by omega) (by omega) c h;exact g 16 14 (by omega) (by omega) (by omega) c h;simp_all
theorem c8p(g:d.length≤256):a3z d=some (a1W 0,false):=by
 have h:b1L (d,(16:Int),(256:Int))=some (0,7):=by
  unfold b1L
  grind
 unfold a3z;simp only[h,oB,show((7:Int) != 0)=true from rfl,cT];rfl
theorem c7d{d:List Int}(g:d.length≤256):b7C d:=by
 have h:=c8p g
 have:b5P d=(a1W 0,false):=by unfold b5P;simp_all
 exact⟨by simp_all,fun f=>by simp_all⟩
def b5o(l:List Int)(a:Int×(Bool×Sub))(c:Sub):Int×(Bool×Sub):=
 bif (a1q c.1 l c).2 != 0 then a else bif !a.2.1 || decide (a2Z (a1q c.1 l c).1 (l.length:Int)<a.1)then(a2Z (a1q c.1 l c).1 (l.length:Int),true,(a1q c.1 l c).1)else a
def b5Q(l:List Int)(cs:List Sub):Int×(Bool×Sub):=cs.foldl (b5o l) (0,false,a1W 0)
theorem b5R{α A β:Type}(g:A→α→A)(h:A→β):∀(l:List α)(a:A),a8V h (a2J (fun a x=>.inl (g a x)) l a)=h (l.foldl g a)
 | [],_=>rfl
 |x::l,a=>b5R g h l (g a x)
theorem c4J(h:SmallS s):SmallS (a1q k l s).1:=by
 by_cases h0:(a1q k l s).2=0
 exact(c1p h h0).1
 have:(a1q k l s).1=a1W 0:=by
  unfold a1q at h0⊢
  grind
 simp_all[c6g]
theorem c7e{cs:List Sub}(e:∀c∈cs,SmallS c)(o:l.length≤4096)(n:cs.length<1000):
  y0o a7h (l,(0:Int),false,cs,((cs.length:Nat):Int),(0:Int),a1W 0,a1W 0,())=some (a1W 0,(b5Q l cs).2.2,()):=by
 have:=a1M (f:=a7h) cs (fun i a=>(l,a.1,a.2.1,cs,((cs.length:Nat):Int),(i:Int),a1W 0,a.2.2,())) (fun a x=>.inl (b5o l a x)) (fun _ _=>True) (fun a=>(a1W 0,a.2.2,()))
  (fun i hi a _=>by
   refine⟨fun m h=>?_,fun b hb=>by grind⟩;simp at h;subst h;refine⟨?_,trivial⟩;have g:=e _ (a05 hi);have d:=b7A (c4J (k:=cs[i].1) (l:=l) g) (l.length:Int);unfold b5o;simp only[a7h,dlt hi,cT,a0D hi,oB,d0N g cs[i].1 (show l.length≤100000 by omega),d,a0B (show i<1000000 by omega)];cases (a1q cs[i].1 l cs[i]).2 != 0 with
   |true=>rfl
   |false=>
    have j:=a0B (show i<1000000 by omega)
    grind)
  (fun a _=>by simp_all[a7h]) (a:=((0:Int),false,a1W 0)) trivial
 simp at this;rw[this,b5R];rfl
theorem d0P(v:1≤l.length)(c:l.length≤4096)(a:l.all a0A=true)(h:b7C (a1b l))(u:0≤k)(x:k≤3):
  a2q (l,k)=some ((b5Q l (a2K (a1b l) k)).2.2,0):=by
 have d:short l:=by unfold short;omega
 obtain⟨r,s,-⟩:=a9k d a;obtain⟨e,b,t,-⟩:=a5C c a;have i:decide (((l.length:Nat):Int)<1)=false:=decide_eq_false (by omega);have j:decide (((l.length:Nat):Int) > 4096)=false:=decide_eq_false (by omega);have m:decide (k<0)=false:=decide_eq_false (by omega);have n:decide (k > 3)=false:=decide_eq_false (by omega);have f:(a2K (a1b l) k).length<1000:=by
  have g:=fun o w=>b1t (a1b l) o w;have q1:=g 4 12;have y:=g 8 12;have z:=g 1 12;have A:=g 2 12;have B:=g 12 14;have C:=g 16 14;have p:(b8T (a1b l)).length≤1:=by grind[b8T]
  simp only[a2K,a2j,a3u,b0T,b9S,lN]
  grind[b1s]
 have hb:=c7e (l:=l) (b9T b (by omega) h k) c f;have q:a1W 0=((0:Int),(0:Int),(0:Int),(0:Int),(0:Int),([]:(List Int)),a00 3 (0:Int),([]:(List (Int×Int×Unit))),([]:(List Int)),((0:Int),([]:(List Int)),()),([]:(List Int)),()):=rfl;unfold a2q;simp only[←q,i,j,m,n,cF,oB,a4w d,a,bT,r,b5j s (show l.length<100000 by omega),e,a4X,show((0:Int) != 0)=false from rfl,d0O b (show(a1b l).length≤4096 by omega) h,hb]
theorem b1v(v:Int)(n:Nat)(L:List Int):(a0O v n L).length=L.length+(a0O v n []).length:=by
 grind[a0O]
theorem b4k(n:Nat):∀(l L:List Int),(a1C n l L).length=L.length+(a1C n l []).length
 | [],L=>by rfl
 |x::l,L=>by
  show(a1C n l (a0O (a0W x n) n L)).length=L.length+(a1C n l (a0O (a0W x n) n [])).length;rw[b4k n l,b4k n l (a0O (a0W x n) n []),b1v];omega
theorem b4L:∀(st:List Stg)(L:List Int),(a3j st L).length=L.length+(a3j st []).length
 | [],L=>by rfl
 |s::st,L=>by
  show(a3j st (a6q s L)).length=L.length+(a3j st (a6q s [])).length;rw[b4L st,b4L st (a6q s [])];unfold a6q;rw[b1v,b1v _ 5 L,b1v _ 4 (a0O _ 5 [])];omega
theorem c6j(s:Sub)(L:List Int):(a6r s L).length=L.length+(a6r s []).length:=by
 grind[a6r,b4k,b1v]
theorem c1Q(s:Sub)(L:List Int):(a2r s L).length=L.length+(a2r s []).length:=by
 grind[a2r,b1v,c6j,b4k,b4L]
theorem c8q(g:0≤s.1∧s.1≤5)(f:0≤s.2.1∧s.2.1≤30)(h:s.2.2.2.2.2.2.2.2.1.all a0A=true)(L:List Int):(b1V s L).length=L.length+13:=by
 grind[a01,a1Q,b1V,a3C,b1p]
def c6k(s:Sub)(zn:List Nat):Nat:=
 13+(a2r s []).length+a0I s.2.2.2.2.2.2.2.2.1*s.2.2.2.2.2.2.2.2.1.length+if s.1=0∨s.1=1 then 0 else 4+a5B zn s.2.2.2.2.2.2.2.2.2.1.2.1 s.2.2.2.2.2.2.2.2.2.2.1
theorem b5S(h:a3V k s n):0≤k∧k≤5:=by
 rcases h with h|h|⟨h,-⟩|⟨h,-⟩|⟨h,-⟩|⟨h,-⟩<;>omega
theorem b4M(h:(a2f s n).isSome=true):a1s s n:=by
 grind[a2f]
theorem d0Q(h:(a2f s n).isSome=true)(d:s.1≠0∧s.1≠1→PartsOk s.2.2.2.2.2.2.2.2.2.1 n ((s.2.2.2.2.2.2.2.2.1.length:Nat):Int) s.2.2.2.2.2.2.2.2.2.2.1 zn)(L:List Int):
  (a5g s zn L).length=L.length+c6k s zn:=by
 obtain⟨e,i,b,-,k,a,-,-,f,-⟩:=b4M h;have c:=a1Q f;have g:=c8q (b5S b) ⟨k,a⟩ f L;unfold a5g c6k
 by_cases hk:s.1=0∨s.1=1
 rw[if_pos hk,if_pos hk,b4i (by omega),c1Q,g];omega;rw[if_neg hk,if_neg hk,c2C (d (not_or.1 hk)),b4i (by omega),c1Q,g];omega
theorem c8r(h:SmallS s)(f:(a2f s n).isSome=true):∃g,a2Z s n=((c6k s g:Nat):Int)∧(s.1≠0∧s.1≠1→PartsOk s.2.2.2.2.2.2.2.2.2.1 n ((s.2.2.2.2.2.2.2.2.1.length:Nat):Int) s.2.2.2.2.2.2.2.2.2.2.1 g):=by
 obtain⟨e,b,-,-,-,a,-⟩:=b5E h (n:=n) (L:=[]) (by simp);obtain⟨-,g,-,k⟩:=a f;refine⟨g,?_,k⟩;unfold a2Z;rw[if_pos f,←c1n k,d0Q f k]
 simp
structure Shifted (l m:List Int) (n:Nat):Prop where
 len:m.length=l.length
 wl:l.all a0A=true
 wm:m.all a0A=true
 down:a1b m=a1b l
 waste:a2W m=a2W l+n
 fl:l.all (fun x=>x==l.headD 0)=false
 fm:m.all (fun x=>x==m.headD 0)=false
structure BestIs (l:List Int) (cs:List Sub) (a:Int×(Bool×Sub)):Prop where
 one:a.2.1=true→∃c∈cs,(a1q c.1 l c).2=0∧a.2.2=(a1q c.1 l c).1∧a.1=a2Z a.2.2 (l.length:Int)
 least:∀c∈cs,(a1q c.1 l c).2=0→a.2.1=true∧a.1≤a2Z (a1q c.1 l c).1 (l.length:Int)
theorem b7k{l:List Int}:∀(cs ds:List Sub)(a:Int×(Bool×Sub)),BestIs l ds a→BestIs l (ds++cs) (cs.foldl (b5o l) a)
 | [],ds,a,h=>by simp_all
 |c::cs,ds,a,h=>by
  rw[a98,show ds++c::cs=(ds++[c])++cs by simp];refine b7k cs (ds++[c]) _ ?_
  unfold b5o
  by_cases h0:(a1q c.1 l c).2=0
  ·have e:((a1q c.1 l c).2 != 0)=false:=by simp_all
   rw[e,cF];cases hq:(!a.2.1 || decide (a2Z (a1q c.1 l c).1 (l.length:Int)<a.1))with
   |true=>
    refine⟨fun _=>⟨c,by simp,h0,rfl,rfl⟩,fun d f k=>⟨rfl,?_⟩⟩;rcases mA.1 f with f|f;obtain⟨i,j⟩:=h.least d f k
    grind
    simp_all
   |false=>
    simp only[a73,Bool.not_eq_false',decide_eq_false_iff_not]at hq;refine⟨fun b=>?_,fun d f k=>?_⟩;obtain⟨d,f,g⟩:=h.one b
    grind
    rcases mA.1 f with f|f;exact h.least d f k;simp_all
  have e:((a1q c.1 l c).2 != 0)=true:=by simp_all
  rw[e,cT];refine⟨fun b=>?_,fun d f k=>?_⟩;obtain⟨d,f,g⟩:=h.one b
  grind
  rcases mA.1 f with f|f;exact h.least d f k;simp_all
theorem b7D(l:List Int)(cs:List Sub):BestIs l cs (b5Q l cs):=
 b7k cs [] _ ⟨fun h=>(by grind),fun _ h=>(by grind)⟩
theorem b5T(h:1≤l.length)(g:l.length≤4096)(f:l.all a0A=true):a1q 1 l (cS 1 0 0 [] [])=(a1H (a0Y 1 (cS 1 0 0 [] [])) (a2W l) (a1b l) z0 [],0):=by
 unfold a1q;rw[if_neg (fun q=>q ⟨h,g,.inr (.inl rfl)⟩),if_neg (by simp_all),if_neg (by simp),if_pos rfl]
theorem b9U(h:1≤l.length)(g:l.length≤4096)(f:l.all a0A=true)(d:List Int)(k:Int):(b5Q l (a2K d k)).2.1=true:=
 ((b7D l (a2K d k)).least (cS 1 0 0 [] []) (by simp[a2K,a2j]) (by rw[show(cS 1 0 0 [] []).1=1 from rfl,b5T h g f])).1
def inW(x:Int)(v:Nat):Bool:=decide (x=0) || a1i x (v:Int)
theorem c8s{x:Int}{v:Nat}:a1i x (v:Int)=true↔1≤v∧v≤31∧-((2^(v-1):Nat):Int)≤x∧x≤((2^(v-1):Nat):Int)-1:=by
 by_cases hv:1≤v∧v≤31
 have e:((v:Int)-1)=((v-1:Nat):Int):=by omega
 have hp:2^(v-1)≤2^30:=a06 (by omega) (by omega);have a:=a18 (v-1);have g:A0j .i64 1 ((v-1:Nat):Int)=((2^(v-1):Nat):Int):=c3p (by omega);have f:A0j .i64 (-1) ((v-1:Nat):Int)=-((2^(v-1):Nat):Int):=by
  grind[IntKind.bits,A0j,a0C]
 have k:wrap .i64 (((2^(v-1):Nat):Int)-1)=((2^(v-1):Nat):Int)-1:=a0C (by omega);simp only[a1i,e,g,f,k,bA,dT];omega;constructor;intro h;simp[a1i]at h;omega;omega
theorem b7E:inW x v=true↔x=0∨(1≤v∧v≤31∧-((2^(v-1):Nat):Int)≤x∧x≤((2^(v-1):Nat):Int)-1):=by
 simp_all[inW,c8s]
theorem c8t{x:Int}{v w:Nat}(h:v≤w)(c:w≤31)(g:inW x v=true):inW x w=true:=by
 rw[b7E]at g⊢;rcases g with g|⟨f,k,a,b⟩;omega
 have:2^(v-1)≤2^(w-1):=a06 (by omega) (by omega)
 omega
theorem c8u{x:Int}(h:a0A x=true):inW x 31=true:=by
 have:=a1D.1 h
 rw[b7E];omega
theorem c1R{x:Int}(j:a0A x=true):∀(k w:Nat),w+k=32→w≤31→w≤a1G x k w∧a1G x k w≤31∧inW x (a1G x k w)=true∧∀v,w≤v→inW x v=true→v≤31→a1G x k w≤v
 |0,w,h,g=>absurd g (by omega)
 |k+1,w,h,g=>by
  by_cases hin:inW x w=true
  ·have:a1G x (k+1) w=w:=by
    unfold a1G;cases a:(x != 0)&&!a1i x (w:Int)with
    |false=>rfl
    |true=>
     simp at a;simp_all[inW]
   simp_all
  have a:((x != 0)&&!a1i x (w:Int))=true:=by
   simp_all[inW]
  have i:w≠31:=fun e=>hin (by simp_all[c8u]);have e:a1G x (k+1) w=a1G x k (w+1):=by
   show(bif (x != 0)&&!a1i x (w:Int)then a1G x k (w+1)else w)=_
   grind
  obtain⟨l,b,c,d⟩:=c1R j k (w+1) (by omega) (by omega);rw[e];refine⟨by omega,b,c,fun v hv f g=>d v ?_ f g⟩;rcases Nat.lt_or_ge w v with q|q;exact q
  have:v=w:=by omega
  exact absurd (this▸f) hin
theorem b0U:∀(l:List Int)(w:Nat),l.all a0A=true→w≤31→
  w≤l.foldl (fun w x=>a1G x (32-w) w) w∧l.foldl (fun w x=>a1G x (32-w) w) w≤31∧(∀x∈l,inW x (l.foldl (fun w x=>a1G x (32-w) w) w)=true)∧∀v,w≤v→v≤31→(∀x∈l,inW x v=true)→l.foldl (fun w x=>a1G x (32-w) w) w≤v
 | [],w,_,h31=>⟨a23 _,h31,by simp,fun v hv _ _=>hv⟩
 |x::l,w,h,h31=>by
  rw[a07,bA]at h;obtain⟨i,b,j,m⟩:=c1R h.1 (32-w) w (by omega) h31;obtain⟨c,a,d,e⟩:=b0U l (a1G x (32-w) w) h.2 b;simp only[a98];refine⟨by omega,a,fun y k=>?_,fun v hv f g=>?_⟩
  ·rcases mC.1 k with rfl|k
   all_goals grind[c8t]
  simp_all
theorem c3G{l:List Int}(h:l.all a0A=true):∀x∈l,inW x (a0I l)=true:=(b0U l 0 h (by omega)).2.2.1
theorem c4K(h:l.all a0A=true)(hv:v≤31)(g:∀x∈l,inW x v=true):a0I l≤v:=(b0U l 0 h (by omega)).2.2.2 v (by omega) hv g
theorem c8v{x:Int}{w v:Nat}(e:w≤30)(k:((2^w:Nat):Int) ∣ x)(h:inW x v=true):inW (A0k .i64 x (w:Int)) v=true:=by
 obtain⟨c,rfl⟩:=k;rw[c8j (by omega)];rw[b7E]at h⊢;have hp:(1:Int)≤((2^w:Nat):Int):=by have:=a18 w;omega
 generalize ((2^w:Nat):Int)=p at h hp;rcases h with h|⟨g,f,b,d⟩
 grind[Int.mul_eq_zero]
 refine .inr ⟨g,f,?_,?_⟩
 by_cases hc:0≤c
 omega;have a:=a49 (show 0≤p-1 by omega) (show 0≤-c by omega)
 grind
 by_cases hc:0≤c
 have a:=a49 (show 0≤p-1 by omega) hc
 grind
 omega
theorem c6l(k:l.length≤4096)(h:l.all a0A=true):a0I (a1b l)≤a0I l:=by
 obtain⟨-,e,c⟩:=a9k (show short l by unfold short;omega) h;obtain⟨-,f,-,-⟩:=a5C k h;have a:∀x∈l,((2^a2W l:Nat):Int) ∣ x:=by
  rcases c with⟨g,-⟩|⟨-,-,g,-⟩
  all_goals grind[a81]
 refine c4K f (a1Q h) fun y b=>?_
 obtain⟨x,d,rfl⟩:=List.mem_map.1 b
 grind[c8v,c3G]
theorem c6m(a:1≤l.length)(h:l.length≤4096)(g:l.all a0A=true):a2Z (a1q 1 l (cS 1 0 0 [] [])).1 (l.length:Int)=((13+a0I (a1b l)*l.length:Nat):Int):=by
 have b:SmallS (cS 1 0 0 [] []):=b1q (by simp) (by simp);have d:=b5T a h g;obtain⟨a1,-,-,f⟩:=c1p b (k:=1) (l:=l) (by grind);obtain⟨i,c,-⟩:=c8r a1 (by rw[f];rfl);obtain⟨-,-,j,-⟩:=a5C h g;rw[c,d];have e:c6k (a1H (a0Y 1 (cS 1 0 0 [] [])) (a2W l) (a1b l) z0 []) i=13+0+a0I (a1b l)*(a1b l).length+0:=rfl;simp_all
theorem c7f{d:List Int}{k k':Int}(h:k≤k'):∀c∈a2K d k,c∈a2K d k':=by
 intro c g;simp[a2K]at g⊢;rcases g with g|g|g|g;simp_all;refine .inr (.inl ?_);unfold a3u at g⊢
 grind
 refine .inr (.inr (.inl ?_));unfold b0T at g⊢
 grind
 refine .inr (.inr (.inr ?_));unfold b9S at g⊢
 grind
theorem b5U{l:List Int}(b:1≤l.length)(f:l.length≤4096)(a:l.all a0A=true)(g:b7C (a1b l)){k:Int}(d:0≤k)(t:k≤3):
  ∃s,a2q (l,k)=some (s,0)∧SmallS s∧a2f s (l.length:Int)=some l∧s=(b5Q l (a2K (a1b l) k)).2.2∧a2Z s (l.length:Int)=(b5Q l (a2K (a1b l) k)).1∧a2Z s (l.length:Int)≤((13+a0I l*l.length:Nat):Int)∧
   (∀c∈a2K (a1b l) k,(a1q c.1 l c).2=0→a2Z s (l.length:Int)≤a2Z (a1q c.1 l c).1 (l.length:Int)):=by
 obtain⟨-,p,u,-⟩:=a5C f a;have hb:=d0P b f a g d t;have j:=b9U b f a (a1b l) k;obtain⟨c,i,q,r,o⟩:=(b7D l (a2K (a1b l) k)).one j;have e:=b9T p (by omega) g k c i;obtain⟨m,-,-,n⟩:=c1p e q;rw[←r]at m n;have h:∀c∈a2K (a1b l) k,(a1q c.1 l c).2=0→a2Z (b5Q l (a2K (a1b l) k)).2.2 (l.length:Int)≤a2Z (a1q c.1 l c).1 (l.length:Int):=fun c i d=>by
  rw[←o];exact((b7D l (a2K (a1b l) k)).least c i d).2
 refine⟨_,hb,m,n,rfl,o.symm,?_,h⟩;have hp:=h (cS 1 0 0 [] []) (by simp[a2K,a2j]) (by rw[show(cS 1 0 0 [] []).1=1 from rfl,b5T b f a]);rw[show(cS 1 0 0 [] []).1=1 from rfl,c6m b f a]at hp
 have:=a27 l.length (c6l f a)
 omega
theorem c7g(f:1≤l.length)(a:l.length≤4096)(e:l.all a0A=true)(h:b7C (a1b l)){k':Int}(j:0≤k)(v:k≤k')(m:k'≤3){s':Sub}(n:a2q (l,k)=some (s,0))(d:a2q (l,k')=some (s',0)):
  a2Z s' (l.length:Int)≤a2Z s (l.length:Int):=by
 obtain⟨t,i,-,-,p,-⟩:=b5U f a e h j (show k≤3 by omega);obtain⟨o,g,-,-,-,-,-,w⟩:=b5U f a e h (show 0≤k' by omega) m;rw[n]at i;rw[d]at g;obtain rfl:s=t:=by simp_all
 obtain rfl:s'=o:=by simp_all
 have b:=b9U f a e (a1b l) k;obtain⟨c,u,q,r,-⟩:=(b7D l (a2K (a1b l) k)).one b
 grind[c7f]
@[reducible] def Rd:Type:=(List Int)×(Int×(Int×Unit))
def a1v(L:List Int):Prop:=∀b∈L,b=0∨b=1
def b3f(bs:List Int)(i:Nat):Bool:=(bs.getD (i / 8) 0).toNat.testBit (7-i%8)
theorem or8{x y:Nat}(h:x<256)(g:y<256):bits .u8 .or (x:Int) (y:Int)=((x ||| y:Nat):Int):=by
 show wrap .u8 (((a02 8 (x:Int)) ||| (a02 8 (y:Int))).toNat:Int)=_;rw[a26,a26,a55,a32,a32,a24 h,a24 g,a8a]
 have:x ||| y<2^8:=a82 h g
 omega
theorem d7D{b:Int}(hb:b=0∨b=1){r:Nat}(g:r<8):A0j .u8 b (7-(r:Int))=((b.toNat*2^(7-r):Nat):Int):=by
 have h:∀r:Fin 8,A0j .u8 0 (7-(r.1:Int))=((0*2^(7-r.1):Nat):Int)∧A0j .u8 1 (7-(r.1:Int))=((1*2^(7-r.1):Nat):Int):=by decide +kernel
 rcases hb with rfl|rfl;exact(h ⟨r,g⟩).1;exact(h ⟨r,g⟩).2
theorem c8w{x:Nat}(h:x<256){r:Nat}(g:r<8):bits .u8 .and (A0k .u8 (x:Int) (7-(r:Int))) 1=if x.testBit (7-r)then 1 else 0:=by
 have e:A0k .u8 (x:Int) (7-(r:Int))=((x / 2^(7-r):Nat):Int):=by
  show a97 (x:Int) (2^(min (7-(r:Int)).toNat 8))=_
  grind
 rw[e];have f:x / 2^(7-r)<256:=a41 (a43 _ _) h;show wrap .u8 (((a02 8 ((x / 2^(7-r):Nat):Int)) &&& (a02 8 1)).toNat:Int)=_
 grind[a02,a8a]
theorem c7h(L:List Int)(b:Int)(i:Nat):(L++[b]).getD i 0=if i=L.length then b else L.getD i 0:=by
 grind
theorem c3H(h:List Int)(k:Nat)(y:Int)(g:k<h.length)(j:Nat):(h.set k y).getD j 0=if j=k then y else h.getD j 0:=by
 grind
theorem c1S:∀(n:Nat)(L:List Int),L.length=n→a1v L→(∀j,0≤(wL L).1.getD j 0∧(wL L).1.getD j 0<256)∧∀i,b3f (wL L).1 i=decide (L.getD i 0=1)
 |0,L,h,_=>by
  simp_all[wL,b3f]
 |n+1,L,h,hL=>by
  obtain⟨g,b,rfl⟩:∃g b,L=g++[b]:=by
   rcases a50 L with rfl|⟨g,b,e⟩
   all_goals simp_all
  have hb:b=0∨b=1:=hL b (by simp);obtain⟨t,v⟩:=c1S n g (by simp_all) fun c C=>hL c (by grind);obtain⟨o,p⟩:=a5K g;rw[c1k];generalize wL g=wr at o p t v⊢;obtain⟨d,m,u⟩:=wr;have o:m=(g.length:Int):=o;have p:d.length=(g.length+7) / 8:=p;subst o;have e8:((g.length:Int) / 8).toNat=g.length / 8:=by rfl
  have q:(g.length:Int)%8=((g.length%8:Nat):Int):=by rfl
  obtain⟨f,a,w,y⟩:∃f:List Int,(if(g.length:Int)%8=0 then d++[0]else d)=f∧g.length / 8<f.length∧∀j,f.getD j 0=d.getD j 0:=by
   grind
  rw[q]at a;have B:g.length%8<8:=a38 _ (by simp);obtain⟨x,r⟩:∃x:Nat,d.getD (g.length / 8) 0=(x:Int):=a01 (t _).1;have k:x<256:=by
   grind
  have s:b.toNat*2^(7-g.length%8)<256:=by
   have hp:2^(7-g.length%8)≤2^7:=a06 (by simp) (by omega)
   grind
  have A:x ||| b.toNat*2^(7-g.length%8)<2^8:=a82 k s;have l:(c1j (d,(g.length:Int),u) b).1=f.set (g.length / 8) ((x ||| b.toNat*2^(7-g.length%8):Nat):Int):=by
   unfold c1j;simp only[a,e8,q];rw[y,r,d7D hb B,or8 k s]
  rw[l];refine⟨fun j=>?_,fun i=>?_⟩
  grind[c3H]
  ·unfold b3f;rw[c3H _ _ _ w,c7h];have hi:=v i;unfold b3f at hi
   by_cases hk:i / 8=g.length / 8
   ·rw[if_pos hk,tN,Nat.testBit_or];rw[hk,r,tN]at hi;rw[hi];have z:(b.toNat*2^(7-g.length%8)).testBit (7-i%8)=(decide (b=1)&&decide (i=g.length)):=by
     rcases hb with rfl|rfl
     all_goals grind
    grind
   grind
theorem d0R(h:a1v L):(∀j,0≤(wL L).1.getD j 0∧(wL L).1.getD j 0<256)∧∀i,b3f (wL L).1 i=decide (L.getD i 0=1):=c1S _ L rfl h
def rdr(P R:List Int):Rd:=((wL (P++R)).1,(P.length:Int),(0:Int),())
theorem c1q(k:a1v L)(n:L.length<1000000000)(hi:i<L.length)(t:Int×(Int×Unit)):
  a1x (((wL L).1,t),(i:Int))=some (L.getD i 0,(wL L).1,t):=by
 obtain⟨d,e⟩:=d0R k;obtain⟨-,m⟩:=a5K L;have l:a28 (i:Int) 8=((i%8:Nat):Int):=by rfl
 have j:a46 (i:Int) 8=((i / 8:Nat):Int):=by rfl
 have b:wrap .i64 ((i / 8:Nat):Int)=((i / 8:Nat):Int):=a0C (by omega);have c:wrap .i64 (7-((i%8:Nat):Int))=7-((i%8:Nat):Int):=a0C (by omega);have g:decide (7-((i%8:Nat):Int)<0)=false:=by grind
 have hb:i / 8<(wL L).1.length:=by omega
 have f:(wL L).1[i / 8]=(wL L).1.getD (i / 8) 0:=by grind
 unfold a1x;simp only[l,j,b,c,g,a0D hb,oB,cF];obtain⟨x,a⟩:∃x:Nat,(wL L).1.getD (i / 8) 0=(x:Int):=a01 (d _).1;have h:x<256:=by grind
 rw[f,a,c8w h (a38 _ (by simp))]
 have:=e i
 unfold b3f at this;rw[a,tN]at this;rw[this];have hv:L.getD i 0=0∨L.getD i 0=1:=by
  have:L.getD i 0=L[i]:=by simp_all
  rw[this];exact k _ (a05 hi)
 grind
theorem c7i(hv:v<18446744073709551616)(hi:i≤64):a6O (v:Int) i=((v / 2^i%2:Nat):Int):=by
 unfold a6O;rw[a6v hi];have h:v / 2^i<18446744073709551616:=a41 (a43 _ _) hv;show wrap .u8 (wrap .u64 (((a02 64 ((v / 2^i:Nat):Int)) &&& (a02 64 1)).toNat:Int))=_
 grind[a02,a0L,a8a]
theorem a1v.app{A B:List Int}(h:a1v A)(g:a1v B):a1v (A++B):=fun b hb=>(mA.1 hb).elim (h b) (g b)
theorem orU(k:a<18446744073709551616)(hb:b<2)(f:a%2=0):bits .u64 .or (a:Int) (b:Int)=((a+b:Nat):Int):=by
 show wrap .u64 (((a02 64 (a:Int) ||| a02 64 (b:Int)).toNat:Nat):Int)=_;have g:(a02 64 (a:Int)).toNat=a:=by simp_all
 have h:(a02 64 (b:Int)).toNat=b:=by grind
 rw[a55,g,h];have e:a ||| b=a+b:=by
  have:=a44 (i:=1) (b:=b) (by omega) (a / 2)
  grind
 grind[a0L]
theorem c3I{v:Nat}(hv:v<9223372036854775808){n:Nat}(q:n≤62):∀(m:Nat)(P R:List Int),m≤n→a1v (P++(pb (v:Int) m++R))→(P++(pb (v:Int) m++R)).length<1000000000→
  y0o a4e (((v / 2^m:Nat):Int),(n:Int),((n-m:Nat):Int),rdr P (pb (v:Int) m++R),())=some ((v:Int),rdr (P++pb (v:Int) m) R,())
 |0,P,R,_,_,_=>by
  grind[a0E,a4e,pb]
 |m+1,P,R,hm,hok,hlen=>by
  have l:decide (((n-(m+1):Nat):Int)<(n:Int))=true:=by grind
  have a:a1x (rdr P (pb (v:Int) (m+1)++R),(P.length:Int))=some (a6O v m,rdr P (pb (v:Int) (m+1)++R)):=by
   have:=c1q hok hlen (i:=P.length) (by simp[pb]) ((P.length:Int),(0:Int),())
   rw[show(P++(pb (v:Int) (m+1)++R)).getD P.length 0=a6O v m from by simp_all[pb]]at this;exact this
  have g:=c7i (v:=v) (by omega) (i:=m) (by omega);have b:v / 2^m%2<2:=a38 _ (by simp);have f:v / 2^(m+1)=v / 2^m / 2:=by grind[Nat.div_div_eq_div_mul]
  have p:v / 2^m≤v:=a43 _ _;have d:A0j .u64 ((v / 2^(m+1):Nat):Int) 1=((v / 2^(m+1)*2^1:Nat):Int):=b2j (o:=1) (by omega) (by omega);have h:bits .u64 .or ((v / 2^(m+1)*2^1:Nat):Int) (wrap .u64 (a6O (v:Int) m))=((v / 2^m:Nat):Int):=by
   rw[g,a0L (by omega),orU (by omega) b (by omega),f];omega
  have e:wrap .i64 (((n-(m+1):Nat):Int)+1)=((n-m:Nat):Int):=by grind[a0C]
  have j:wrap .i64 ((P.length:Int)+1)=(((P++[a6O v m]).length:Nat):Int):=by
   grind[a0C]
  have k:P++(pb (v:Int) (m+1)++R)=(P++[a6O v m])++(pb (v:Int) m++R):=by simp[pb]
  have c:((rdr P (pb (v:Int) (m+1)++R)).1,(((P++[a6O v m]).length:Nat):Int),(rdr P (pb (v:Int) (m+1)++R)).2.2)=rdr (P++[a6O v m]) (pb (v:Int) m++R):=by
   unfold rdr;simp_all
  rw[a0F (s':=(((v / 2^m:Nat):Int),(n:Int),((n-m:Nat):Int),rdr (P++[a6O v m]) (pb (v:Int) m++R),())) (by
   simp only[a4e,l,cT];rw[show(rdr P (pb (v:Int) (m+1)++R)).2.1=(P.length:Int)from rfl,a];simp only[oB,d,h,e];rw[show(rdr P (pb (v:Int) (m+1)++R)).2.1=(P.length:Int)from rfl,j,c])]
  rw[c3I hv q m _ _ (by omega) (by simp_all) (by simp_all)];simp[pb]
theorem c7j{n:Nat}(a:n≤62)(hv:v<2^n)(g:a1v (P++(pb (v:Int) n++R)))(k:(P++(pb (v:Int) n++R)).length<200000000):
  a0H (rdr P (pb (v:Int) n++R),(n:Int))=some ((v:Int),rdr (P++pb (v:Int) n) R):=by
 have h:v<9223372036854775808:=Nat.lt_of_lt_of_le hv (Nat.le_trans (a06 (by simp) a) (by simp));have f:=c3I h a n P R (by omega) g (by omega);rw[a65 hv,Nat.sub_self]at f;simp at f;obtain⟨-,e⟩:=a5K (P++(pb (v:Int) n++R));have j:=b4e (v:Int) n;have i:(P++(pb (v:Int) n++R)).length=P.length+n+R.length:=by grind
 have e8:wrap .i64 ((8:Int)*(((wL (P++(pb (v:Int) n++R))).1.length:Nat):Int))=(8:Int)*(((wL (P++(pb (v:Int) n++R))).1.length:Nat):Int):=a0C (by omega);have d:wrap .i64 ((8:Int)*(((wL (P++(pb (v:Int) n++R))).1.length:Nat):Int)-(P.length:Int))=(8:Int)*(((wL (P++(pb (v:Int) n++R))).1.length:Nat):Int)-(P.length:Int):=a0C (by omega);have b:decide ((n:Int)<0)=false:=by simp
 have c:decide ((n:Int) > 64)=false:=by grind
 have l:decide ((n:Int) > (8:Int)*(((wL (P++(pb (v:Int) n++R))).1.length:Nat):Int)-(P.length:Int))=false:=by
  grind
 unfold a0H a2y;rw[show(rdr P (pb (v:Int) n++R)).2.2.1=0 from rfl];simp only[bne_self_eq_false,cF,b,c,oB];rw[show(rdr P (pb (v:Int) n++R)).1=(wL (P++(pb (v:Int) n++R))).1 from rfl,show(rdr P (pb (v:Int) n++R)).2.1=(P.length:Int)from rfl,e8,d]
 grind
def b4N(n:Nat)(x:Int):Prop:=-((2^n:Nat):Int)≤2*x∧2*x<((2^n:Nat):Int)
theorem c1T{n:Nat}(f:n≤62)(x:Int):∃v:Nat,a0W x n=(v:Int)∧v<2^n∧(v:Int)=x%((2^n:Nat):Int):=by
 have k:wrap .u64 x=x%18446744073709551616:=by rfl
 obtain⟨y,h⟩:∃y:Nat,x%18446744073709551616=(y:Int):=a01 (Int.emod_nonneg _ (by simp));have g:y<18446744073709551616:=by omega
 refine⟨y%2^n,?_,a38 _ (a18 n),?_⟩;simp_all[a0W,c3k];rw[Int.natCast_emod,←h];refine Int.emod_emod_of_dvd x ?_
 have:(2:Nat)^n ∣ 2^64:=a54 2 (by omega)
 exact a21.2 this
theorem c7k{n:Nat}(q:n≤62)(t:b4N n x)(c:a1v (P++(pb (a0W x n) n++R)))(g:(P++(pb (a0W x n) n++R)).length<200000000):
  a1a (rdr P (pb (a0W x n) n++R),(n:Int))=some (x,rdr (P++pb (a0W x n) n) R):=by
 obtain⟨v,hv,b,f⟩:=c1T q x;rw[hv]at c g⊢;have a:=c7j q b c g;obtain⟨i,j⟩:=t;have A:=a18 n;have o:(v:Int)=x∧0≤x∨(v:Int)=x+((2^n:Nat):Int)∧x<0:=by
  by_cases h0:0≤x
  exact .inl ⟨by rw[f];exact a83 h0 (by omega),h0⟩;refine .inr ⟨?_,by omega⟩;rw[f,←Int.add_emod_right];exact a83 (by omega) (by omega)
 unfold a1a;simp[a];rw[show(rdr (P++pb (v:Int) n) R).2.2.1=0 from rfl]
 simp
 cases n with
 |zero=>
  grind
 |succ k=>
  have l:(((k+1:Nat):Int)==0)=false:=by rfl
  have s:wrap .i64 ((64:Int)-((k+1:Nat):Int))=((64-(k+1):Nat):Int):=by grind[a0C]
  have r:decide (((64-(k+1):Nat):Int)<0)=false:=by simp
  simp only[l,cF,s,r];have p:64-(k+1)+(k+1)=64:=by omega
  generalize 64-(k+1)=m at p⊢;have u:2^m*2^(k+1)=18446744073709551616:=by rw[←Nat.pow_add,p]
  have d:((2^m:Nat):Int)*((2^(k+1):Nat):Int)=18446744073709551616:=by omega
  have hp:=a18 m;have w:A0j .u64 (v:Int) (m:Int)=(v:Int)*((2^m:Nat):Int):=by
   show wrap .u64 ((v:Int)*2^(min (m:Int).toNat 64))=_;rw[tN,a67 (by omega)];have e:(2:Int)^m=((2^m:Nat):Int):=by simp
   rw[e];refine a0L ⟨a49 (by omega) (by omega),?_⟩
   have:v*2^m<2^(k+1)*2^m:=Nat.mul_lt_mul_of_pos_right b hp
   grind
  have y:-9223372036854775808≤x*((2^m:Nat):Int):=by
   have:=Int.mul_le_mul_of_nonneg_right i (show(0:Int)≤((2^m:Nat):Int)by omega)
   grind
  have z:x*((2^m:Nat):Int)<9223372036854775808:=by
   have:=Int.mul_lt_mul_of_pos_right j (show(0:Int)<((2^m:Nat):Int)by omega)
   grind
  have C:wrap .i64 ((v:Int)*((2^m:Nat):Int))=x*((2^m:Nat):Int):=by
   rcases o with⟨h,-⟩|⟨h,-⟩
   grind[a0C]
   rw[h,Int.add_mul,Int.mul_comm ((2^(k+1):Nat):Int),d]
   grind[wrap,IntKind.bits,IntKind.signed]
  have B:A0k .i64 (x*((2^m:Nat):Int)) (m:Int)=x:=by
   show a97 (x*((2^m:Nat):Int)) (2^(min (m:Int).toNat 64))=x;rw[tN,a67 (by omega)]
   grind[Int.mul_ediv_cancel]
  simp_all
theorem c6n(P:List Int)(n:Nat)(R:List Int){c:Nat}(h:c<n):(P++(a00 n 0++1::R)).getD (P.length+c) 0=0:=by
 grind
theorem c8x(P:List Int)(n:Nat)(R:List Int):(P++(a00 n 0++1::R)).getD (P.length+n) 0=1:=by
 simp
theorem c7l{n lm:Nat}(x:n≤lm)(t:lm<1000000)(o:a1v (P++(a00 n 0++1::R)))(p:(P++(a00 n 0++1::R)).length<200000000):
  a3f (rdr P (a00 n 0++1::R),(lm:Int))=some ((n:Int),rdr (P++(a00 n 0++[1])) R):=by
 obtain⟨-,r⟩:=a5K (P++(a00 n 0++1::R));have s:(P++(a00 n 0++1::R)).length=P.length+n+1+R.length:=by grind
 have e8:wrap .i64 ((8:Int)*(((wL (P++(a00 n 0++1::R))).1.length:Nat):Int))=(8:Int)*(((wL (P++(a00 n 0++1::R))).1.length:Nat):Int):=a0C (by omega);have g:∀c,c≤n→a1x (rdr P (a00 n 0++1::R),((P.length:Int)+(c:Int)))=some (if c=n then 1 else 0,rdr P (a00 n 0++1::R)):=fun c l=>by
  have:=c1q o (by omega) (i:=P.length+c) (by omega) ((P.length:Int),(0:Int),())
  rw[a99]at this;refine this.trans ?_
  by_cases e:c=n
  subst e;rw[c8x,if_pos rfl];rfl;rw[c6n P n R (by omega),if_neg e];rfl
 have h:∀c:Nat,c≤n→(((P.length:Int)+(c:Int))==(8:Int)*(((wL (P++(a00 n 0++1::R))).1.length:Nat):Int))=false:=fun c l=>by
  grind
 have j:wrap .i64 ((P.length:Int)+(n:Int)+1)=(((P++(a00 n 0++[1])).length:Nat):Int):=by
  rw[a0C (by omega)];grind
 have a:P++(a00 n 0++1::R)=(P++(a00 n 0++[1]))++R:=by simp
 have v:((rdr P (a00 n 0++1::R)).1,(((P++(a00 n 0++[1])).length:Nat):Int),(rdr P (a00 n 0++1::R)).2.2)=rdr (P++(a00 n 0++[1])) R:=by
  unfold rdr;simp
 have k:(rdr P (a00 n 0++1::R)).1=(wL (P++(a00 n 0++1::R))).1:=rfl;have m:=a1B (f:=a3s) (fun c:Nat=>((lm:Int),(c:Int),(P.length:Int)+(c:Int),rdr P (a00 n 0++1::R),())) n (b:=((n:Int),rdr (P++(a00 n 0++[1])) R,()))
  (fun c l=>by
   have d:((0:Int)==1)=false:=rfl;have q:(((c:Nat):Int)==(lm:Int))=false:=by grind
   have w:wrap .i64 ((c:Int)+1)=((c+1:Nat):Int):=a0B (by omega);have w2:wrap .i64 ((P.length:Int)+(c:Int)+1)=(P.length:Int)+((c+1:Nat):Int):=by rw[a0C (by omega)];rfl
   simp only[a3s,k,e8,h c (by omega),cF,g c (by omega),oB,if_neg (Nat.ne_of_lt l),d,q,w,w2])
  (by
   have d:((1:Int)==1)=true:=rfl;simp only[a3s,k,e8,h n (a23 _),cF,g n (a23 _),oB,if_pos rfl,d,cT,j]
   grind)
 unfold a3f;rw[show(rdr P (a00 n 0++1::R)).2.2.1=0 from rfl,show(rdr P (a00 n 0++1::R)).2.1=(P.length:Int)from rfl];have u:v0n (lm:Int) 0=(lm:Int):=by
  rfl
 grind
def OkR(P R:List Int):Prop:=a1v (P++R)∧(P++R).length<200000000
theorem OkR.shift{A:List Int}(h:OkR P (A++R)):OkR (P++A) R:=by
 unfold OkR at h⊢;simp_all
theorem a3D{n:Nat}(g:n≤62)(hv:v<2^n)(h:OkR P (pb (v:Int) n++R)):a0H (rdr P (pb (v:Int) n++R),(n:Int))=some ((v:Int),rdr (P++pb (v:Int) n) R):=c7j g hv h.1 h.2
theorem a9L{n:Nat}(f:n≤62)(g:b4N n x)(h:OkR P (pb (a0W x n) n++R)):a1a (rdr P (pb (a0W x n) n++R),(n:Int))=some (x,rdr (P++pb (a0W x n) n) R):=c7k f g h.1 h.2
def unB(n:Nat):List Int:=a00 n 0++[1]
theorem c3J{n lm:Nat}(f:n≤lm)(g:lm<1000000)(h:OkR P (unB n++R)):a3f (rdr P (unB n++R),(lm:Int))=some ((n:Int),rdr (P++unB n) R):=by
 have e:unB n++R=a00 n 0++1::R:=by simp[unB]
 rw[e]at h⊢;exact c7l f g h.1 h.2
theorem a4L{v n:Nat}(h:n≤63)(hv:v<2^n)(L:List Int):a0O (v:Int) n L=L++pb (v:Int) n:=by
 grind[a0O,a6v,a65]
def a9A(k:Nat)(x:Int):List Int:=
 if a0Q x / 2^k<32 then unB (a0Q x / 2^k)++pb ((a0Q x%2^k:Nat):Int) k else unB 32++pb ((a0Q x:Nat):Int) 32
theorem c7m{k:Nat}(f:k≤25)(g:a0A x=true)(L:List Int):a6P k x L=L++a9A k x:=by
 have h:=a9E g;unfold a6P a9A;split;rw[a4L (by omega) (a38 _ (a18 k))];simp[unL,unB]
 grind[a4L,unL,unB]
theorem c7n(f:a0A x=true):a7i ((a0Q x:Nat):Int)=some x:=by
 have b:=a9E f;have d:=a1D.1 f;have c:a28 ((a0Q x:Nat):Int) 2=((a0Q x:Nat):Int)%2:=a45 (by omega);have a:a46 ((a0Q x:Nat):Int) 2=((a0Q x:Nat):Int) / 2:=a57 (by omega);have k:decide (((a0Q x:Nat):Int)≥2147483648)=false:=by grind
 unfold a7i;simp only[k,cF,c,a]
 by_cases h0:0≤x
 have e:((a0Q x:Nat):Int)=2*x:=by unfold a0Q;grind
 rw[e];have h:((2*x)%2==(0:Int))=true:=by simp
 have g:2*x / 2=x:=by omega
 simp only[h,cT,g]
 grind[a0L,a0C]
 have e:((a0Q x:Nat):Int)=-2*x-1:=by unfold a0Q;grind
 rw[e];have h:((-2*x-1)%2==(0:Int))=false:=by grind
 have g:(-2*x-1) / 2=-x-1:=by omega
 simp only[h,cF,g]
 grind[a0L,a0C]
theorem c4L{k:Nat}(r:k≤25)(c:a0A x=true)(h:OkR P (a9A k x++R)):b2S (rdr P (a9A k x++R),(k:Int))=some (x,(0:Int),rdr (P++a9A k x) R):=by
 have m:=a9E c;have b:=c7n c;unfold b2S a0N;unfold a9A at h⊢;have s:∀A B:List Int,(rdr A B).2.2.1=0:=fun _ _=>rfl;split;rename_i g;rw[if_pos g,aA]at h;have j:=c3J (n:=a0Q x / 2^k) (lm:=32) (by omega) (by omega) h;have l:=a3D (n:=k) (v:=a0Q x%2^k) (by omega) (a38 _ (a18 k)) h.shift;have i:wrap .u64 ((a0Q x / 2^k:Nat):Int)=((a0Q x / 2^k:Nat):Int):=a3C (by omega);have d:decide (((a0Q x / 2^k:Nat):Int)<32)=true:=by grind
 have e:decide ((k:Int)<0)=false:=by simp
 have f:a0Q x / 2^k*2^k≤a0Q x:=Nat.div_mul_le_self _ _;have o:A0j .u64 ((a0Q x / 2^k:Nat):Int) (k:Int)=((a0Q x / 2^k*2^k:Nat):Int):=b2j (by omega) (by omega);have a:wrap .u64 (((a0Q x / 2^k*2^k:Nat):Int)+((a0Q x%2^k:Nat):Int))=((a0Q x:Nat):Int):=by
  rw[←a99,Nat.div_add_mod',a0L (by omega)]
 grind
 rename_i g;rw[if_neg g,aA]at h;have j:=c3J (n:=32) (lm:=32) (by omega) (by omega) h;have l:=a3D (n:=32) (v:=a0Q x) (by omega) (by omega) h.shift;have i:wrap .u64 (32:Int)=32:=a0L (by omega);have d:decide ((32:Int)<32)=false:=by simp
 have e:decide ((k:Int)<0)=false:=by simp
 have q:decide (((a0Q x:Nat):Int)≥2147483648)=false:=by grind
 have p:A0k .u64 ((a0Q x:Nat):Int) (k:Int)=((a0Q x / 2^k:Nat):Int):=a6v (by omega)
 grind
def a3E(k:Nat)(l:List Int):List Int:=l.flatMap (a9A k)
theorem b9V{k:Nat}(g:k≤25):∀(l L:List Int),l.all a0A=true→a4J k l L=L++a3E k l
 | [],L,_=>by simp[a4J,a3E]
 |x::l,L,h=>by
  simp only[a07,bA]at h;show a4J k l (a6P k x L)=_;rw[b9V g l _ h.2,c7m g h.1];simp[a3E]
theorem b6F{k:Nat}(g:k≤25){N:Nat}(f:N<1000000):∀(l done P R:List Int),l.all a0A=true→done.length+l.length=N→OkR P (a3E k l++R)→
  y0o a9v ((k:Int),(N:Int),(done.length:Int),done,rdr P (a3E k l++R),())=some (Sum.inl (done++l,rdr (P++a3E k l) R,()))
 | [],done,P,R,_,hl,_=>by
  have:done.length=N:=by omega
  subst this;have d:decide ((done.length:Int)<(done.length:Int))=false:=by simp
  simp_all[a0E,a9v,a3E]
 |x::l,done,P,R,h,hl,hok=>by
  simp only[a07,bA]at h;rw[lC]at hl;have e:a3E k (x::l)++R=a9A k x++(a3E k l++R):=by simp[a3E]
  rw[e]at hok⊢;have d:decide ((done.length:Int)<(N:Int))=true:=by grind
  have b:=c4L g h.1 hok;have a:lim (a39 done+1)=true:=a0T (by omega);have c:wrap .i64 ((done.length:Int)+1)=(((done++[x]).length:Nat):Int):=by grind[a0C]
  rw[a0F (s':=((k:Int),(N:Int),(((done++[x]).length:Nat):Int),done++[x],rdr (P++a9A k x) (a3E k l++R),())) (by
   simp_all[a9v])]
  rw[b6F g f l (done++[x]) (P++a9A k x) R h.2 (by grind) hok.shift];simp[a3E]
theorem c4M{k:Nat}(a:k≤25)(h:l.all a0A=true)(b:l.length<1000000)(f:OkR P (a3E k l++R)):
  b2T (rdr P (a3E k l++R),(k:Int),((l.length:Nat):Int))=some (l,(0:Int),rdr (P++a3E k l) R):=by
 have hp:a1K (k:Int)=some true:=by
  grind[a1K]
 have c:decide (((l.length:Nat):Int)<0)=false:=by simp
 have d:decide (((l.length:Nat):Int) > 4194304)=false:=by grind
 have e:∀A B:List Int,(rdr A B).2.2.1=0:=fun _ _=>rfl;have g:=b6F a b l [] P R h (by simp) f;simp at g;unfold b2T a0N
 grind
theorem c8y(h:inW x v=true):b4N v x:=by
 have hp:=a18 v;rcases b7E.1 h with rfl|⟨g,-,f,k⟩;exact⟨by omega,by omega⟩;have e:2^v=2^(v-1)*2:=by rw[←a80];simp_all
 unfold b4N;omega
theorem b5V(h:l.all a0A=true):∀x∈l,b4N (a0I l) x:=fun x g=>c8y (c3G h x g)
def sB(n:Nat)(l:List Int):List Int:=l.flatMap fun x=>pb (a0W x n) n
theorem a9M{n:Nat}(g:n≤62):∀(l L:List Int),a1C n l L=L++sB n l
 | [],L=>by simp[a1C,sB]
 |x::l,L=>by
  show a1C n l (a0O (a0W x n) n L)=_;obtain⟨v,hv,h,-⟩:=c1T g x;rw[a9M g l,hv,a4L (by omega) h,←hv];simp[sB]
theorem c1r(n:Nat)(x:Int)(l R:List Int):sB n (x::l)++R=pb (a0W x n) n++(sB n l++R):=by simp[sB]
theorem b5p{k:Int}{n:Nat}(g:n≤62){N:Nat}(f:N<1000000):∀(l done P R:List Int),(∀x∈l,b4N n x)→done.length+l.length=N→OkR P (sB n l++R)→
  y0o a8H (k,(n:Int),(N:Int),(done.length:Int),done,rdr P (sB n l++R),())=some (k,(n:Int),done++l,rdr (P++sB n l) R,())
 | [],done,P,R,_,hl,_=>by
  have:done.length=N:=by omega
  subst this;have d:decide ((done.length:Int)<(done.length:Int))=false:=by simp
  simp_all[a0E,a8H,sB]
 |x::l,done,P,R,h,hl,hok=>by
  rw[lC]at hl;rw[c1r]at hok⊢;have d:decide ((done.length:Int)<(N:Int))=true:=by grind
  have b:=a9L g (h x (by simp)) hok;have a:lim (a39 done+1)=true:=a0T (by omega);have c:wrap .i64 ((done.length:Int)+1)=(((done++[x]).length:Nat):Int):=by grind[a0C]
  rw[a0F (s':=(k,(n:Int),(N:Int),(((done++[x]).length:Nat):Int),done++[x],rdr (P++pb (a0W x n) n) (sB n l++R),())) (by
   simp_all[a8H])]
  rw[b5p g f l (done++[x]) _ R (fun y e=>h y (by grind)) (by grind) hok.shift];simp[sB]
def b0V(k:Int)(part:List Int):List Int:=if k=31 then pb 31 5++(pb ((a0I part:Nat):Int) 5++sB (a0I part) part)else pb k 5++a3E k.toNat part
theorem c7o(h:kB k=true)(g:part.all a0A=true)(L:List Int):a9y k part L=L++b0V k part:=by
 have f:=a1Q g;simp[kB]at h;obtain⟨K,rfl⟩:=a01 (show 0≤k by omega)
 grind[a9y,b0V,a3C,a4L,a9M,b9V]
theorem c3K(o:kB k=true)(c:part.all a0A=true)(b:part.length<1000000)(h:OkR P (b0V k part++R)):
  b1Q (rdr P (b0V k part++R),((part.length:Nat):Int))=some (k,part,(0:Int),rdr (P++b0V k part) R):=by
 have p:=a1Q c;have e:∀A B:List Int,(rdr A B).2.2.1=0:=fun _ _=>rfl;simp[kB]at o;obtain⟨K,rfl⟩:=a01 (show 0≤k by omega);unfold b1Q a0N;unfold b0V at h⊢;split;rename_i f;rw[if_pos f,aA,aA]at h;rw[aA,aA];obtain rfl:K=31:=by omega
 have d:a0H (rdr P (pb 31 5++(pb ((a0I part:Nat):Int) 5++(sB (a0I part) part++R))),(5:Int))=_:=a3D (v:=31) (n:=5) (by omega) (by omega) h;have g:=h.shift;have l:a0H (rdr (P++pb 31 5) (pb ((a0I part:Nat):Int) 5++(sB (a0I part) part++R)),(5:Int))=_:=a3D (v:=a0I part) (n:=5) (by omega) (by omega) g;have a:=b5p (k:=31) (n:=a0I part) (by omega) b part [] _ R (b5V c) (by simp) g.shift;simp only[a19,nZ,a08,a25]at a;have i:wrap .i64 ((31:Nat):Int)=31:=by rfl
 have w2:wrap .i64 ((a0I part:Nat):Int)=((a0I part:Nat):Int):=a0C (by omega);have j:decide ((31:Int)≤25)=false:=by rfl
 have q:((31:Int) != 31)=false:=by rfl
 rw[d];simp only[oB,e,bne_self_eq_false,cF,i,j]
 erw[l]
 simp only[oB,w2]
 erw[a]
 simp only[oB,e,bne_self_eq_false,cF,a2i (show short part from b)]
 simp
 rename_i f;rw[if_neg f,aA]at h;rw[aA];have m:K≤25:=by omega
 have d:a0H (rdr P (pb (K:Int) 5++(a3E ((K:Int).toNat) part++R)),(5:Int))=_:=a3D (v:=K) (n:=5) (by omega) (by omega) h;have r:=c4M m c b h.shift;have i:wrap .i64 (K:Int)=(K:Int):=a0C (by omega);simp_all
def a1I:List Nat→List Int→List Int→List Int
 |z::zs,k::ks,l=>b0V k (l.take z)++a1I zs ks (l.drop z)
 |_,_,_=>[]
theorem c1U(h:l.all a0A=true)(z:Nat):(l.take z).all a0A=true:=lA.2 fun x g=>lA.1 h x (a35 g)
theorem c1V(h:l.all a0A=true)(z:Nat):(l.drop z).all a0A=true:=lA.2 fun x g=>lA.1 h x (a36 g)
theorem b9W:∀(zs:List Nat)(ks l L:List Int),ks.all kB=true→l.all a0A=true→a4K zs ks l L=L++a1I zs ks l
 |z::zs,k::ks,l,L,hk,hw=>by
  simp only[a07,bA]at hk;simp only[a4K,a1I];rw[b9W zs ks _ _ hk.2 (c1V hw z),c7o hk.1 (c1U hw z)]
  simp
 | [],_,_,L,_,_=>by simp[a4K,a1I]
 |_::_,[],_,L,_,_=>by simp[a4K,a1I]
theorem c7p(h:List Nat)(z:Nat)(g:List Nat):(a1o (h++z::g)).getD h.length 0=(z:Int):=by
 simp_all[a1o]
theorem b5q{o:Int}{z0:Prt}:∀(zs:List Nat)(ks l dk acc P R:List Int)(dz:List Nat),ks.length=zs.length→ks.all kB=true→zs.sum=l.length→l.all a0A=true→
  dk.length=dz.length→(dz++zs).length≤256→acc.length+l.length≤10000→OkR P (a1I zs ks l++R)→
  y0o a8I (((a1o (dz++zs)).length:Int),(dz.length:Int),acc,a1o (dz++zs),rdr P (a1I zs ks l++R),z0,(o,dk,()),()) =
   some (Sum.inl (acc++l,z0,(o,dk++ks,()),rdr (P++a1I zs ks l) R,()))
 | [],ks,l,dk,acc,P,R,dz,hk,_,hs,_,_,_,_,_=>by
  obtain rfl:ks=[]:=a40.1 hk;obtain rfl:l=[]:=a40.1 (by simp_all);have d:decide ((dz.length:Int)<((a1o (dz++[])).length:Int))=false:=by simp[a1u]
  rw[a0E (b:=Sum.inl (acc,z0,(o,dk,()),rdr P R,())) (by simp only[a8I,d,cF];rfl)];simp[a1I]
 |z::zs,[],_,_,_,_,_,_,hk,_,_,_,_,_,_,_=>by simp_all
 |z::zs,k::ks,l,dk,acc,P,R,dz,hk,hkb,hs,hw,hd,h256,hacc,hok=>by
  simp only[a07,bA]at hkb;rw[a59]at hs;have p:z≤l.length:=by omega
  have a:(l.take z).length=z:=by simp_all
  have e:a1I (z::zs) (k::ks) l++R=b0V k (l.take z)++(a1I zs ks (l.drop z)++R):=by simp[a1I]
  rw[e]at hok⊢;have j:(a1o (dz++z::zs)).length=dz.length+1+zs.length:=by grind[a1u]
  have d:decide ((dz.length:Int)<((a1o (dz++z::zs)).length:Int))=true:=by grind
  have m:decide ((0:Int)≤(dz.length:Int))=true:=by simp
  have h:=c3K hkb.1 (c1U hw z) (by omega) hok;rw[a]at h;have i:((0:Int) != 0)=false:=rfl;rw[lN,lC]at h256;have g:lim (a39 dk+1)=true:=a0T (by omega);have f:lim (a39 acc+a39 (l.take z))=true:=a0T (by omega);have c:wrap .i64 ((dz.length:Int)+1)=(((dz++[z]).length:Nat):Int):=by grind[a0C]
  have n:dz++z::zs=(dz++[z])++zs:=by simp
  rw[a0F (s':=(((a1o ((dz++[z])++zs)).length:Int),(((dz++[z]).length:Nat):Int),acc++l.take z,a1o ((dz++[z])++zs),rdr (P++b0V k (l.take z)) (a1I zs ks (l.drop z)++R),z0,(o,dk++[k],()),())) (by
   simp only[a8I,d,m,a04,cT,tN,c7p,h,oB,i,cF,g,f,c,a09]
   simp)]
  rw[b5q zs ks (l.drop z) (dk++[k]) (acc++l.take z) _ R (dz++[z]) (by grind) hkb.2 (by grind) (c1V hw z) (by grind) (by grind) (by grind) hok.shift];simp[a1I]
def a6w(p:Prt)(zn:List Nat)(l:List Int):List Int:=pb p.1 4++a1I zn p.2.1 l
theorem c2E(h:PartsOk p n warm l zn)(L:List Int):a4m p zn l L=L++a6w p zn l:=by
 obtain⟨o,ks,u⟩:=p;have g:=h.order;simp only at g;obtain⟨O,rfl⟩:=a01 g.1;unfold a4m a6w;simp only;rw[a3C (by omega),a4L (n:=4) (by omega) (by omega),b9W _ _ _ _ h.all h.wide]
 simp
theorem c3L(h:PartsOk p n warm l zn)(g:OkR P (a6w p zn l++R)):
  b1R (rdr P (a6w p zn l++R),n,warm)=some (p,l,(0:Int),rdr (P++a6w p zn l) R):=by
 obtain⟨o,ks,u⟩:=p;have c:=h.order;have m:=h.short;have b:=h.len;simp only at c;obtain⟨O,rfl⟩:=a01 c.1;have i:∀A B:List Int,(rdr A B).2.2.1=0:=fun _ _=>rfl;have f:=h.may;unfold a5z at f;simp only[bA,a34,beq_eq_false_iff_ne]at f;have d:=h.sizes;simp only at d;have a:(((a1o zn).length:Int)==0)=false:=by
  grind
 unfold a6w at g⊢;simp only at g⊢;rw[aA]at g⊢;have e:a0H (rdr P (pb (O:Int) 4++(a1I zn ks l++R)),(4:Int))=_:=a3D (v:=O) (n:=4) (by omega) (by omega) g;have j:wrap .i64 (O:Int)=(O:Int):=a0C (by omega);have k:=b5q (o:=(O:Int)) (z0:=((0:Int),([]:List Int),())) zn ks l [] [] _ R [] h.ks h.all h.sum h.wide rfl (by simp_all) (by grind) g.shift;simp only[a19,nZ,a08,a25]at k;unfold b1R a0N;simp[b3C,h.row];rw[e];simp[i,j,a1V,d,a];simp_all
def a7l(s:Sub):List Int:=
 pb ((s.2.2.2.2.2.1.length-1:Nat):Int) 5++(pb s.2.2.2.1 4++(pb ((a0I s.2.2.2.2.2.1:Nat):Int) 5++sB (a0I s.2.2.2.2.2.1) s.2.2.2.2.2.1))
theorem c1W{c:List Int}{t:Int}(h:a9D c t=true):1≤c.length∧c.length≤32∧0≤t∧t≤15∧c.all a0A=true:=by
 simp only[a9D,bA,dT]at h;obtain⟨g,f,k,a,b⟩:=h;refine⟨g,f,k,a,lA.2 fun x d=>?_⟩
 have:=lA.1 b x d
 simp[b9u]at this;rw[a1D];omega
theorem b9X{s:Sub}(h:a9D s.2.2.2.2.2.1 s.2.2.2.1=true)(L:List Int):a6r s L=L++a7l s:=by
 obtain⟨a,b,g,d,f⟩:=c1W h;have k:=a1Q f;unfold a6r a7l;generalize s.2.2.2.2.2.1=c at *;generalize s.2.2.2.1=t at *;obtain⟨T,rfl⟩:=a01 g
 grind[a0C,a0L,a9M,a4L]
def b5W(s:Sub)(c:List Int):Sub:=(s.1,s.2.1,s.2.2.1,s.2.2.2.1,s.2.2.2.2.1,c,s.2.2.2.2.2.2)
def c1s(s:Sub)(t:Int):Sub:=(s.1,s.2.1,s.2.2.1,t,s.2.2.2.2)
theorem b9Y{n:Nat}(g:n≤62){N:Nat}(f:N<1000000)(s:Sub):∀(l done P R:List Int),(∀x∈l,b4N n x)→done.length+l.length=N→OkR P (sB n l++R)→
  y0o a5W ((n:Int),(N:Int),(done.length:Int),rdr P (sB n l++R),b5W s done,())=some ((n:Int),b5W s (done++l),rdr (P++sB n l) R,())
 | [],done,P,R,_,hl,_=>by
  have:done.length=N:=by omega
  subst this;have d:decide ((done.length:Int)<(done.length:Int))=false:=by simp
  simp_all[a0E,a5W,sB]
 |x::l,done,P,R,h,hl,hok=>by
  rw[lC]at hl;rw[c1r]at hok⊢;have d:decide ((done.length:Int)<(N:Int))=true:=by grind
  have a:=a9L g (h x (by simp)) hok;have k:lim (a39 done+1)=true:=a0T (by omega);have b:wrap .i64 ((done.length:Int)+1)=(((done++[x]).length:Nat):Int):=by grind[a0C]
  rw[a0F (s':=((n:Int),(N:Int),(((done++[x]).length:Nat):Int),rdr (P++pb (a0W x n) n) (sB n l++R),b5W s (done++[x]),())) (by
   simp_all[a5W,b5W])]
  rw[b9Y g f s l (done++[x]) _ R (fun y c=>h y (by grind)) (by grind) hok.shift];simp[sB]
theorem b8o{s0:Sub}(h:a9D s.2.2.2.2.2.1 s.2.2.2.1=true)(r:s0.2.2.2.2.2.1=[])(g:OkR P (a7l s++R)):
  a8G (rdr P (a7l s++R),s0)=some (true,rdr (P++a7l s) R,b5W (c1s s0 s.2.2.2.1) s.2.2.2.2.2.1):=by
 obtain⟨u,w,l,x,d⟩:=c1W h;have m:=a1Q d;unfold a7l at g⊢;generalize s.2.2.2.2.2.1=c at *;generalize s.2.2.2.1=t at *;obtain⟨T,rfl⟩:=a01 l;simp at g⊢;have e:a0H (rdr P (pb ((c.length-1:Nat):Int) 5++(pb (T:Int) 4++(pb ((a0I c:Nat):Int) 5++(sB (a0I c) c++R)))),(5:Int))=_:=a3D (v:=c.length-1) (n:=5) (by omega) (by omega) g;have f:=g.shift;have i:a0H (rdr (P++pb ((c.length-1:Nat):Int) 5) (pb (T:Int) 4++(pb ((a0I c:Nat):Int) 5++(sB (a0I c) c++R))),(4:Int))=_:=a3D (v:=T) (n:=4) (by omega) (by omega) f;have k:=f.shift;have j:a0H (rdr (P++pb ((c.length-1:Nat):Int) 5++pb (T:Int) 4) (pb ((a0I c:Nat):Int) 5++(sB (a0I c) c++R)),(5:Int))=_:=a3D (v:=a0I c) (n:=5) (by omega) (by omega) k;have a:=b9Y (n:=a0I c) (by omega) (N:=c.length) (by omega) (c1s s0 (T:Int)) c [] _ R (b5V d) (by simp) k.shift;simp only[a19,nZ,a08,a25]at a;have o:wrap .i64 ((c.length-1:Nat):Int)=((c.length-1:Nat):Int):=a0C (by omega);have w2:wrap .i64 (((c.length-1:Nat):Int)+1)=(c.length:Int):=by grind[a0C]
 have p:wrap .i64 (T:Int)=(T:Int):=a0C (by omega);have q:wrap .i64 ((a0I c:Nat):Int)=((a0I c:Nat):Int):=a0C (by omega);have b:((s0.1,s0.2.1,s0.2.2.1,(T:Int),s0.2.2.2.2):Sub)=b5W (c1s s0 (T:Int)) []:=by
  grind[b5W,c1s]
 unfold a8G;rw[e]
 simp
 rw[i];simp only[oB];rw[j];simp only[oB,o,w2,p,q]
 erw[b,a]
 simp only[oB];rw[show(b5W (c1s s0 (T:Int)) c).2.2.2.2.2.1=c from rfl,a2i (show short c by unfold short;omega)]
 simp
def a8g(st:List Stg):List Int:=st.flatMap fun g=>pb (g.1-1) 5++pb g.2.1 4
theorem b8p{g:Stg}(h:Ab.stageB g=true):1≤g.1∧g.1≤32∧0≤g.2.1∧g.2.1≤8:=by
 simp_all[Ab.stageB]
theorem b8q:∀(st:List Stg)(L:List Int),st.all Ab.stageB=true→a3j st L=L++a8g st
 | [],L,_=>by simp[a3j,a8g]
 |g::st,L,h=>by
  simp only[a07,bA]at h;obtain⟨k,c,f,d⟩:=b8p h.1;show a3j st (a6q g L)=_;rw[b8q st _ h.2];obtain⟨a,b,u⟩:=g;simp only at k c f d;obtain⟨B,rfl⟩:=a01 f;obtain⟨A,e⟩:=a01 (show 0≤a-1 by omega)
  grind[a6q,b3H,a3C,a4L,a8g]
def a4W(s:Sub):List Int:=
 if s.1=2 then pb s.2.2.1 3
 else if s.1=3 then a7l s
 else if s.1=4 then pb (s.2.2.2.2.1-1) 10++(sB 8 s.2.2.2.2.2.2.1++a7l s)
 else if s.1=5 then pb ((s.2.2.2.2.2.2.2.1.length:Nat):Int) 2++a8g s.2.2.2.2.2.2.2.1
 else[]
theorem c1X(h:a3V s.1 s n)(L:List Int):a2r s L=L++a4W s:=by
 unfold a2r a4W;rcases h with k|k|⟨k,g,f,-⟩|⟨k,g,-⟩|⟨k,g,-,a⟩|⟨k,g,f⟩
 grind
 grind
 rw[if_pos k,if_pos k]
 grind[a01,a3C,a4L]
 simp_all[b9X];rw[if_neg (by omega),if_neg (by omega),if_pos k,if_neg (by omega),if_neg (by omega),if_pos k,b9X g,a9M (by omega)];simp only[b1T,bA,dT]at a;obtain⟨A,b⟩:=a01 (show 0≤s.2.2.2.2.1-1 by omega)
 grind[b3H,a3C,a4L]
 rw[if_neg (by omega),if_neg (by omega),if_neg (by omega),if_pos k,if_neg (by omega),if_neg (by omega),if_neg (by omega),if_pos k];simp only[a9j,bA,dT]at f
 grind[b8q,a3C,a4L]
def b4l(s:Sub):List Int:=pb s.1 3++(pb s.2.1 5++pb ((a0I s.2.2.2.2.2.2.2.2.1:Nat):Int) 5)
theorem c7q(g:0≤s.1∧s.1≤5)(f:0≤s.2.1∧s.2.1≤30)(h:s.2.2.2.2.2.2.2.2.1.all a0A=true)(L:List Int):b1V s L=L++b4l s:=by
 grind[a01,a1Q,b1V,b4l,a3C,a4L]
def a3W(s:Sub):Sub:=(s.1,s.2.1,s.2.2.1,s.2.2.2.1,s.2.2.2.2.1,s.2.2.2.2.2.1,s.2.2.2.2.2.2.1,s.2.2.2.2.2.2.2.1,[],(0,[],()),[],())
theorem b8r{wd N:Nat}{ok:Bool}(m:N<1000)(k w:Int):∀(st done:List Stg)(P R:List Int),st.all Ab.stageB=true→done.length+st.length=N→OkR P (a8g st++R)→
  y0o a6K ((wd:Int),ok,(N:Int),(done.length:Int),rdr P (a8g st++R),(k,w,0,0,0,[],[0,0,0],done,[],(0,[],()),[],()),()) =
   some ((wd:Int),ok,(k,w,0,0,0,[],[0,0,0],done++st,[],(0,[],()),[],()),rdr (P++a8g st) R,())
 | [],done,P,R,_,hl,_=>by
  have:done.length=N:=by omega
  subst this;have d:decide ((done.length:Int)<(done.length:Int))=false:=by simp
  simp_all[a0E,a6K,a8g]
 |g::st,done,P,R,h,hl,hok=>by
  simp only[a07,bA]at h;rw[lC]at hl;obtain⟨i,j,c,l⟩:=b8p h.1;obtain⟨a,b,u⟩:=g;simp only at i j c l;obtain⟨B,rfl⟩:=a01 c;obtain⟨A,r⟩:=a01 (show 0≤a-1 by omega);obtain rfl:a=(A:Int)+1:=by omega
  have e:a8g (((A:Int)+1,(B:Int),u)::st)++R=pb (A:Int) 5++(pb (B:Int) 4++(a8g st++R)):=by simp[a8g]
  rw[e]at hok⊢;have d:decide ((done.length:Int)<(N:Int))=true:=by grind
  have p:a0H (rdr P (pb (A:Int) 5++(pb (B:Int) 4++(a8g st++R))),(5:Int))=_:=a3D (v:=A) (n:=5) (by omega) (by omega) hok;have f:=hok.shift;have q:a0H (rdr (P++pb (A:Int) 5) (pb (B:Int) 4++(a8g st++R)),(4:Int))=_:=a3D (v:=B) (n:=4) (by omega) (by omega) f;have o:lim (a39 done+1)=true:=a0T (by omega);have t:wrap .i64 (A:Int)=(A:Int):=a0C (by omega);have w2:wrap .i64 (B:Int)=(B:Int):=a0C (by omega);have x:wrap .i64 ((A:Int)+1)=(A:Int)+1:=a0C (by omega);have s:wrap .u64 ((done.length:Int)+1)=(((done++[((A:Int)+1,(B:Int),u)]).length:Nat):Int):=by grind[a0L]
  rw[a0F (s':=((wd:Int),ok,(N:Int),(((done++[((A:Int)+1,(B:Int),u)]).length:Nat):Int),rdr (P++pb (A:Int) 5++pb (B:Int) 4) (a8g st++R),(k,w,0,0,0,[],[0,0,0],done++[((A:Int)+1,(B:Int),u)],[],(0,[],()),[],()),())) (by
    simp_all[a6K])]
  rw[b8r m k w st (done++[((A:Int)+1,(B:Int),u)]) _ R h.2 (by grind) f.shift];simp[a8g]
theorem c1t(h:b5y x=true):b4N 8 x:=by
 simp[b5y]at h;unfold b4N;omega
theorem c7r{wd:Nat}{w:Int}{a b c:Int}(m:b5y a=true)(hb:b5y b=true)(o:b5y c=true)(f:OkR P (sB 8 [a,b,c]++R)):
  y0o a3i ((wd:Int),(0:Int),rdr P (sB 8 [a,b,c]++R),(k,w,0,0,g,[],[0,0,0],[],[],(0,[],()),[],()),()) =
   some ((wd:Int),rdr (P++sB 8 [a,b,c]) R,(k,w,0,0,g,[],[a,b,c],[],[],(0,[],()),[],()),()):=by
 have e:sB 8 [a,b,c]++R=pb (a0W a 8) 8++(pb (a0W b 8) 8++(pb (a0W c 8) 8++R)):=by rfl
 rw[e]at f⊢;have t:a1a (rdr P (pb (a0W a 8) 8++(pb (a0W b 8) 8++(pb (a0W c 8) 8++R))),(8:Int))=_:=a9L (n:=8) (by omega) (c1t m) f;have h:=f.shift;have u:a1a (rdr (P++pb (a0W a 8) 8) (pb (a0W b 8) 8++(pb (a0W c 8) 8++R)),(8:Int))=_:=a9L (n:=8) (by omega) (c1t hb) h;have d:=h.shift;have v:a1a (rdr (P++pb (a0W a 8) 8++pb (a0W b 8) 8) (pb (a0W c 8) 8++R),(8:Int))=_:=a9L (n:=8) (by omega) (c1t o) d;have x:wrap .i64 ((0:Int)+1)=1:=by rfl
 have y:wrap .i64 ((1:Int)+1)=2:=by rfl
 have w2:wrap .i64 ((2:Int)+1)=3:=by rfl
 have p:decide ((0:Int)<3)=true:=by rfl
 have i:decide ((0:Int)≤0)=true:=by rfl
 have q:decide ((1:Int)<3)=true:=by rfl
 have j:decide ((0:Int)≤1)=true:=by rfl
 have r:decide ((2:Int)<3)=true:=by rfl
 have l:decide ((0:Int)≤2)=true:=by rfl
 have s:decide ((3:Int)<3)=false:=by rfl
 rw[a0F (s':=((wd:Int),(1:Int),rdr (P++pb (a0W a 8) 8) (pb (a0W b 8) 8++(pb (a0W c 8) 8++R)),(k,w,0,0,g,[],[a,0,0],[],[],(0,[],()),[],()),())) (by
  simp_all[a3i])]
 rw[a0F (s':=((wd:Int),(2:Int),rdr (P++pb (a0W a 8) 8++pb (a0W b 8) 8) (pb (a0W c 8) 8++R),(k,w,0,0,g,[],[a,b,0],[],[],(0,[],()),[],()),())) (by
  simp_all[a3i])]
 rw[a0F (s':=((wd:Int),(3:Int),rdr (P++pb (a0W a 8) 8++pb (a0W b 8) 8++pb (a0W c 8) 8) R,(k,w,0,0,g,[],[a,b,c],[],[],(0,[],()),[],()),())) (by
  simp_all[a3i])]
 simp_all[a0E,a3i,sB]
theorem c6o{s:Sub}{n:Int}(hs:a1s s n)(ht:s.2.2.2.2.2.2.1.length=3){P R:List Int}(i:OkR P (b4l s++(a4W s++R))):
  a9u (rdr P (b4l s++(a4W s++R)))=some (a3W s,((a0I s.2.2.2.2.2.2.2.2.1:Nat):Int),true,rdr (P++(b4l s++a4W s)) R):=by
 obtain⟨-,-,hf,ha,I,L,-,-,M,-⟩:=hs;obtain⟨k,w,o,sh,g,c,t,st,a,b,d,u⟩:=s;have hk:=b5S hf;simp only at hk I L M ht;have h0:=a1Q M;obtain⟨K,rfl⟩:=a01 hk.1;obtain⟨W,rfl⟩:=a01 I;unfold b4l at i⊢;simp at i⊢;have Y:a0H (rdr P (pb (K:Int) 3++(pb (W:Int) 5++(pb ((a0I a:Nat):Int) 5++(a4W ((K:Int),(W:Int),o,sh,g,c,t,st,a,b,d,u)++R)))),(3:Int))=_:=a3D (v:=K) (n:=3) (by omega) (by omega) i;have j:=i.shift;have Z:a0H (rdr (P++pb (K:Int) 3) (pb (W:Int) 5++(pb ((a0I a:Nat):Int) 5++(a4W ((K:Int),(W:Int),o,sh,g,c,t,st,a,b,d,u)++R))),(5:Int))=_:=a3D (v:=W) (n:=5) (by omega) (by omega) j;have l:=j.shift;have g3:a0H (rdr (P++pb (K:Int) 3++pb (W:Int) 5) (pb ((a0I a:Nat):Int) 5++(a4W ((K:Int),(W:Int),o,sh,g,c,t,st,a,b,d,u)++R)),(5:Int))=_:=a3D (v:=a0I a) (n:=5) (by omega) (by omega) l;have f:=l.shift;have wK:wrap .i64 (K:Int)=(K:Int):=a0C (by omega);have wW:wrap .i64 (W:Int)=(W:Int):=a0C (by omega);have wd:wrap .i64 ((a0I a:Nat):Int)=((a0I a:Nat):Int):=a0C (by omega);unfold a9u;rw[Y];simp only[oB];rw[Z];simp only[oB];rw[g3];simp only[oB,wK,wW,wd];generalize hX:P++pb (K:Int) 3++pb (W:Int) 5++pb ((a0I a:Nat):Int) 5=X at f⊢;have H:∀B:List Int,P++(pb (K:Int) 3++(pb (W:Int) 5++(pb ((a0I a:Nat):Int) 5++B)))=X++B:=fun B=>by grind
 rw[H];obtain⟨a1,D,q,r,E,C⟩:=ha;simp only at a1 D q r E C;clear Y Z g3 i j l hX H;rcases hf with h|h|⟨h,m,G,-⟩|⟨h,m,-⟩|⟨h,m,-,Q⟩|⟨h,m,G⟩
 
 simp only at h;obtain rfl:=a1 (by omega);obtain rfl:=D (by omega);obtain rfl:=q (by omega);obtain rfl:=r (by omega);obtain rfl:=E (by omega);obtain rfl:=C (by omega);rw[h];have hb:a4W ((0:Int),(W:Int),0,0,0,[],[0,0,0],[],a,b,d,u)=[]:=rfl;rw[hb,a08,a47];rfl;simp only at h;obtain rfl:=a1 (by omega);obtain rfl:=D (by omega);obtain rfl:=q (by omega);obtain rfl:=r (by omega);obtain rfl:=E (by omega);obtain rfl:=C (by omega);rw[h];have hb:a4W ((1:Int),(W:Int),0,0,0,[],[0,0,0],[],a,b,d,u)=[]:=rfl;rw[hb,a08,a47];rfl;simp only at h m G;obtain rfl:=D (by omega);obtain rfl:=q (by omega);obtain rfl:=r (by omega);obtain rfl:=E (by omega);obtain rfl:=C (by omega);rw[h]at f⊢;obtain⟨O,rfl⟩:=a01 m;have hb:a4W ((2:Int),(W:Int),(O:Int),0,0,[],[0,0,0],[],a,b,d,u)=pb (O:Int) 3:=rfl;rw[hb]at f⊢;have e:((2:Int)==2)=true:=rfl;have F:a0H (rdr X (pb (O:Int) 3++R),(3:Int))=_:=a3D (v:=O) (n:=3) (by omega) (by omega) f;have wO:wrap .i64 (O:Int)=(O:Int):=a0C (by omega);simp only[e,cT,F,oB,wO];rfl;simp only at h m;obtain rfl:=a1 (by omega);obtain rfl:=q (by omega);obtain rfl:=r (by omega);obtain rfl:=C (by omega);rw[h]at f⊢;have hb:a4W ((3:Int),(W:Int),0,sh,0,c,[0,0,0],[],a,b,d,u)=a7l ((3:Int),(W:Int),0,sh,0,c,[0,0,0],[],a,b,d,u):=rfl;rw[hb]at f⊢;have T:((3:Int)==2)=false:=rfl;have U:((3:Int)==4)=false:=rfl;have V:((3:Int)==3)=true:=rfl;have F:=b8o (s:=((3:Int),(W:Int),0,sh,0,c,[0,0,0],[],a,b,d,u)) (s0:=((3:Int),(W:Int),0,0,0,[],a00 3 0,[],[],(0,[],()),[],())) m rfl f;simp only[T,V,U,cT,cF,oB]
 erw[F]
 rfl
 ·simp only at h m Q;obtain rfl:=a1 (by omega);obtain rfl:=C (by omega);rw[h]at f⊢;simp only[b1T,bA,dT]at Q;obtain⟨Q,h5,S⟩:=Q;obtain⟨A,hA⟩:=a01 (show 0≤g-1 by omega);obtain rfl:g=(A:Int)+1:=by omega
  obtain⟨x,y,z,rfl⟩:∃x y z,t=[x,y,z]:=by
   match t,ht with
   | [x,y,z],_=>simp
  simp at S;have hb:a4W ((4:Int),(W:Int),0,sh,(A:Int)+1,c,[x,y,z],[],a,b,d,u)=pb (A:Int) 10++(sB 8 [x,y,z]++a7l ((4:Int),(W:Int),0,sh,(A:Int)+1,c,[x,y,z],[],a,b,d,u)):=by
   show pb ((A:Int)+1-1) 10++_=_
   simp
  rw[hb]at f⊢;simp only[aA]at f⊢;have T:((4:Int)==2)=false:=rfl;have U:((4:Int)==4)=true:=rfl;have F:a0H (rdr X (pb (A:Int) 10++(sB 8 [x,y,z]++(a7l ((4:Int),(W:Int),0,sh,(A:Int)+1,c,[x,y,z],[],a,b,d,u)++R))),(10:Int))=_:=a3D (v:=A) (n:=10) (by omega) (by omega) f;have p:=f.shift;have wA:wrap .i64 (A:Int)=(A:Int):=a0C (by omega);have h4:wrap .i64 ((A:Int)+1)=(A:Int)+1:=a0C (by omega);have g5:=c7r (wd:=a0I a) (k:=4) (w:=(W:Int)) (g:=(A:Int)+1) S.1 S.2.1 S.2.2 p;have g6:=b8o (s:=((4:Int),(W:Int),0,sh,(A:Int)+1,c,[x,y,z],[],a,b,d,u)) (s0:=((4:Int),(W:Int),0,0,(A:Int)+1,[],[x,y,z],[],[],(0,[],()),[],())) m rfl p.shift;simp_all[a3W,b5W,c1s]
 simp only at h m G;obtain rfl:=a1 (by omega);obtain rfl:=D (by omega);obtain rfl:=q (by omega);obtain rfl:=r (by omega);obtain rfl:=E (by omega);rw[h]at f⊢;simp only[a9j,bA,dT]at G;have hb:a4W ((5:Int),(W:Int),0,0,0,[],[0,0,0],st,a,b,d,u)=pb ((st.length:Nat):Int) 2++a8g st:=rfl;rw[hb]at f⊢;simp only[aA]at f⊢;have T:((5:Int)==2)=false:=rfl;have U:((5:Int)==4)=false:=rfl;have V:((5:Int)==3)=false:=rfl;have e5:((5:Int)==5)=true:=rfl;have F:a0H (rdr X (pb ((st.length:Nat):Int) 2++(a8g st++R)),(2:Int))=_:=a3D (v:=st.length) (n:=2) (by omega) (by omega) f;have g5:=b8r (wd:=a0I a) (ok:=true) (N:=st.length) (by omega) (5:Int) (W:Int) st [] _ R G.2 (by simp) f.shift;simp_all[a3W]
def a5M(s:Sub)(zn:List Nat):List Int:=
 (b4l s++a4W s)++(sB (a0I s.2.2.2.2.2.2.2.2.1) s.2.2.2.2.2.2.2.2.1++if s.1=0∨s.1=1 then[]else a6w s.2.2.2.2.2.2.2.2.2.1 zn s.2.2.2.2.2.2.2.2.2.2.1)
theorem b8s(b:a1s s n)(d:s.1≠0∧s.1≠1→PartsOk s.2.2.2.2.2.2.2.2.2.1 n ((s.2.2.2.2.2.2.2.2.1.length:Nat):Int) s.2.2.2.2.2.2.2.2.2.2.1 zn)(L:List Int):
  a5g s zn L=L++a5M s zn:=by
 obtain⟨-,-,h,-,k,a,-,-,f,-⟩:=b;have c:=a1Q f;have g:=c7q (b5S h) ⟨k,a⟩ f L;unfold a5g a5M
 by_cases hk:s.1=0∨s.1=1
 rw[if_pos hk,if_pos hk,a9M (by omega),c1X h,g]
 simp
 rw[if_neg hk,if_neg hk,c2E (d (not_or.1 hk)),a9M (by omega),c1X h,g]
 simp
def a8h(s:Sub)(l:List Int):Sub:=(s.1,s.2.1,s.2.2.1,s.2.2.2.1,s.2.2.2.2.1,s.2.2.2.2.2.1,s.2.2.2.2.2.2.1,s.2.2.2.2.2.2.2.1,l,s.2.2.2.2.2.2.2.2.2)
theorem c1Y{wd:Nat}(g:wd≤62){N:Nat}(f:N<1000000)(n:Int)(ok:Bool)(z s:Sub):∀(l done P R:List Int),(∀x∈l,b4N wd x)→done.length+l.length=N→OkR P (sB wd l++R)→
  y0o b0N (n,(wd:Int),ok,(N:Int),(done.length:Int),rdr P (sB wd l++R),z,a8h s done,())=some (n,(wd:Int),ok,rdr (P++sB wd l) R,z,a8h s (done++l),())
 | [],done,P,R,_,hl,_=>by
  have:done.length=N:=by omega
  subst this;have d:decide ((done.length:Int)<(done.length:Int))=false:=by simp
  simp_all[a0E,b0N,sB]
 |x::l,done,P,R,h,hl,hok=>by
  rw[lC]at hl;rw[c1r]at hok⊢;have d:decide ((done.length:Int)<(N:Int))=true:=by grind
  have a:=a9L g (h x (by simp)) hok;have k:lim (a39 done+1)=true:=a0T (by omega);have b:wrap .i64 ((done.length:Int)+1)=(((done++[x]).length:Nat):Int):=by grind[a0C]
  rw[a0F (s':=(n,(wd:Int),ok,(N:Int),(((done++[x]).length:Nat):Int),rdr (P++pb (a0W x wd) wd) (sB wd l++R),z,a8h s (done++[x]),())) (by
   simp_all[b0N,a8h])]
  rw[c1Y g f n ok z s l (done++[x]) _ R (fun y c=>h y (by grind)) (by grind) hok.shift];simp[sB]
theorem c6p(h:SmallS s):SmallS (a3W s) where
 coefs:=h.coefs
 taps:=h.taps
 stages:=h.stages
 warm:=by show([]:List Int).length≤5000;simp
 rest:=by show([]:List Int).length≤5000;simp
 ks:=by show([]:List Int).length≤_;simp
theorem d0S(h:SmallS s)(I:(a2f s n).isSome=true)(T:s.1≠0∧s.1≠1→PartsOk s.2.2.2.2.2.2.2.2.2.1 n ((s.2.2.2.2.2.2.2.2.1.length:Nat):Int) s.2.2.2.2.2.2.2.2.2.2.1 zn)(e:OkR P (a5M s zn++R)):b2f (rdr P (a5M s zn++R),n)=some (s,(0:Int),rdr (P++a5M s zn) R):=by
 have K:=b4M I;have d:=@c6o s n K h.taps P;have x:=K;obtain⟨U,V,O,-,-,-,-,S,r,-,v,-⟩:=x;have Q:=a1Q r;have y:=h.warm;have L:decide (n<1)=false:=by simp_all
 have M:decide (n > 4096)=false:=by simp_all
 have j:∀A B:List Int,(rdr A B).2.2.1=0:=fun _ _=>rfl;have l:a7Q ((a3W s).1,a3W s,n)=some true:=by
  rw[b5e (c6p h)];unfold b3F
  have:a3V (a3W s).1 (a3W s) n:=O
  simp_all
 have i:a4z (a3W s,n)=some ((s.2.2.2.2.2.2.2.2.1.length:Nat):Int):=by
  rw[b2i]
  have:a2h (a3W s) n=a2h s n:=rfl
  simp_all
 have p:=b9B h n;rw[I]at p;have f:a1r s.2.2.2.2.2.2.2.2.1=some ((a0I s.2.2.2.2.2.2.2.2.1:Nat):Int):=a2i (by unfold short;omega);unfold b2f a0N;unfold a5M at e⊢;simp only[aA]at e⊢;have a:OkR (P++(b4l s++a4W s)) (sB (a0I s.2.2.2.2.2.2.2.2.1) s.2.2.2.2.2.2.2.2.1++((if s.1=0∨s.1=1 then[]else a6w s.2.2.2.2.2.2.2.2.2.1 zn s.2.2.2.2.2.2.2.2.2.2.1)++R)):=OkR.shift (by simp_all)
 have G:=fun(ok:Bool) (z:Sub)=>c1Y (wd:=a0I s.2.2.2.2.2.2.2.2.1) (by omega) (N:=s.2.2.2.2.2.2.2.2.1.length) (by omega) n ok z (a3W s) s.2.2.2.2.2.2.2.2.1 [] _ _ (b5V r) (by simp) a;simp only[a19,nZ,a08,a25]at G;simp only[L,M,cF,j,bne_self_eq_false,oB];rw[d e];simp only[j,bne_self_eq_false,cF,oB,l,bT,i];rw[show((a3W s:Sub))=a8h (a3W s) []from rfl]
 erw[G]
 simp only[oB,j,bne_self_eq_false,cF];rw[show(a8h (a3W s) s.2.2.2.2.2.2.2.2.1).1=s.1 from rfl,a6t];simp only[oB]
 by_cases hk:s.1=0∨s.1=1
 have H:decide (s.1≠0∧s.1≠1)=false:=by grind
 have q:a8h (a3W s) s.2.2.2.2.2.2.2.2.1=s:=by
  obtain⟨D,E,F⟩:=v hk;obtain⟨k,w,o,sh,g,c,t,st,wm,⟨X,Y,Z⟩,re,u⟩:=s;simp only at D E F;subst D E F;rfl
 grind
 have H:decide (s.1≠0∧s.1≠1)=true:=by simp_all
 have hp:=T (not_or.1 hk);have b:=a.shift;rw[if_neg hk]at b;have m:=c3L hp b;simp only[H,cT,if_neg hk];rw[show(a8h (a3W s) s.2.2.2.2.2.2.2.2.1).2.2.2.2.2.2.2.2.1=s.2.2.2.2.2.2.2.2.1 from rfl]
 erw[m]
 have C:((0:Int) != 0)=false:=rfl;simp only[oB,C,cF,bT,f,bne_self_eq_false];have q:((a8h (a3W s) s.2.2.2.2.2.2.2.2.1).1,(a8h (a3W s) s.2.2.2.2.2.2.2.2.1).2.1,(a8h (a3W s) s.2.2.2.2.2.2.2.2.1).2.2.1,(a8h (a3W s) s.2.2.2.2.2.2.2.2.1).2.2.2.1,(a8h (a3W s) s.2.2.2.2.2.2.2.2.1).2.2.2.2.1,(a8h (a3W s) s.2.2.2.2.2.2.2.2.1).2.2.2.2.2.1,(a8h (a3W s) s.2.2.2.2.2.2.2.2.1).2.2.2.2.2.2.1,(a8h (a3W s) s.2.2.2.2.2.2.2.2.1).2.2.2.2.2.2.2.1,s.2.2.2.2.2.2.2.2.1,s.2.2.2.2.2.2.2.2.2.1,s.2.2.2.2.2.2.2.2.2.2.1,(a8h (a3W s) s.2.2.2.2.2.2.2.2.1).2.2.2.2.2.2.2.2.2.2.2)=s:=rfl
 grind
theorem d3Y(y:Int):bits .u64 .and y 1=y%2:=by
 have h:((a02 64 y) &&& (a02 64 1)).toNat=(y%18446744073709551616).toNat%2:=by
  simp
 show wrap .u64 ((((a02 64 y) &&& (a02 64 1)).toNat:Nat):Int)=_
 grind[a0L]
theorem a1X(v:Int):∀n,a1v (pb v n)
 |0=>fun b hb=>by cases hb
 |n+1=>fun b hb=>by
  rcases mC.1 hb with rfl|hb
  grind[a6O,d3Y,a8a]
  exact a1X v n b hb
theorem c4Z(n:Nat):a1v (unB n):=fun b hb=>by
 rcases mA.1 hb with hb|hb
 all_goals simp_all
theorem b4m{f:α→List Int}{l:List α}(h:∀x,a1v (f x)):a1v (l.flatMap f):=fun b hb=>by
 obtain⟨x,-,g⟩:=a94.1 hb;exact h x b g
theorem c7s(k:Nat)(x:Int):a1v (a9A k x):=by
 unfold a9A;split;exact(c4Z _).app (a1X _ _);exact(c4Z _).app (a1X _ _)
theorem b7F(n:Nat)(l:List Int):a1v (sB n l):=b4m fun _=>a1X _ _
theorem c7t(k:Int)(l:List Int):a1v (b0V k l):=by
 unfold b0V;split;exact(a1X _ _).app ((a1X _ _).app (b7F _ _));exact(a1X _ _).app (b4m fun _=>c7s _ _)
theorem b5X:a1v []:=fun b hb=>by grind
theorem b9Z:∀(zs:List Nat)(ks l:List Int),a1v (a1I zs ks l)
 |z::zs,k::ks,l=>by
  simp only[a1I];exact(c7t _ _).app (b9Z zs ks _)
 | [],_,_=>by simp_all[a1I,b5X]
 |_::_,[],_=>by simp_all[a1I,b5X]
theorem c0A(s:Sub):a1v (a7l s):=(a1X _ _).app ((a1X _ _).app ((a1X _ _).app (b7F _ _)))
theorem c7u(s:Sub):a1v (a4W s):=by
 unfold a4W;split;exact a1X _ _;split;exact c0A s;split;exact(a1X _ _).app ((b7F _ _).app (c0A s));split;exact(a1X _ _).app (b4m fun _=>(a1X _ _).app (a1X _ _));exact b5X
theorem c8z(s:Sub)(h:List Nat):a1v (a5M s h):=by
 refine(((a1X _ _).app ((a1X _ _).app (a1X _ _))).app (c7u s)).app ((b7F _ _).app ?_);split;exact b5X;exact(a1X _ _).app (b9Z _ _ _)
theorem b8U(h:SmallS s)(k:(a2f s n).isSome=true)(j:L.length<50000000):
  ∃g,a9J (wL L,s,n)=some (0,wL (L++a5M s g))∧a2G (s,n)=some (((a5M s g).length:Nat):Int)∧(a5M s g).length≤700000∧
   (s.1≠0∧s.1≠1→PartsOk s.2.2.2.2.2.2.2.2.2.1 n ((s.2.2.2.2.2.2.2.2.1.length:Nat):Int) s.2.2.2.2.2.2.2.2.2.2.1 g):=by
 obtain⟨e,i,a,-,c,d,-⟩:=b5E h (n:=n) (L:=L) (by omega);obtain⟨rfl,g,rfl,f⟩:=d k;have b:=b4M k;rw[b8s b f]at a c;refine⟨g,a,?_,by simp_all,f⟩;rw[b7A h];unfold a2Z;rw[if_pos k,←c1n f,b8s b f]
 simp
theorem d2c(g:L.length<1000000000):b2R (wL L).1=some (rdr [] L):=by
 obtain⟨-,h⟩:=a5K L;unfold b2R;rw[a0T (by omega)];rfl
theorem c8A(h:L.length<1000000000):a4Q (wL L)=some ((wL L).1,wL L):=by
 grind[a5K,a4Q,a0T]
def a0J(n:Nat):List Int:=if h:n<128 then[(n:Int)]else((n%128+128:Nat):Int)::a0J (n / 128)
termination_by n
decreasing_by omega
theorem a7x{n:Nat}(h:n<128):a0J n=[(n:Int)]:=by rw[a0J,dif_pos h]
theorem a9N{n:Nat}(h:¬ n<128):a0J n=((n%128+128:Nat):Int)::a0J (n / 128):=by rw[a0J,dif_neg h]
theorem b5Y:∀(k n:Nat),n<128^(k+1)→1≤(a0J n).length∧(a0J n).length≤k+1
 |0,n,h=>by simp_all[a7x]
 |k+1,n,h=>by
  by_cases hn:n<128
  rw[a7x hn];simp;rw[a9N hn]
  have:=b5Y k (n / 128) (by omega)
  simp_all
theorem c0B:∀(k n:Nat),n<128^(k+1)→∀b∈a0J n,0≤b∧b<256
 |0,n,h,b,hb=>by grind[a7x]
 |k+1,n,h,b,hb=>by
  by_cases hn:n<128
  grind[a7x]
  rw[a9N hn]at hb;rcases mC.1 hb with rfl|hb;omega;exact c0B k (n / 128) (by omega) b hb
theorem c5a:∀(k n:Nat)(a:List Int)(b c:Int)(out:List Int),n<128^(k+1)→k≤8→out.length+k<1000000→
  ∃r g,y0o a8t ((n:Int),a,b,c,out,())=some (((r:Nat):Int),a,b,c,out++g,())∧a0J n=g++[(r:Int)]∧r<128
 |k,n,a,b,c,out,h,hk,ho=>by
  by_cases hn:n<128
  refine⟨n,[],?_,by rw[a7x hn];rfl,hn⟩;rw[a0E (b:=((n:Int),a,b,c,out,())) (by
   have d:decide ((n:Int)≥128)=false:=by grind
   simp only[a8t,d,cF])]
  simp
  ·cases k with
   |zero=>omega
   |succ k=>
    have m:n / 128<128^(k+1):=by omega
    have f:n<18446744073709551616:=by
     have:128^(k+1+1)≤128^9:=a06 (by omega) (by omega)
     omega
    obtain⟨r,g,o,j,l⟩:=c5a k (n / 128) a b c (out++[((n%128+128:Nat):Int)]) m (by omega) (by grind);refine⟨r,((n%128+128:Nat):Int)::g,?_,by rw[a9N hn,j];rfl,l⟩;have d:decide ((n:Int)≥128)=true:=by grind
    have e:wrap .u64 (a46 (n:Int) 128)=((n / 128:Nat):Int):=by
     rw[show a46 (n:Int) 128=((n / 128:Nat):Int)from rfl];exact a0L (by omega)
    have i:wrap .u8 (wrap .u8 (a28 (n:Int) 128)+128)=((n%128+128:Nat):Int):=by
     rw[show a28 (n:Int) 128=((n%128:Nat):Int)from rfl,a8a,a8a];omega
    rw[a0F (s':=(((n / 128:Nat):Int),a,b,c,out++[((n%128+128:Nat):Int)],())) (by
     simp only[a8t,d,cT,a0T (show out.length+1<2147483648 by omega),e,i,a09])]
    simp_all
theorem b3N{α β γ:Type}(f:α→List γ):∀(l:List α)(a:List γ),a2J (β:=β) (fun a x=>.inl (a++f x)) l a=.inl (a++l.flatMap f)
 | [],a=>by simp[a2J]
 |x::l,a=>by simp only[a2J];rw[b3N f l];simp
def asI(ns:List Nat):List Int:=ns.map fun n:Nat=>(n:Int)
theorem b7l{ns:List Nat}(h:∀n∈ns,n<9223372036854775808)(t:ns.length≤1000):a9f (asI ns)=some (ns.flatMap a0J):=by
 have l:(asI ns).length=ns.length:=by simp[asI]
 have:=a1M (f:=a8u) (asI ns) (fun i (a:List Int)=>(asI ns,((asI ns).length:Int),(i:Int),a,())) (fun a x=>.inl (a++a0J x.toNat)) (fun i a=>a.length≤10*i) (fun a=>(a,()))
  (fun i hi a p=>⟨fun q g=>by
   have c:i<ns.length:=by omega
   have m:(asI ns)[i]=((ns[i]:Nat):Int):=by simp[asI]
   have hb:=h ns[i] (a05 c);have k:ns[i]<128^(8+1):=by omega
   obtain⟨r,d,o,j,s⟩:=c5a 8 ns[i] (asI ns) ((asI ns).length:Int) (i:Int) a k (a23 _) (by omega);have hv:=b5Y 8 ns[i] k;rw[j]at hv;simp only[lN,lC,a19]at hv;simp[m,j]at g;subst g;have e:wrap .u8 (r:Int)=(r:Int):=by rw[a8a];omega
   refine⟨?_,by grind⟩;simp only[a8u,dlt hi,cT,a0D hi,m,oB,o,a0T (show(a++d).length+1<2147483648 by grind),a0B (show i<1000000 by omega),e,a09,aA],fun b hb=>by grind⟩)
  (fun a p=>by simp_all[a8u]) (a:=[]) (by simp)
 simp_all[a9f,b3N,a8V,asI,List.flatMap_map]
theorem orA{k:Nat}(f:a<2^k)(c:b*2^k+a<18446744073709551616):bits .u64 .or (a:Int) ((b*2^k:Nat):Int)=((a+b*2^k:Nat):Int):=by
 show wrap .u64 (((a02 64 (a:Int) ||| a02 64 ((b*2^k:Nat):Int)).toNat:Nat):Int)=_;have g:(a02 64 (a:Int)).toNat=a:=by grind
 have h:(a02 64 ((b*2^k:Nat):Int)).toNat=b*2^k:=by grind[a42]
 grind[a44,a77,a0L]
theorem b8t{rest:List Int}:∀(j m i acc:Nat)(P:List Int),m<128^(j+1)→P.length=i→(i=0∨1≤m)→acc<2^(7*i)→m*2^(7*i)+acc<9223372036854775808→(P++(a0J m++rest)).length<1000000000→
  y0o a5V ((acc:Int),P++(a0J m++rest),((P++(a0J m++rest)).length:Nat),(i:Int),())=some (.inr (((acc+m*2^(7*i):Nat):Int),((i+(a0J m).length:Nat):Int),(0:Int),()))
 |j,m,i,acc,P,hj,hP,hm,ha,hs,hl=>by
  have r:i≤8:=by
   rcases hm with l|h1;omega;apply Classical.byContradiction;intro hi;have y:2^(7*9)≤2^(7*i):=a06 (by omega) (by omega);have z:2^(7*i)≤m*2^(7*i):=Nat.le_mul_of_pos_left _ (by omega);omega
  have t:wrap .i64 ((7:Int)*(i:Int))=((7*i:Nat):Int):=by grind[a0C]
  have v:decide ((((7*i:Nat):Int))<0)=false:=by rfl
  have u:wrap .i64 ((i:Int)+1)=((i+1:Nat):Int):=a0B (by omega);have x:∀c:Nat,c<256→(i=9→False):=fun _ _ h=>by omega
  have n:((i:Int)==9)=false:=by grind
  have g:∀(c:Nat)(b:List Int),c<256→a0J m=(c:Int)::b→(i=0∨c≠0)→
    a5V ((acc:Int),P++(a0J m++rest),((P++(a0J m++rest)).length:Nat),(i:Int),()) =
     bif decide ((c:Int)<128)then some (.inr (Sum.inr (bits .u64 .or (acc:Int) (A0j .u64 (wrap .u64 (a28 (c:Int) 128)) ((7*i:Nat):Int)),((i+1:Nat):Int),(0:Int),())))
     else some (.inl (bits .u64 .or (acc:Int) (A0j .u64 (wrap .u64 (a28 (c:Int) 128)) ((7*i:Nat):Int)),P++(a0J m++rest),((P++(a0J m++rest)).length:Nat),((i+1:Nat):Int),())):=fun c b o hv l=>by
   have k:i<(P++(a0J m++rest)).length:=by simp_all
   have q:m0h (P++(a0J m++rest)) (i:Int)=some (c:Int):=by
    simp_all[a0D]
   have A:(decide ((i:Int) > 0)=true→((c:Int)==0)=false):=fun h=>by
    grind
   simp only[a5V,dlt k,cT,q,oB,n,cF]
   grind
  have f:∀c:Nat,c%128*2^(7*i)+acc<9223372036854775808→bits .u64 .or (acc:Int) (A0j .u64 (wrap .u64 (a28 (c:Int) 128)) ((7*i:Nat):Int))=((acc+c%128*2^(7*i):Nat):Int):=fun c o=>by
   rw[show a28 (c:Int) 128=((c%128:Nat):Int)from rfl,a0L (by omega),b2j (by omega) (by omega)];exact orA ha (by omega)
  by_cases hm128:m<128
  rw[a0E (g m [] (by omega) (a7x hm128) (by omega) |>.trans (by
   have d:decide ((m:Int)<128)=true:=by grind
   simp only[d,cT];rfl))]
  rw[f m (by simp_all[a24]),a24 hm128,a7x hm128];rfl
  ·cases j with
   |zero=>omega
   |succ j=>
    have p:m / 128<128^(j+1):=by omega
    have s:2^(7*(i+1))=128*2^(7*i):=by grind
    have a:m*2^(7*i)=m%128*2^(7*i)+m / 128*2^(7*(i+1)):=by
     grind
    have hb:m%128*2^(7*i)≤127*2^(7*i):=a27 _ (by omega);rw[a0F (g (m%128+128) (a0J (m / 128)) (by omega) (a9N hm128) (by omega) |>.trans (by
     have d:decide (((m%128+128:Nat):Int)<128)=false:=by grind
     simp only[d,cF];rfl))]
    rw[f (m%128+128) (by grind[a84,Nat.mod_mod]),a84,Nat.mod_mod];have e:P++(a0J m++rest)=(P++[((m%128+128:Nat):Int)])++(a0J (m / 128)++rest):=by rw[a9N hm128];simp
    rw[e]at hl⊢;have w:=b8t j (m / 128) (i+1) (acc+m%128*2^(7*i)) (P++[((m%128+128:Nat):Int)]) p (by simp[hP]) (.inr (by omega)) (by omega) (by omega) hl;rw[w,a,a9N hm128];congr 3;omega
    simp;omega
theorem c7v{n:Nat}(h:n<9223372036854775808){rest:List Int}(g:(a0J n++rest).length<1000000000):a8F (a0J n++rest)=some ((n:Int),(((a0J n).length:Nat):Int),(0:Int)):=by
 have:=b8t (rest:=rest) 8 n 0 0 [] (by omega) rfl (.inl rfl) (by simp) (by omega) g
 simp_all[a8F]
def ord(P R:List Int):List Int×(Int×Int×Unit):=(P++R,(P.length:Int),(0:Int),())
theorem a2S{n:Nat}(c:n<9223372036854775808){most:Int}(e:(n:Int)≤most)(b:(P++(a0J n++R)).length<1000000000):
  a0R (ord P (a0J n++R),most)=some ((n:Int),ord (P++a0J n) R):=by
 have a:b01 (a29 (P.length:Int)) (a85 (P++(a0J n++R)).length (P++(a0J n++R)))=a0J n++R:=by
  grind[tN]
 have k:((0:Int) != 0)=false:=rfl;have g:decide ((0:Int)≤(P.length:Int))=true:=by simp
 have f:decide ((P.length:Int)≤((P++(a0J n++R)).length:Int))=true:=by grind
 have d:decide ((n:Int) > most)=false:=by simp_all
 have h:(a0J n++R).length<1000000000:=by grind
 have i:wrap .i64 ((P.length:Int)+((a0J n).length:Int))=(((P++a0J n).length:Nat):Int):=by
  rw[a0C (by simp at b;omega)];simp
 unfold a0R ord;simp only[k,cF,g,f,a04,cT];rw[a,c7v c h]
 grind
def a8Y(g:Int):Nat:=if 0≤g then(2*g).toNat else(-2*g-1).toNat
theorem d2d(h:-100000≤g∧g≤100000):b1H g=some ((a8Y g:Nat):Int):=by
 unfold b1H a8Y
 by_cases hg:0≤g
 have d:decide (g≥0)=true:=by simp_all
 rw[d,cT,if_pos hg,a0L (n:=g) (by omega),a0L (by omega),a74 (by omega)];have d:decide (g≥0)=false:=by simp_all
 rw[d,cF,if_neg hg,a0C (n:=g+1) (by omega),a0C (by omega),a0L (n:=0-(g+1)) (by omega),a0L (n:=2*(0-(g+1))) (by omega),a0L (by omega),a74 (by omega)]
 grind
theorem c5b(h:-(m:Int)≤g∧g≤(m:Int)):a8Y g≤2*m:=by
 grind[a8Y]
theorem d2e(h:-100000≤g∧g≤100000):b1P ((a8Y g:Nat):Int)=some g:=by
 unfold b1P;have f:a28 ((a8Y g:Nat):Int) 2=((a8Y g%2:Nat):Int):=rfl;have k:a46 ((a8Y g:Nat):Int) 2=((a8Y g / 2:Nat):Int):=rfl;rw[f,k];unfold a8Y
 by_cases hg:0≤g
 rw[if_pos hg];have d:((((2*g).toNat%2:Nat):Int)==0)=true:=by grind
 rw[d,cT,a0L (by omega),a0C (by omega)]
 grind
 rw[if_neg hg];have d:((((-2*g-1).toNat%2:Nat):Int)==0)=false:=by grind
 rw[d,cF,a0L (by omega),a0C (n:=(((-2*g-1).toNat / 2:Nat):Int)) (by omega),a0C (n:=0-(((-2*g-1).toNat / 2:Nat):Int)) (by omega),a0C (by omega)]
 grind
def e8(s:Int):Int:=bif (A0k .u8 s 7)==(1:Int)then bits .u8 .xor (A0j .u8 s 1) 7 else A0j .u8 s 1
def e16(s:Int):Int:=bif (A0k .u16 s 15)==(1:Int)then bits .u16 .xor (A0j .u16 s 1) 32773 else A0j .u16 s 1
def rep{α:Type}(f:α→α):Nat→α→α
 |0,s=>s
 |n+1,s=>rep f n (f s)
def g8(s c:Int):Int:=rep e8 8 (bits .u8 .xor s c)
def g16(s c:Int):Int:=rep e16 8 (bits .u16 .xor s (A0j .u16 (wrap .u16 c) 8))
theorem c0C(l:List Int)(n i:Int):∀(j k:Nat)(s:Int),k+j=8→y0o b0D (s,l,n,i,(k:Int),())=some (rep e8 j s,l,n,i,())
 |0,k,s,h=>by
  obtain rfl:k=8:=by omega
  rfl
 |j+1,k,s,h=>by
  have d:decide ((k:Int)<8)=true:=by grind
  rw[a0F (s':=(e8 s,l,n,i,((k+1:Nat):Int),())) (by
   simp only[b0D,d,cT,a0B (show k<1000000 by omega),e8]
   grind)]
  exact c0C l n i j (k+1) (e8 s) (by omega)
theorem b7m(l:List Int)(n i:Int):∀(j k:Nat)(s:Int),k+j=8→y0o a8O (s,l,n,i,(k:Int),())=some (rep e16 j s,l,n,i,())
 |0,k,s,h=>by
  obtain rfl:k=8:=by omega
  rfl
 |j+1,k,s,h=>by
  have d:decide ((k:Int)<8)=true:=by grind
  rw[a0F (s':=(e16 s,l,n,i,((k+1:Nat):Int),())) (by
   simp only[a8O,d,cT,a0B (show k<1000000 by omega),e16]
   grind)]
  exact b7m l n i j (k+1) (e16 s) (by omega)
def b5Z(l:List Int):Int:=l.foldl g8 0
def a4g(l:List Int):Int:=l.foldl g16 0
theorem c3M(h:short l):a7T l=some (b5Z l):=by
 have:=a1M (f:=a7F) (β:=Int×Unit) l (fun i (a:Int)=>(a,l,(l.length:Int),(i:Int),())) (fun a x=>.inl (g8 a x)) (fun _ _=>True) (fun a=>(a,()))
  (fun i hi a _=>⟨fun k g=>by
   simp at g;subst g
   have:=c0C l (l.length:Int) (i:Int) 8 0 (bits .u8 .xor a l[i]) rfl
   simp at this;refine⟨?_,trivial⟩;simp only[a7F,dlt hi,cT,a0D hi,oB,this,a0B (a33 hi h),g8],fun b hb=>by grind⟩)
  (fun a c=>by simp_all[a7F]) (a:=0) trivial
 unfold a7T;simp at this;rw[this,b5R];rfl
theorem c0D(h:short l):a6d l=some (a4g l):=by
 have:=a1M (f:=a5R) (β:=Int×Unit) l (fun i (a:Int)=>(a,l,(l.length:Int),(i:Int),())) (fun a x=>.inl (g16 a x)) (fun _ _=>True) (fun a=>(a,()))
  (fun i hi a _=>⟨fun k g=>by
   simp at g;subst g
   have:=b7m l (l.length:Int) (i:Int) 8 0 (bits .u16 .xor a (A0j .u16 (wrap .u16 l[i]) 8)) rfl
   simp at this;refine⟨?_,trivial⟩;simp only[a5R,dlt hi,cT,a0D hi,oB,this,a0B (a33 hi h),g16],fun b hb=>by grind⟩)
  (fun a c=>by simp_all[a5R]) (a:=0) trivial
 unfold a6d;simp at this;rw[this,b5R];rfl
theorem b3g(n:Int):wrap .u16 n=n%65536:=by rfl
theorem c7w(s:Int):0≤e16 s∧e16 s<65536:=by
 unfold e16;cases (A0k .u16 s 15==1:Bool);simp only[cF,A0j,b3g];omega;simp only[cT,bits,b3g];omega
theorem b8u(l:List Int):0≤a4g l∧a4g l<65536:=by
 unfold a4g;rcases a50 l with rfl|⟨L,b,rfl⟩
 simp
 rw[List.concat_eq_append,List.foldl_append];exact c7w _
theorem d7E{v:Int}(h:0≤v∧v<65536):a4l (v,2)=some [v / 256,v%256]:=by
 have g:wrap .u64 (a46 v 256)=v / 256:=by grind[a0L]
 have f:wrap .u8 (a28 v 256)=v%256:=by simp_all[a45,a8a]
 have k:wrap .u8 (a28 (v / 256) 256)=v / 256:=by grind[a8a]
 have s0:a1L (v,(2:Int),(0:Int),([]:List Int),())=some (.inl (v / 256,(2:Int),(1:Int),[v%256],())):=by
  simp only[a1L,show decide ((0:Int)<2)=true from rfl,cT,a0T (show([]:List Int).length+1<2147483648 by simp),g,f];rfl
 have a:a1L (v / 256,(2:Int),(1:Int),[v%256],())=some (.inl (wrap .u64 (a46 (v / 256) 256),(2:Int),(2:Int),[v%256,v / 256],())):=by
  simp only[a1L,show decide ((1:Int)<2)=true from rfl,cT,a0T (show([v%256]:List Int).length+1<2147483648 by simp),k];rfl
 have c:a5c (v,2)=some [v%256,v / 256]:=by
  unfold a5c a2U
  simp
  rw[show v0o (v0n (2:Int) 0) 8=2 from rfl,a0F s0,a0F a,a0E (b:=([v%256,v / 256],())) rfl];rfl
 simp_all[a4l,a1J]
@[reducible] def a0K:Type:=Int×(Int×(Int×Unit))
@[reducible] def a1p:Type:=Int×(Int×(a0K×(List a0K×(List Sub×Unit))))
variable {f:a1p}
@[reducible] def a1k:Type:=Int×(List (List Int)×Unit)
def a2s(n:Int)(s:a0K):Bool:=!(decide (s.1<0) || decide (s.1≥n) || decide (s.2.1<0) || decide (s.2.1≥n) || s.1==s.2.1)&&!(decide (s.2.2.1 < -1024) || decide (s.2.2.1 > 1024))
theorem a2V{n:Int}{s:a0K}:a2s n s=true↔0≤s.1∧s.1<n∧0≤s.2.1∧s.2.1<n∧s.1≠s.2.1∧-1024≤s.2.2.1∧s.2.2.1≤1024:=by
 simp only[a2s,bA,a34,a73,decide_eq_false_iff_not,beq_eq_false_iff_ne];omega
def a4Y(l:List a0K)(n:Int):Prop:=1≤n∧n≤8∧l.length≤16∧l.all (a2s n)=true
instance (l:List a0K) (n:Int):Decidable (a4Y l n):=by unfold a4Y;infer_instance
theorem b4O(l:List a0K)(n:Int):a8m (l,n)=some (decide (a4Y l n)):=by
 unfold a8m a4Y
 by_cases h1:n<1
 grind
 by_cases h2:n > 8
 grind
 by_cases h3:((l.length:Nat):Int) > 16
 grind
 have g:=a1N (f:=a6S) (β:=Unit ⊕ (Bool×Unit)) l (fun i=>(n,l,(l.length:Int),(i:Int),())) (a2s n) (bt:=Sum.inl ()) (bf:=Sum.inr (false,()))
  (fun i h hp=>by
   obtain⟨a1,m,o,p,q,r,s⟩:=a2V.1 hp;have k:decide (l[i].1<0)=false:=by simp_all
   have a:decide (l[i].1≥n)=false:=by simp_all
   have b:decide (l[i].2.1<0)=false:=by simp_all
   have c:decide (l[i].2.1≥n)=false:=by simp_all
   have d:(l[i].1==l[i].2.1)=false:=by simp_all
   have e:decide (l[i].2.2.1 < -1024)=false:=by simp_all
   have j:decide (l[i].2.2.1 > 1024)=false:=by simp_all
   simp only[a6S,dlt h,cT,a0D h,oB,k,a,b,c,d,e,j,cF,a0B (show i<1000000 by omega)])
  (fun i h hp=>by
   simp only[a6S,dlt h,cT,a0D h,oB]
   grind[a2s])
  (by simp[a6S])
 grind
def a3k(f:a0K):Prop:=1≤f.1∧f.1≤1048576∧1≤f.2.1∧f.2.1≤8∧4≤f.2.2.1∧f.2.2.1≤24
instance (f:a0K):Decidable (a3k f):=by unfold a3k;infer_instance
theorem a4x(f:a0K):a1P f=some (decide (a3k f)):=by
 unfold a1P a6R a3k
 grind
def frP(f:a1p):Prop:=a3k f.2.2.1∧1≤f.2.1∧f.2.1≤4096∧0≤f.1∧f.1≤4194304-f.2.1∧a4Y f.2.2.2.1 f.2.2.1.2.1
instance (f:a1p):Decidable (frP f):=by unfold frP;infer_instance
theorem b5r(f:a1p):a6T f=some (decide (frP f)):=by
 unfold a6T frP;rw[a4x,b4O]
 by_cases h1:a3k f.2.2.1<;>by_cases h2:1≤f.2.1<;>by_cases h3:f.2.1≤4096<;>by_cases h4:0≤f.1<;>simp[h1,h2,h3,h4]
 have h:wrap .i64 ((4194304:Int)-f.2.1)=4194304-f.2.1:=a0C (by omega);rw[h]
 grind
def a7m(s:a0K):List Nat:=[s.1.toNat,s.2.1.toNat,a8Y s.2.2.1]
def a5E(s:a0K):List Int:=a0J s.1.toNat++(a0J s.2.1.toNat++a0J (a8Y s.2.2.1))
def hb(f:a1p)(body:Nat):List Int:=
 [245,75]++(a0J f.1.toNat++(a0J f.2.1.toNat++(a0J f.2.2.1.1.toNat++(a0J f.2.2.1.2.1.toNat++(a0J f.2.2.1.2.2.1.toNat++(a0J f.2.2.2.1.length++(f.2.2.2.1.flatMap a5E++a0J body)))))))
def a1z(f:a1p)(body:Nat):List Int:=hb f body++[b5Z (hb f body)]
theorem a8L{n:Nat}(h:n<9223372036854775808):1≤(a0J n).length∧(a0J n).length≤9:=b5Y 8 n (by omega)
theorem c7x(g:n≤8){s:a0K}(h:a2s n s=true):(a5E s).length≤27:=by
 grind[a2V,a8L,a8Y,a5E]
theorem c1Z{n:Int}(g:n≤8):∀(l:List a0K),l.all (a2s n)=true→(l.flatMap a5E).length≤27*l.length
 | [],_=>by simp
 |s::l,h=>by
  simp only[a07,bA]at h
  have:=c7x g h.1
  have:=c1Z g l h.2
  simp only[a60,lN,lC];omega
theorem c3N{f:a1p}(g:frP f){body:Nat}(h:body≤1048576):2≤(hb f body).length∧(hb f body).length≤600:=by
 obtain⟨⟨q,r2,k,a,b,c⟩,l1,l2,s1,s2,m1,m2,m3,m4⟩:=g;have d:=a8L (n:=f.1.toNat) (by omega);have e:=a8L (n:=f.2.1.toNat) (by omega);have i:=a8L (n:=f.2.2.1.1.toNat) (by omega);have j:=a8L (n:=f.2.2.1.2.1.toNat) (by omega);have l:=a8L (n:=f.2.2.1.2.2.1.toNat) (by omega);have m:=a8L (n:=f.2.2.2.1.length) (by omega);have o:=a8L (n:=body) (by omega);have p:=c1Z m2 _ m4;simp only[hb,lN,lC,a19];omega
theorem c5c:∀l:List a0K,(l.flatMap a7m).length=3*l.length
 | []=>rfl
 |s::l=>by simp only[a60,lN,lC,c5c l];simp only[a7m,lC,a19];omega
theorem c6q(z:frP f){body:Nat}(q:body≤1048576):a7G (f,(body:Int))=some (a1z f body):=by
 have t:=z;obtain⟨⟨N,r2,I,K,L,M⟩,l1,l2,s1,s2,m1,m2,m3,m4⟩:=t;have k:∀s∈f.2.2.2.1,a2s f.2.2.1.2.1 s=true:=fun s v=>lA.1 m4 s v;have h:=a1M (f:=a5l) (β:=Int×(List Int×Unit)) f.2.2.2.1 (fun i (a:List Int)=>((body:Int),f.2.2.2.1,((f.2.2.2.1.length:Nat):Int),(i:Int),a,())) (fun a x=>.inl (a++asI (a7m x))) (fun i a=>a.length=6+3*i) (fun a=>((body:Int),a,()))
  (fun i hi a F=>⟨fun H j=>by
   simp at j;subst j;obtain⟨a1,B,C,D,E,w,y⟩:=a2V.1 (k _ (a05 hi));refine⟨?_,by grind[asI,a7m]⟩;simp only[a5l,dlt hi,cT,a0D hi,oB,d2d (g:=f.2.2.2.1[i].2.2.1) (by omega),a0T (show a.length+3<2147483648 by omega),a0B (show i<1000000 by omega),a09]
   grind[a0L,asI,a7m],fun b hb=>by grind⟩)
  (fun a F=>by simp_all[a5l]) (a:=asI [f.1.toNat,f.2.1.toNat,f.2.2.1.1.toNat,f.2.2.1.2.1.toNat,f.2.2.1.2.2.1.toNat,f.2.2.2.1.length]) (by rfl)
 rw[b3N]at h;simp[a8V]at h;have d:([wrap .u64 f.1,wrap .u64 f.2.1,wrap .u64 f.2.2.1.1,wrap .u64 f.2.2.1.2.1,wrap .u64 f.2.2.1.2.2.1,wrap .u64 ((f.2.2.2.1.length:Nat):Int)]:List Int)=asI [f.1.toNat,f.2.1.toNat,f.2.2.1.1.toNat,f.2.2.1.2.1.toNat,f.2.2.1.2.2.1.toNat,f.2.2.2.1.length]:=by
  grind[a0L,asI]
 have o:asI [f.1.toNat,f.2.1.toNat,f.2.2.1.1.toNat,f.2.2.1.2.1.toNat,f.2.2.1.2.2.1.toNat,f.2.2.2.1.length]++f.2.2.2.1.flatMap (fun x=>asI (a7m x))++[((body:Nat):Int)]=asI ([f.1.toNat,f.2.1.toNat,f.2.2.1.1.toNat,f.2.2.1.2.1.toNat,f.2.2.1.2.2.1.toNat,f.2.2.2.1.length]++f.2.2.2.1.flatMap a7m++[body]):=by
  simp_all[asI,List.map_flatMap]
 have u:∀n∈[f.1.toNat,f.2.1.toNat,f.2.2.1.1.toNat,f.2.2.1.2.1.toNat,f.2.2.1.2.2.1.toNat,f.2.2.2.1.length]++f.2.2.2.1.flatMap a7m++[body],n<9223372036854775808:=fun n e=>by
  simp only[mA,mC,a93,or_false,a94]at e;rcases e with(e|⟨s,v,e⟩)|e;omega;obtain⟨a1,B,C,D,E,w,y⟩:=a2V.1 (k _ v)
  have:=c5b (m:=1024) ⟨w,y⟩
  simp[a7m]at e;omega;omega
 have A:=c5c f.2.2.2.1;have p:=b7l u (by grind);have c:(([f.1.toNat,f.2.1.toNat,f.2.2.1.1.toNat,f.2.2.1.2.1.toNat,f.2.2.1.2.2.1.toNat,f.2.2.2.1.length]++f.2.2.2.1.flatMap a7m++[body]).flatMap a0J)=(hb f body).drop 2:=by
  simp only[hb,List.flatMap_append,a60,List.flatMap_nil,a47,aA,List.flatMap_assoc,a63,a08,List.drop_succ_cons,a31];congr 7;exact congrArg (fun g=>List.flatMap g f.2.2.2.1) (funext fun s=>by simp[a5E,a7m])
 have r:[245,75]++(hb f body).drop 2=hb f body:=by rfl
 have G:=c3N z q;unfold a7G;simp only[d];rw[h];simp only[oB,a09];have l:=congrArg a39 o;rw[show(asI ([f.1.toNat,f.2.1.toNat,f.2.2.1.1.toNat,f.2.2.1.2.1.toNat,f.2.2.1.2.2.1.toNat,f.2.2.2.1.length]++f.2.2.2.1.flatMap a7m++[body])).length=7+3*f.2.2.2.1.length from by grind[asI,lC]]at l;rw[lN,a68]at l;rw[a0L (n:=(body:Int)) (by omega),a0T (by omega),cT,o,p];simp only[oB,c,a09,r];rw[a0T (by grind),cT,c3M (show short (hb f body)by unfold short;omega)]
 simp
 rw[a0T (by omega),cT];rfl
def c6r(f:a1p):a1p:=(f.1,f.2.1,f.2.2.1,f.2.2.2.1,[],())
theorem a1A{A:List Int}{k:Nat}(h:(P++(A++R)).length<k):((P++A)++R).length<k:=by rw[aA];exact h
theorem c0E{x:List Int}{ch:Int}(c:ch≤8)(s l:Int)(fm:a0K)(u:List Sub×Unit){N:Nat}(o:N≤16){R:List Int}:∀(rest done:List a0K)(P:List Int),rest.all (a2s ch)=true→done.length+rest.length=N→
  (P++(rest.flatMap a5E++R)).length<1000000000→
  y0o a5x (x,(N:Int),(done.length:Int),(s,l,fm,done,u),ord P (rest.flatMap a5E++R),())=some (x,(s,l,fm,done++rest,u),ord (P++rest.flatMap a5E) R,())
 | [],done,P,_,hl,_=>by
  have e:done.length=N:=by simpa using hl
  rw[e,a0E (b:=(x,(s,l,fm,done,u),ord P R,())) (by simp only[a5x,dge,cF];rfl)]
  simp
 |g::rest,done,P,h,hl,hlen=>by
  simp only[a07,bA]at h;rw[lC]at hl;obtain⟨a1,y,z,A,B,d,i⟩:=a2V.1 h.1;have C:=c5b (m:=1024) ⟨d,i⟩;have j:(g::rest).flatMap a5E++R=a0J g.1.toNat++(a0J g.2.1.toNat++(a0J (a8Y g.2.2.1)++(rest.flatMap a5E++R))):=by simp[a5E]
  rw[j]at hlen⊢;have r:=a2S (n:=g.1.toNat) (most:=7) (by omega) (by omega) hlen;have f:=a1A hlen;have t:=a2S (n:=g.2.1.toNat) (most:=7) (by omega) (by omega) f;have k:=a1A f;have v:=a2S (n:=a8Y g.2.2.1) (most:=2048) (by omega) (by omega) k;have a:=a1A k;have q:wrap .u64 ((done.length:Int)+1)=(((done++[g]).length:Nat):Int):=by rw[a0L (by omega)];simp
  have w:wrap .i64 ((g.1.toNat:Nat):Int)=g.1:=by rw[a0C (by omega)];omega
  have w2:wrap .i64 ((g.2.1.toNat:Nat):Int)=g.2.1:=by rw[a0C (by omega)];omega
  have p:decide ((done.length:Int)<(N:Int))=true:=by simp;omega
  rw[a0F (s':=(x,(N:Int),(((done++[g]).length:Nat):Int),(s,l,fm,done++[g],u),ord (P++a0J g.1.toNat++a0J g.2.1.toNat++a0J (a8Y g.2.2.1)) (rest.flatMap a5E++R),())) (by
   simp only[a5x,p,cT,r,t,v,oB,d2e (g:=g.2.2.1) (by omega),a0T (show done.length+1<2147483648 by omega),w,w2,q,a09])]
  rw[c0E c s l fm u o rest (done++[g]) _ h.2 (by simp;omega) a];simp[a5E]
theorem c6s(p:frP f){body:Nat}(o:body≤1048576)(hl:(a1z f body++R).length<1000000000):
  a7O (a1z f body++R)=some (c6r f,((a1z f body).length:Int),(body:Int),(0:Int)):=by
 have q:=p;obtain⟨⟨r1,r2,c1,c2,d1,d2⟩,l1,l2,s1,s2,m1,m2,m3,m4⟩:=q;have X:=c3N p o

 have d:a1z f body++R=[245,75]++(a0J f.1.toNat++(a0J f.2.1.toNat++(a0J f.2.2.1.1.toNat++(a0J f.2.2.1.2.1.toNat++(a0J f.2.2.1.2.2.1.toNat++(a0J f.2.2.2.1.length++(f.2.2.2.1.flatMap a5E++(a0J body++([b5Z (hb f body)]++R))))))))):=by
  simp[a1z,hb]
 generalize hx:a1z f body++R=x at *;have Y:2≤x.length:=by rw[d];simp
 have S:m0h x 0=some 245:=by rw[d];rfl
 have U:m0h x 1=some 75:=by rw[d];rfl
 have k:b01 2 (a85 x.length x)=a0J f.1.toNat++(a0J f.2.1.toNat++(a0J f.2.2.1.1.toNat++(a0J f.2.2.1.2.1.toNat++(a0J f.2.2.1.2.2.1.toNat++(a0J f.2.2.2.1.length++(f.2.2.2.1.flatMap a5E++(a0J body++([b5Z (hb f body)]++R)))))))):=by
  rw[a20,d];rfl
 have h:([]++(a0J f.1.toNat++(a0J f.2.1.toNat++(a0J f.2.2.1.1.toNat++(a0J f.2.2.1.2.1.toNat++(a0J f.2.2.1.2.2.1.toNat++(a0J f.2.2.2.1.length++(f.2.2.2.1.flatMap a5E++(a0J body++([b5Z (hb f body)]++R))))))))):List Int).length<1000000000:=by
  rw[←k];simp;omega
 have E:=a2S (n:=f.1.toNat) (most:=4194304) (by omega) (by omega) h;have y:=a1A h;have F:=a2S (n:=f.2.1.toNat) (most:=4096) (by omega) (by omega) y;have z:=a1A y;have G:=a2S (n:=f.2.2.1.1.toNat) (most:=1048576) (by omega) (by omega) z;have A:=a1A z;have H:=a2S (n:=f.2.2.1.2.1.toNat) (most:=8) (by omega) (by omega) A;have B:=a1A A;have I:=a2S (n:=f.2.2.1.2.2.1.toNat) (most:=24) (by omega) (by omega) B;have C:=a1A B;have K:=a2S (n:=f.2.2.2.1.length) (most:=16) (by omega) (by omega) C;have D:=a1A C;have a:=c0E (x:=x) m2 f.1 f.2.1 f.2.2.1 ([],()) m3 f.2.2.2.1 [] _ m4 (by simp) D;have V:=a1A D;have i:=a2S (n:=body) (most:=1048576) (by omega) (by omega) V;simp only[a19,nZ,a08,a25]at E F G H I K i a;have w1:wrap .i64 ((f.1.toNat:Nat):Int)=f.1:=by rw[a0C (by omega)];omega
 have w2:wrap .i64 ((f.2.1.toNat:Nat):Int)=f.2.1:=by rw[a0C (by omega)];omega
 have w3:wrap .i64 ((f.2.2.1.1.toNat:Nat):Int)=f.2.2.1.1:=by rw[a0C (by omega)];omega
 have w4:wrap .i64 ((f.2.2.1.2.1.toNat:Nat):Int)=f.2.2.1.2.1:=by rw[a0C (by omega)];omega
 have w5:wrap .i64 ((f.2.2.1.2.2.1.toNat:Nat):Int)=f.2.2.1.2.2.1:=by rw[a0C (by omega)];omega
 have l:a0J f.1.toNat++a0J f.2.1.toNat++a0J f.2.2.1.1.toNat++a0J f.2.2.1.2.1.toNat++a0J f.2.2.1.2.2.1.toNat++a0J f.2.2.2.1.length++f.2.2.2.1.flatMap a5E++a0J body=(hb f body).drop 2:=by simp[hb]
 rw[l]at i;have u:ord ((hb f body).drop 2) ([b5Z (hb f body)]++R)=(x.drop 2,(((hb f body).length-2:Nat):Int),(0:Int),()):=by
  unfold ord;rw[a52,←hx];congr 1;unfold a1z;rw[aA,List.drop_append_of_le_length (by omega)]
 rw[u]at i;have b:wrap .i64 (((x.drop 2).length:Int)-(((hb f body).length-2:Nat):Int))=((1+R.length:Nat):Int):=by
  have:x.length=(hb f body).length+(1+R.length):=by rw[←hx];simp[a1z];omega
  rw[a52,a0C (by omega)];omega
 have m:wrap .i64 ((2:Int)+(((hb f body).length-2:Nat):Int))=(((hb f body).length:Nat):Int):=by rw[a0C (by omega)];omega
 have t:(hb f body).length<x.length:=by rw[←hx];simp[a1z]
 have c:a85 (hb f body).length x=hb f body:=by rw[←hx];simp[a1z]
 have s:m0h x (((hb f body).length:Nat):Int)=some (b5Z (hb f body)):=by rw[a0D t];congr 1;subst hx;simp[a1z]
 have Q:decide (((x.length:Nat):Int)<2)=false:=by simp;omega
 have j:decide ((2:Int)≤((x.length:Nat):Int))=true:=by simp;omega
 have L:((245:Int) != 245)=false:=rfl;have M:((75:Int) != 75)=false:=rfl;have e:∀T:List Int,T.length<1000000000→a5J T=some (ord [] T):=fun T d=>by unfold a5J;rw[a0T (by omega)];rfl
 have g:=h;rw[a08]at g;have z0:((0:Int) != 0)=false:=rfl;have N:decide (((1+R.length:Nat):Int)<1)=false:=by simp;omega
 have O:decide ((0:Int)≤(((hb f body).length:Nat):Int))=true:=by simp
 have P:decide ((((hb f body).length:Nat):Int)≤((x.length:Nat):Int))=true:=by simp;omega
 have Z:(b5Z (hb f body) != b5Z (hb f body))=false:=bne_self_eq_false _;have r:frP (f.1,f.2.1,f.2.2.1,f.2.2.2.1,([]:List Sub),()):=p;have w:wrap .i64 ((((hb f body).length:Nat):Int)+1)=(((a1z f body).length:Nat):Int):=by rw[a0C (by omega)];simp[a1z]
 have v:wrap .i64 ((body:Nat):Int)=(body:Int):=a0C (by omega);unfold a7O;simp only[Q,cF,S,U,oB,L,M,j,cT];rw[k,e _ g];simp only[oB,E,F,G,H,I,K,w1,w2,w3,w4,w5]
 erw[a]
 simp only[oB,i,a3A,z0,cF,a1E,a4b,b,N,m,O,P,a04,cT,tN,c,c3M (show short (hb f body)by unfold short;omega),s,Z];rw[b5r,decide_eq_true r];simp only[oB,bT,cF,w,v];rfl
@[reducible] def PZ:Type:=Sub×List Nat
def c6t(n:Int)(p:PZ):Prop:=SmallS p.1∧(a2f p.1 n).isSome=true∧(p.1.1≠0∧p.1.1≠1→PartsOk p.1.2.2.2.2.2.2.2.2.2.1 n ((p.1.2.2.2.2.2.2.2.2.1.length:Nat):Int) p.1.2.2.2.2.2.2.2.2.2.2.1 p.2)
def a0M(l:List PZ):List Int:=l.flatMap fun p=>a5M p.1 p.2
theorem c2a(l:List PZ):a1v (a0M l):=b4m fun _=>c8z _ _
theorem c2b(x:a1p)(all:List Sub)(l:all.length≤8):∀(rest done:List Sub)(L:List Int),done++rest=all→(∀s∈rest,SmallS s∧(a2f s x.2.1).isSome=true)→L.length+700000*rest.length<40000000→
  ∃zs:List PZ,zs.map (·.1)=rest∧(∀p∈zs,c6t x.2.1 p)∧(a0M zs).length≤700000*rest.length∧((∀s∈rest,∃c,a2G (s,x.2.1)=some (c:Int))∧some (((a0M zs).length:Nat):Int)=rest.foldr (fun s a=>a.bind fun a=>(a2G (s,x.2.1)).bind fun c=>some (c+a)) (some 0))∧
   y0o a8v (all,(all.length:Int),(done.length:Int),wL L,x,())=some (.inl (wL (L++a0M zs),x,()))
 | [],done,L,hd,_,_=>by
  have e:done=all:=by simp_all
  subst e;refine⟨[],rfl,by simp,by simp[a0M],⟨by simp,by rfl⟩,?_⟩;simp_all[a0E,a8v,a0M]
 |s::rest,done,L,hd,h,hL=>by
  obtain⟨b,k⟩:=h s (by simp);rw[lC]at hL;obtain⟨f,d,i,q,j⟩:=b8U b k (L:=L) (by omega);obtain⟨zs,k1,k2,k3,⟨r,o⟩,k6⟩:=c2b x all l rest (done++[s]) (L++a5M s f) (by simp_all) (fun t n=>h t (by grind)) (by grind);have g:done.length<all.length:=by grind
  have m:m0h all (done.length:Int)=some s:=by grind[a0D]
  refine⟨(s,f)::zs,by grind,fun p hp=>?_,?_,⟨fun t n=>?_,?_⟩,?_⟩;rcases mC.1 hp with rfl|hp;exact⟨b,k,j⟩;simp_all
  grind[a0M]
  grind
  simp only[List.foldr_cons,←o,oB,i];simp[a0M];have z0:((0:Int) != 0)=false:=rfl;rw[a0F (s':=(all,(all.length:Int),(((done++[s]).length:Nat):Int),wL (L++a5M s f),x,())) (by
   simp only[a8v,dlt g,cT,m,oB,d,z0,cF,a0B (show done.length<1000000 by omega)]
   simp)]
  simp_all[a0M]
def a4M(k:Nat):Nat:=(8-k%8)%8
def a2A(L:List Int):List Int:=L++a00 (a4M L.length) 0
theorem c0F:∀(k:Nat)(L:List Int),a4M L.length=k→L.length+k<900000000→y0o a3o (wL L,())=some (wL (L++a00 k 0),())
 |k,L,hk,hL=>by
  have f:=(a5K L).1;have h:a28 (wL L).2.1 8=((L.length%8:Nat):Int):=by grind
  unfold a4M at hk;cases k with
  |zero=>
   grind[a0E,a3o]
  |succ k=>
   have hb:(((L.length%8:Nat):Int) != 0)=true:=by grind
   rw[a0F (s':=(wL (L++[0]),())) (by
    simp only[a3o,h,hb,cT,b9D (show L.length<1000000000 by omega),oB])]
   rw[c0F k (L++[0]) (by grind[a4M]) (by grind)]
   grind
theorem c8B(h:L.length<800000000):a4P (wL L)=some (wL (a2A L)):=by
 unfold a4P;rw[c0F _ L rfl (by unfold a4M;omega)];rfl
def a6Q(L:List Int):List Int:=(wL (a2A L)).1
theorem b2k(L:List Int):(a6Q L).length=(L.length+7) / 8∧8*(a6Q L).length=(a2A L).length:=by
 grind[a5K,a2A,a6Q,a4M]
def a8i(f:a1p)(L:List Int):List Int:=a1z f (a6Q L).length++a6Q L
def a2L(f:a1p)(L:List Int):List Int:=a8i f L++[a4g (a8i f L) / 256,a4g (a8i f L)%256]
theorem b8V(g:frP f)(h:L.length≤5600000):(a8i f L).length≤700700∧(a6Q L).length≤700000:=by
 grind[b2k,c3N,a8i,a1z]
theorem c3O(j:a4k f=some true)(d:frP f)(e:f.2.2.2.2.1.length≤8)(m:∀s∈f.2.2.2.2.1,SmallS s∧(a2f s f.2.1).isSome=true):
  ∃zs:List PZ,zs.map (·.1)=f.2.2.2.2.1∧(∀p∈zs,c6t f.2.1 p)∧(a0M zs).length≤5600000∧
   some (((a0M zs).length:Nat):Int)=f.2.2.2.2.1.foldr (fun s a=>a.bind fun a=>(a2G (s,f.2.1)).bind fun c=>some (c+a)) (some 0)∧a3p f=some (a2L f (a0M zs),0):=by
 obtain⟨zs,k1,k2,k3,⟨-,n⟩,k6⟩:=c2b f f.2.2.2.2.1 e f.2.2.2.2.1 [] [] rfl m (by grind);have b:(a0M zs).length≤5600000:=by omega
 refine⟨zs,k1,k2,b,n,?_⟩;rw[a08,a19]at k6;have hp:=b8V d b;have k:wL []=(([]:List Int),(0:Int),()):=rfl;rw[k]at k6;have g:(a2A (a0M zs)).length<1000000000:=by
  grind[b2k]
 have l:=b8u (a8i f (a0M zs));have h:a1z f (a6Q (a0M zs)).length++a6Q (a0M zs)=a8i f (a0M zs):=rfl;have i:(a1z f (a6Q (a0M zs)).length).length+(a6Q (a0M zs)).length=(a8i f (a0M zs)).length:=by grind
 unfold a3p;simp only[j,oB,bT,cF]
 erw[k6]
 simp only[oB,c8B (show(a0M zs).length<800000000 by omega),c8A g]
 erw[c6q d (show(a6Q (a0M zs)).length≤1048576 by omega)]
 simp only[oB,a09];rw[show(wL (a2A (a0M zs))).1=a6Q (a0M zs)from rfl];rw[h,a0T (by omega),cT,c0D (show short (a8i f (a0M zs))by unfold short;omega)]
 simp
 rw[a0L (by omega),d7E l];simp only[oB];rw[a0T (by grind),cT];rfl
def a8M(f:a1p)(l:List Sub):a1p:=(f.1,f.2.1,f.2.2.1,f.2.2.2.1,l,())
theorem c6u(f:a1p):a8M f f.2.2.2.2.1=f:=rfl
theorem c0G(f g:a1p)(e:Int){N:Nat}(d:N≤8){Z:List Int}:∀(rest:List PZ)(done:List Sub)(P:List Int),done.length+rest.length=N→(∀p∈rest,c6t f.2.1 p)→OkR P (a0M rest++Z)→
  y0o a7P (e,(N:Int),(done.length:Int),g,a8M f done,rdr P (a0M rest++Z),())=some (.inl (e,g,a8M f (done++rest.map (·.1)),rdr (P++a0M rest) Z,()))
 | [],done,P,hl,_,_=>by
  have a:done.length=N:=by simpa using hl
  rw[a,a0E (b:=Sum.inl (e,g,a8M f done,rdr P Z,())) (by simp only[a7P,dge,cF];rfl)];simp[a0M]
 |p::rest,done,P,hl,h,hok=>by
  rw[lC]at hl;obtain⟨n,l,o⟩:=h p (by simp);have c:a0M (p::rest)++Z=a5M p.1 p.2++(a0M rest++Z):=by simp[a0M]
  rw[c]at hok⊢;have j:=d0S n l o hok;have i:decide ((done.length:Int)<(N:Int))=true:=by simp;omega
  have z0:((0:Int) != 0)=false:=rfl;rw[a0F (s':=(e,(N:Int),(((done++[p.1]).length:Nat):Int),g,a8M f (done++[p.1]),rdr (P++a5M p.1 p.2) (a0M rest++Z),())) (by
   have k:b2f (rdr P (a5M p.1 p.2++(a0M rest++Z)),(a8M f done).2.1)=some (p.1,(0:Int),rdr (P++a5M p.1 p.2) (a0M rest++Z)):=j;simp only[a7P,i,cT,k,oB,z0,cF];rw[show(a8M f done).2.2.2.2.1=done from rfl,a0T (show done.length+1<2147483648 by omega),cT,a0B (show done.length<1000000 by omega)];rw[show(((done++[p.1]).length:Nat):Int)=((done.length+1:Nat):Int)from by simp];rfl)]
  rw[c0G f g e d rest (done++[p.1]) _ (by simp;omega) (fun q m=>h q (by simp[m])) hok.shift];simp[a0M]
theorem b8v{L:List Int}(f:a1v L)(a:L.length<500000000)(t:Int×(Int×Unit)):∀(k i:Nat),i+k=L.length→(∀j,i≤j→L.getD j 0=0)→
  y0o a3t ((L.length:Int),(i:Int),((wL L).1,t),())=some (.inl ((L.length:Int),((wL L).1,t),()))
 |0,i,h,_=>by
  obtain rfl:i=L.length:=by omega
  exact a0E (by simp only[a3t,dge,cF])
 |k+1,i,h,h0=>by
  have g:i<L.length:=by omega
  have z:((0:Int)==1)=false:=rfl;have b:wrap .i64 ((i:Int)+1)=((i+1:Nat):Int):=by rw[a0C (by omega)];omega
  rw[a0F (s':=((L.length:Int),((i+1:Nat):Int),((wL L).1,t),())) (by
   simp only[a3t,dlt g,cT];rw[c1q f (by omega) g t,h0 i (a23 _)];simp only[oB,z,cF,b])]
  exact b8v f a t k (i+1) (by omega) (fun j c=>h0 j (by omega))
theorem c8C(L:List Int)(k j:Nat)(h:L.length≤j):(L++a00 k 0).getD j 0=0:=by
 rw[lD,a58 h,List.getElem?_replicate]
 split<;>rfl
theorem c2c(h:a1v L):a1v (a2A L):=h.app fun _ hb=>.inl (List.mem_replicate.1 hb).2
theorem c7y(f:a1v L)(c:L.length≤5600000):∃r,a4V (rdr L (a00 (a4M L.length) 0))=some r∧r.2.2.1=0:=by
 have hp:(a2A L).length=L.length+a4M L.length:=by simp[a2A]
 have a:a4M L.length<8:=by unfold a4M;omega
 have b:(a2A L).length%8=0:=by rw[hp];unfold a4M;omega
 have z0:((0:Int) != 0)=false:=rfl;have g:wrap .i64 (wrap .i64 (a46 (wrap .i64 ((L.length:Int)+7)) 8)*8)=((a2A L).length:Int):=by
  rw[a0C (n:=(L.length:Int)+7) (by omega),show a46 ((L.length:Int)+7) 8=(((L.length+7) / 8:Nat):Int)from by
   rw[show((L.length:Int)+7)=((L.length+7:Nat):Int)from by omega];rfl,a0C (n:=(((L.length+7) / 8:Nat):Int)) (by omega),a0C (by omega),hp]
  unfold a4M;omega
 have h:=b8v (c2c f) (by omega) ((L.length:Int),(0:Int),()) (a4M L.length) L.length (by omega) (fun j k=>c8C L _ j k);refine⟨((wL (a2A L)).1,((a2A L).length:Int),(0:Int),()),?_,rfl⟩;unfold a4V rdr;simp only[z0,cF,g];rw[show L++a00 (a4M L.length) 0=a2A L from rfl,h];rfl
theorem d7F{v:Int}(h:0≤v∧v<65536):bits .u16 .or (A0j .u16 (wrap .u16 (v / 256)) 8) (wrap .u16 (v%256))=v:=by
 rw[b3g,b3g];have e:A0j .u16 (v / 256%65536) 8=((v.toNat / 256*256:Nat):Int):=by
  show wrap .u16 (v / 256%65536*256)=_;rw[b3g];omega
 rw[e];have g:v%256%65536=((v.toNat%256:Nat):Int):=by omega
 rw[g];show wrap .u16 (((a02 16 ((v.toNat / 256*256:Nat):Int) ||| a02 16 ((v.toNat%256:Nat):Int)).toNat:Nat):Int)=_;have f:(a02 16 ((v.toNat / 256*256:Nat):Int)).toNat=v.toNat / 256*256:=by rw[a42];omega
 have k:(a02 16 ((v.toNat%256:Nat):Int)).toNat=v.toNat%256:=by rw[a42];omega
 rw[a55,f,k];have e:v.toNat / 256*256 ||| v.toNat%256=v.toNat / 256*256+v.toNat%256:=by
  have:=a44 (i:=8) (b:=v.toNat%256) (by omega) (v.toNat / 256)
  rw[show 2^8*(v.toNat / 256)=v.toNat / 256*256 from by omega]at this;exact this.symm
 rw[e,b3g];omega
theorem c2F(O:a4k f=some true)(u:frP f)(t:((f.2.2.2.2.1.length:Nat):Int)=f.2.2.1.2.1){zs:List PZ}(B:zs.map (·.1)=f.2.2.2.2.1)(hp:∀p∈zs,c6t f.2.1 p)(z:(a0M zs).length≤5600000)(V:R.length≤200000000):a6j (a2L f (a0M zs)++R)=some (f,((a2L f (a0M zs)).length:Int),(0:Int)):=by
 have P:=b8V u z;have Q:=b8u (a8i f (a0M zs));have L:f.2.2.2.2.1.length≤8:=by have:=u.1.2.2.2.1;omega
 have N:=b2k (a0M zs);generalize hbd:a6Q (a0M zs)=body at *;have c:a2L f (a0M zs)=a8i f (a0M zs)++[a4g (a8i f (a0M zs)) / 256,a4g (a8i f (a0M zs))%256]:=rfl;have g:a8i f (a0M zs)=a1z f body.length++body:=by unfold a8i;rw[hbd]
 generalize hpb:a8i f (a0M zs)=pre at *;have o:a2L f (a0M zs)++R=a1z f body.length++(body++([a4g pre / 256,a4g pre%256]++R)):=by rw[c,g];simp
 have m:(a2L f (a0M zs)).length=pre.length+2:=by rw[c];simp
 have A:pre.length=(a1z f body.length).length+body.length:=by rw[g];simp
 have y:(a2L f (a0M zs)++R).length=pre.length+2+R.length:=by rw[lN,m]
 have k:=c6s u (body:=body.length) (by omega) (R:=body++([a4g pre / 256,a4g pre%256]++R)) (by rw[←o,y];omega);rw[←o]at k;generalize hx:a2L f (a0M zs)++R=x at *;have z0:((0:Int) != 0)=false:=rfl;have T:wrap .i64 (((a1z f body.length).length:Int)+(body.length:Int))=(pre.length:Int):=by rw[a0C (by omega)];omega
 have w2:wrap .i64 ((pre.length:Int)+2)=((pre.length+2:Nat):Int):=by rw[a0C (by omega)];omega
 have U:wrap .i64 ((pre.length:Int)+1)=((pre.length+1:Nat):Int):=by rw[a0C (by omega)];omega
 have C:decide ((x.length:Int)<((pre.length+2:Nat):Int))=false:=by simp;omega
 have D:decide ((0:Int)≤(pre.length:Int))=true:=by simp
 have E:decide ((pre.length:Int)≤(x.length:Int))=true:=by simp;omega
 have F:decide ((0:Int)≤((a1z f body.length).length:Int))=true:=by simp
 have G:decide (((a1z f body.length).length:Int)≤(pre.length:Int))=true:=by simp;omega
 have j:x=pre++([a4g pre / 256,a4g pre%256]++R):=by rw[←hx,c];simp
 have i:a85 pre.length x=pre:=by rw[j];simp
 have b:b01 (a1z f body.length).length pre=body:=by rw[g];simp
 have I:m0h x (pre.length:Int)=some (a4g pre / 256):=by rw[a0D (by omega)];congr 1;subst j;simp
 have K:m0h x ((pre.length+1:Nat):Int)=some (a4g pre%256):=by rw[a0D (by omega)];congr 1;subst j;simp
 have S:(a4g pre != bits .u16 .or (A0j .u16 (wrap .u16 (a4g pre / 256)) 8) (wrap .u16 (a4g pre%256)))=false:=by rw[d7F Q];exact bne_self_eq_false _
 have e:(a2A (a0M zs)).length<1000000000:=by omega
 have a:=d2c e;rw[show(wL (a2A (a0M zs))).1=body from hbd]at a;have v:OkR [] (a0M zs++a00 (a4M (a0M zs).length) 0):=⟨by rw[a08];exact c2c (c2a zs),by
  rw[a08];show(a2A (a0M zs)).length<_;omega⟩
 have h:=c0G f ((0:Int),(0:Int),((0:Int),(0:Int),(0:Int),()),([]:List a0K),([]:List Sub),()) (pre.length:Int) L zs [] [] (by rw[←B];simp) hp v;simp only[a08,a19,B,c6u]at h;have w:rdr [] (a2A (a0M zs))=rdr [] (a0M zs++a00 (a4M (a0M zs).length) 0):=rfl;obtain⟨r,q,s⟩:=c7y (c2a zs) z;have d:a2y (rdr (a0M zs) (a00 (a4M (a0M zs).length) 0))=some ((a4M (a0M zs).length:Int),rdr (a0M zs) (a00 (a4M (a0M zs).length) 0)):=by
  unfold a2y rdr
  have:(wL (a0M zs++a00 (a4M (a0M zs).length) 0)).1=body:=hbd
  simp only[this];have hp:(a2A (a0M zs)).length=(a0M zs).length+a4M (a0M zs).length:=by simp[a2A]
  rw[a0C (n:=8*(body.length:Int)) (by omega),a0C (by omega)];congr 2;omega
 have H:decide (((a4M (a0M zs).length:Nat):Int)≥8)=false:=by unfold a4M;simp;omega
 have M:a8M f []=c6r f:=rfl;have l:f.2.2.1.2.1=((f.2.2.2.2.1.length:Nat):Int):=t.symm;unfold a6j;rw[k];simp only[oB,z0,cF,T,w2,C,D,E,F,a04,cT,tN,i,c0D (show short pre by unfold short;omega),I,U,K,S,G,b,a,w];rw[show(c6r f).2.2.1.2.1=((f.2.2.2.2.1.length:Nat):Int)from l]
 erw[h]
 simp only[oB,d,H,cF,q,a0N,s,z0,O,bT,w2,m]
theorem b3O(x:Int):a9c x=some (a0A x):=by
 grind[a9c,a0A]
def a2D(c:List (List Int)):Prop:=1≤c.length∧c.length≤8∧(c.headD []).length≤4096∧c.all (fun r=>decide (r.length=(c.headD []).length)&&r.all a0A)=true
instance (c:List (List Int)):Decidable (a2D c):=by unfold a2D;infer_instance
theorem c2d{l:List α}{d:α}(h:0<l.length):l[0]=l.headD d:=by
 cases l with
 |nil=>grind
 |cons a l=>rfl
theorem c1u(c:List (List Int)):a7s c=some (decide (a2D c)):=by
 unfold a7s
 by_cases h1:((c.length:Nat):Int)<1
 have:¬ a2D c:=fun h=>by have:=h.1;omega
 simp_all
 by_cases h2:((c.length:Nat):Int) > 8
 have:¬ a2D c:=fun h=>by have:=h.2.1;omega
 simp_all;have b:0<c.length:=by omega
 have a:m0h c 0=some (c.headD []):=by rw[show(0:Int)=((0:Nat):Int)from rfl,a0D b,c2d (d:=[]) b]
 have l:decide (((c.length:Nat):Int)<1)=false:=by simp_all
 have m:decide (((c.length:Nat):Int) > 8)=false:=by simp_all
 simp only[l,m,cF,a,oB]
 by_cases h3:(((c.headD []).length:Nat):Int) > 4096
 rw[decide_eq_true h3,decide_eq_false (show ¬ a2D c from fun h=>by have:=h.2.2.1;omega)];rfl;have n:decide ((((c.headD []).length:Nat):Int) > 4096)=false:=by simp_all
 simp only[n,cF];have g:∀(i:Nat)(r:List Int),short r→y0o a4s (c,c,(c.length:Int),(i:Int),r,(r.length:Int),(0:Int),())=some (bif r.all a0A then Sum.inl (c,c,(c.length:Int),(i:Int),())else Sum.inr (false,())):=fun i r s=>by
  have:=a1N (f:=a4s) r (fun j=>(c,c,(c.length:Int),(i:Int),r,(r.length:Int),(j:Int),())) a0A (bt:=Sum.inl (c,c,(c.length:Int),(i:Int),())) (bf:=Sum.inr (false,()))
   (fun j h hp=>by simp only[a4s,dlt h,cT,a0D h,oB,b3O,hp,bT,cF,a0B (a33 h s)])
   (fun j h hp=>by simp_all[a4s,a0D,b3O])
   (by simp_all[a4s])
  omega
 have k:=a1N (f:=a4t) c (fun i=>(c,c,(c.length:Int),(i:Int),())) (fun r=>decide (r.length=(c.headD []).length)&&r.all a0A) (bt:=Sum.inl ()) (bf:=Sum.inr (false,()))
  (fun i h hp=>by
   simp only[bA,dT]at hp;have e:((((c[i]).length:Nat):Int) != (((c.headD []).length:Nat):Int))=false:=by simp_all
   have hi:=g i c[i] (by unfold short;omega);rw[hp.2,cT]at hi;simp only[a4t,dlt h,cT,a0D h,oB,a,e,cF,hi,a0B (show i<1000000 by omega)])
  (fun i h hp=>by
   by_cases hl:(c[i]).length=(c.headD []).length
   have e:((((c[i]).length:Nat):Int) != (((c.headD []).length:Nat):Int))=false:=by simp_all
   have hi:=g i c[i] (by unfold short;omega);rw[decide_eq_true hl,a51]at hp;rw[hp,cF]at hi;simp_all[a4t,a0D];have e:((((c[i]).length:Nat):Int) != (((c.headD []).length:Nat):Int))=true:=by grind
   simp only[a4t,dlt h,cT,a0D h,oB,a,e])
  (by simp_all[a4t])
 simp only[nZ]at k;rw[k];have o:1≤c.length:=by omega
 have p:c.length≤8:=by omega
 have q:(c.headD []).length≤4096:=by omega
 by_cases hA:c.all (fun r=>decide (r.length=(c.headD []).length)&&r.all a0A)=true
 rw[hA,decide_eq_true (show a2D c from⟨o,p,q,hA⟩)];rfl;rw[a86.2 hA,decide_eq_false (show ¬ a2D c from fun h=>hA h.2.2.2)];rfl
def a3v(c:List (List Int))(n:Nat):Prop:=∀r∈c,r.length=n∧r.all a0A=true
theorem c5d(h:a2D c):a3v c (c.headD []).length:=fun r g=>by
 have:=lA.1 h.2.2.2 r g
 simp_all
theorem b8W{c:List (List Int)}{n:Nat}(h:a3v c n)(g:1≤c.length)(f:c.length≤8)(b:n≤4096):a2D c:=by
 have a:(c.headD []).length=n:=by
  rw[←c2d (d:=[]) (show 0<c.length by omega)];exact(h _ (a05 _)).1
 refine⟨g,f,by omega,lA.2 fun r k=>?_⟩
 have:=h r k
 simp_all
theorem c2e{n:Nat}(h:a3v c n)(l:n≤5000)(j:c.length≤100):a6Y c=some c:=by
 have:=a1M (f:=a6A) (β:=List (List Int)×Unit) c (fun i (a:List (List Int))=>(c,(c.length:Int),(i:Int),a,())) (fun a x=>.inl (a++[x])) (fun i a=>a.length=i) (fun a=>(a,()))
  (fun i hi a k=>⟨fun e g=>by
   simp at g;subst g;have m:=(h _ (a05 hi)).1;have d:∀y:List Int,List.set ([([]:List Int)]:List (List Int)) 0 y=[y]:=fun _=>rfl;refine⟨?_,by grind⟩;simp only[a6A,dlt hi,cT,a0D hi,oB,a8d (show short c[i]by unfold short;omega),d];rw[a0T (by grind),cT,a0B (show i<1000000 by omega)];rfl,fun b hb=>by grind⟩)
  (fun a k=>by simp_all[a6A]) (a:=[]) rfl
 simp_all[b3N,a6Y,a8V]
def a8N(sign g:Int)(x y:Int):Int:=y+sign*(g*x / 256)
def a9F(sign g:Int)(xs ys:List Int):List Int:=List.zipWith (a8N sign g) xs ys
theorem c8D(sign g:Int){xs ys:List Int}(h:xs.length=ys.length):(a9F sign g xs ys).length=ys.length:=by simp[a9F,h]
theorem c8E{y:Int}(b:sign=1∨sign=-1)(c:-1024≤g∧g≤1024)(k:a0A x=true)(a:a0A y=true):
  wrap .i64 (y+wrap .i64 (sign*A0k .i64 (wrap .i64 (g*x)) 8))=a8N sign g x y:=by
 have k:=a1D.1 k;have a:=a1D.1 a;have f:-1099511627776≤g*x∧g*x≤1099511627776:=by
  have f:g.natAbs≤1024:=by omega
  have h:x.natAbs≤1073741824:=by omega
  have:=a70 f h
  rw[←Int.natAbs_mul]at this;omega
 rw[a0C (n:=g*x) (by omega)];have h:A0k .i64 (g*x) 8=g*x / 256:=by
  unfold A0k;show(g*x).fdiv (2^8)=_
  grind
 rw[h];unfold a8N;rcases b with rfl|rfl
 all_goals grind[a0C]
theorem b1Z(c:List α)(h:a≠b)(y d:α):(c.set b y).getD a d=c.getD a d:=by
 grind
theorem a7y(c:List α)(h:b<c.length)(y d:α):(c.set b y).getD b d=y:=by
 simp_all
theorem c0H{c:List (List Int)}{s:a0K}{sign:Int}(g:sign=1∨sign=-1)(b:-1024≤s.2.2.1∧s.2.2.1≤1024)(a0:0≤s.1)(i:0≤s.2.1)(f:s.1.toNat≠s.2.1.toNat)(hb:s.2.1.toNat<c.length)(k:s.2.1<(c.length:Int))
  {xs:List Int}(a:c.getD s.1.toNat []=xs)(w:xs.length≤5000):∀(sx suf px pre:List Int),px++sx=xs→px.length=pre.length→sx.length=suf.length→sx.all a0A=true→suf.all a0A=true→
  if(a9F sign s.2.2.1 sx suf).all a0A=true then
   y0o a3G (sign,(xs.length:Int),(pre.length:Int),c.set s.2.1.toNat (pre++suf),s,((s.1.toNat:Nat):Int),())=some (.inl (c.set s.2.1.toNat (pre++a9F sign s.2.2.1 sx suf),()))
  else ∃c',y0o a3G (sign,(xs.length:Int),(pre.length:Int),c.set s.2.1.toNat (pre++suf),s,((s.1.toNat:Nat):Int),())=some (.inr (false,c',()))
 | [],suf,px,pre,hx,hp,hl,_,_=>by
  have e:suf=[]:=a40.1 hl.symm;subst e;have p:pre.length=xs.length:=by simp_all
  rw[if_pos (by rfl),p];exact a0E (by simp only[a3G,dge,cF];rfl)
 |x::sx,[],px,pre,_,_,hl,_,_=>by simp_all
 |x::sx,y::suf,px,pre,hx,hp,hl,hwx,hwy=>by
  simp only[a07,bA]at hwx hwy;have v:pre.length<xs.length:=by grind
  have q:(c.set s.2.1.toNat (pre++y::suf)).getD (a29 ((s.1.toNat:Nat):Int)) []=xs:=by grind
  have r:(c.set s.2.1.toNat (pre++y::suf)).getD s.2.1.toNat []=pre++y::suf:=a7y _ hb _ _;have t:b00 xs (a29 (pre.length:Int)) 0=x:=by grind
  have u:b00 (pre++y::suf) (a29 (pre.length:Int)) 0=y:=by simp
  have j:decide ((0:Int)≤(pre.length:Int))=true:=by simp
  have l:decide ((pre.length:Int)<(xs.length:Int))=true:=by simp_all
  have m:decide ((0:Int)≤s.2.1)=true:=by simp_all
  have n:decide (s.2.1<(((c.set s.2.1.toNat (pre++y::suf)).length:Nat):Int))=true:=by simp_all
  have o:decide ((pre.length:Int)<(((pre++y::suf).length:Nat):Int))=true:=by grind
  have hv:=c8E g b hwx.1 hwy.1;have z:wrap .i64 ((pre.length:Int)+1)=((pre.length+1:Nat):Int):=a0B (by omega);have A:a9F sign s.2.2.1 (x::sx) (y::suf)=a8N sign s.2.2.1 x y::a9F sign s.2.2.1 sx suf:=rfl;have d:List.set (c.set s.2.1.toNat (pre++y::suf)) s.2.1.toNat (List.set (pre++y::suf) (a29 (pre.length:Int)) (a8N sign s.2.2.1 x y))=c.set s.2.1.toNat ((pre++[a8N sign s.2.2.1 x y])++suf):=by
   simp
  have h:a3G (sign,(xs.length:Int),(pre.length:Int),c.set s.2.1.toNat (pre++y::suf),s,((s.1.toNat:Nat):Int),()) =
    bif !(a0A (a8N sign s.2.2.1 x y))then some (.inr (Sum.inr (false,c.set s.2.1.toNat (pre++y::suf),())))
    else some (.inl (sign,(xs.length:Int),((pre.length+1:Nat):Int),c.set s.2.1.toNat ((pre++[a8N sign s.2.2.1 x y])++suf),s,((s.1.toNat:Nat):Int),())):=by
   simp only[a3G,l,cT,q,r,j,a04,m,n,o,t,u,b3O,hv,oB,z]
   simp
  cases hwv:a0A (a8N sign s.2.2.1 x y)with
  |false=>
   simp_all[a0E]
  |true=>
   rw[hwv]at h;have B:=c0H g b a0 i f hb k a w sx suf (px++[x]) (pre++[a8N sign s.2.2.1 x y]) (by simp_all) (by grind) (by simp_all) hwx.2 hwy.2;rw[a0F h,A];simp_all
def a3N(sign:Int)(s:a0K)(c:List (List Int)):Option (List (List Int)):=
 let r:=a9F sign s.2.2.1 (c.getD s.1.toNat []) (c.getD s.2.1.toNat [])
 if r.all a0A=true then some (c.set s.2.1.toNat r)else none
theorem a8j{c:List (List Int)}{n:Nat}(h:a3v c n){i:Nat}(hi:i<c.length):(c.getD i []).length=n∧(c.getD i []).all a0A=true:=by
 rw[lD,lG hi];exact h _ (a05 hi)
theorem c3P{n:Nat}(a:a3v c n)(w:n≤5000){s:a0K}(p:a2s (c.length:Int) s=true)(k:sign=1∨sign=-1):
  ∃b f,a7S (c,s,sign)=some (b,f)∧match a3N sign s c with|some r=>b=true∧f=r|none=>b=false:=by
 obtain⟨a1,u,d,e,v,j,l⟩:=a2V.1 p;have q:=a8j a (i:=s.1.toNat) (by omega);have t:=a8j a (i:=s.2.1.toNat) (by omega);have hb:s.2.1.toNat<c.length:=by omega
 have g:c.set s.2.1.toNat (c.getD s.2.1.toNat [])=c:=by
  simp_all
 have:=c0H k ⟨j,l⟩ a1 d (by omega) hb e (rfl:c.getD s.1.toNat []=_) (by omega) (c.getD s.1.toNat []) (c.getD s.2.1.toNat []) [] [] rfl rfl (by omega) q.2 t.2
 rw[a08,g]at this;simp only[a19,nZ,a08,a25]at this;have m:decide ((0:Int)≤s.1)=true:=by simp_all
 have o:decide (s.1<(c.length:Int))=true:=by simp_all
 unfold a7S a3N;simp only[m,o,a04,cT]
 by_cases hA:(a9F sign s.2.2.1 (c.getD s.1.toNat []) (c.getD s.2.1.toNat [])).all a0A=true
 simp_all;rw[if_neg hA]at this⊢;obtain⟨f,h⟩:=this;simp_all
theorem b3b{c':List (List Int)}{n:Nat}(g:a3v c n){s:a0K}(k:a2s (c.length:Int) s=true)(h:a3N sign s c=some c'):a3v c' n∧c'.length=c.length:=by
 obtain⟨a1,a,b,d,e,j,l⟩:=a2V.1 k;have o:=a8j g (i:=s.1.toNat) (by omega);have p:=a8j g (i:=s.2.1.toNat) (by omega);unfold a3N at h;simp only at h
 split at h
 rename_i m;cases h;refine⟨fun r f=>?_,by simp⟩;rcases List.mem_or_eq_of_mem_set f with f|rfl;exact g r f;simp_all[c8D];simp_all
theorem c3Q(g:Int):∀xs ys:List Int,xs.length=ys.length→a9F (-1) g xs (a9F 1 g xs ys)=ys
 | [],[],_=>rfl
 |x::xs,y::ys,h=>by
  have f:=c3Q g xs ys (by simpa using h);show a8N (-1) g x (a8N 1 g x y)::a9F (-1) g xs (a9F 1 g xs ys)=_;rw[f];unfold a8N;congr 1;omega
 | [],_::_,h=>by grind
 |_::_,[],h=>by rfl
theorem c7z{c':List (List Int)}{n:Nat}(g:a3v c n){s:a0K}(f:a2s (c.length:Int) s=true)(h:a3N 1 s c=some c'):a3N (-1) s c'=some c:=by
 obtain⟨a1,a,b,d,e,j,l⟩:=a2V.1 f;have m:=a8j g (i:=s.1.toNat) (by omega);have k:=a8j g (i:=s.2.1.toNat) (by omega);have hb:s.2.1.toNat<c.length:=by omega
 unfold a3N at h;simp only at h
 split at h
 cases h;unfold a3N;simp only;rw[b1Z _ (show s.1.toNat≠s.2.1.toNat by omega),a7y _ hb,c3Q _ _ _ (by omega),if_pos k.2,List.set_set];simp_all;simp_all
def doO:List a0K→List (List Int)→Option (List (List Int))
 | [],c=>some c
 |s::l,c=>(a3N 1 s c).bind (doO l)
def b0W:List a0K→List (List Int)→Option (List (List Int))
 | [],c=>some c
 |s::l,c=>(b0W l c).bind (a3N (-1) s)
theorem b1w{n:Nat}{N:Nat}:∀(l:List a0K){c c':List (List Int)},a3v c n→c.length=N→l.all (a2s (N:Int))=true→doO l c=some c'→a3v c' n∧c'.length=N
 | [],c,c',hc,hl,_,h=>by cases h;simp_all
 |s::l,c,c',hc,hl,hs,h=>by
  simp only[a07,bA]at hs;simp[doO,a16]at h;obtain⟨d,g,f⟩:=h;obtain⟨k,a⟩:=b3b hc (by simp_all) g;exact b1w l k (by omega) hs.2 f
theorem c5e{n:Nat}{N:Nat}:∀(l:List a0K){c c':List (List Int)},a3v c n→c.length=N→l.all (a2s (N:Int))=true→doO l c=some c'→b0W l c'=some c
 | [],c,c',_,_,_,h=>by cases h;rfl
 |s::l,c,c',hc,hl,hs,h=>by
  simp only[a07,bA]at hs;simp only[doO,a16]at h;obtain⟨d,g,f⟩:=h;obtain⟨k,a⟩:=b3b hc (by rw[hl];exact hs.1) g;simp only[b0W];rw[c5e l k (by omega) hs.2 f];exact c7z hc (by rw[hl];exact hs.1) g
def b8X:Option (List (List Int))→List (List Int)×Int
 |some r=>(r,0)
 |none=>([],6)
theorem c5f{n N:Nat}(a:n≤5000){l:List a0K}(m:l.length≤16)(j:l.all (a2s (N:Int))=true):∀(k i:Nat)(c:List (List Int)),i+k=l.length→a3v c n→c.length=N→
  y0o a7V (l,(l.length:Int),(i:Int),c,())=some (match doO (l.drop i) c with|some r=>Sum.inl (r,())|none=>Sum.inr ([],6,()))
 |0,i,c,h,_,_=>by
  obtain rfl:i=l.length:=by omega
  rw[a91];exact a0E (by simp only[a7V,dge,cF];rfl)
 |k+1,i,c,h,hc,hcl=>by
  have hi:i<l.length:=by omega
  rw[a03 hi];have d:a2s (c.length:Int) l[i]=true:=by grind
  obtain⟨b,g,e,f⟩:=c3P hc a d (sign:=1) (.inl rfl);simp[doO];cases hst:a3N 1 l[i] c with
  |none=>
   simp_all[a0E,a7V,a0D]
  |some r=>
   rw[hst]at f;obtain⟨rfl,rfl⟩:=f;obtain⟨o,p⟩:=b3b hc d hst;rw[a0F (s':=(l,(l.length:Int),((i+1:Nat):Int),g,())) (by
    simp only[a7V,dlt hi,cT,a0D hi,oB,e,bT,cF,a0B (show i<1000000 by omega)])]
   rw[c5f a m j k (i+1) g (by omega) o (by omega)];rfl
theorem c2J(c:List (List Int))(l:List a0K):b2c (c,l)=some (if a2D c∧a4Y l (c.length:Int)then b8X (doO l c)else([],1)):=by
 unfold b2c;simp only[c1u,oB]
 by_cases hq:a2D c
 have h:=c5d hq;simp only[hq,decide_true,bT,cF,b4O,oB,true_and]
 by_cases hm:a4Y l (c.length:Int)
 simp[hm];rw[c2e h (by have:=hq.2.2.1;omega) (by have:=hq.2.1;omega)]
 have:=c5f (N:=c.length) (by have:=hq.2.2.1;omega:(c.headD []).length≤5000) hm.2.2.1 hm.2.2.2 l.length 0 c (by omega) h rfl
 simp at this
 simp
 erw[this]
 cases doO l c<;>rfl;simp_all;simp_all
theorem c0I(s:a0K):∀(l:List a0K)(c:List (List Int)),b0W (l++[s]) c=(a3N (-1) s c).bind (b0W l)
 | [],c=>by
  show a3N (-1) s c=_;cases a3N (-1) s c<;>rfl
 |t::l,c=>by
  simp only[a63,b0W,c0I s l];cases a3N (-1) s c<;>rfl
theorem c2f{n N:Nat}(g:n≤5000){l:List a0K}(i:l.all (a2s (N:Int))=true)(z:List (List Int))(e:Int):∀(k:Nat)(c:List (List Int)),k≤l.length→a3v c n→c.length=N→
  match b0W (l.take k) c with
  |some r=>l0b a6c l k (l,z,e,c,())=some (.inl (l,z,e,r,()))
  |none=>∃d,l0b a6c l k (l,z,e,c,())=some (.inr (.ret,l,[],6,d,()))
 |0,c,_,_,_=>rfl
 |k+1,c,hk,hc,hcl=>by
  have hi:k<l.length:=by omega
  have f:a2s (c.length:Int) l[k]=true:=by grind
  obtain⟨b,a,m,h⟩:=c3P hc g f (sign:=-1) (.inr rfl);rw[a37 hi,c0I];cases hst:a3N (-1) l[k] c with
  |none=>
   simp_all[l0b,a6c]
  |some r=>
   rw[hst]at h;obtain⟨rfl,rfl⟩:=h;obtain⟨j,p⟩:=b3b hc f hst;have o:=c2f g i z e k a (by omega) j (by omega);simp_all[l0b,a6c]
theorem d0T(c:List (List Int))(l:List a0K):b1E (c,l)=some (if a2D c∧a4Y l (c.length:Int)then b8X (b0W l c)else([],1)):=by
 unfold b1E;simp only[c1u,oB]
 by_cases hq:a2D c
 ·have h:=c5d hq;simp only[hq,decide_true,bT,cF,b4O,oB,true_and]
  by_cases hm:a4Y l (c.length:Int)
  ·simp[hm];rw[c2e h (by have:=hq.2.2.1;omega) (by have:=hq.2.1;omega)]
   have:=c2f (N:=c.length) (by have:=hq.2.2.1;omega:(c.headD []).length≤5000) hm.2.2.2 [] 0 l.length c (a23 _) h rfl
   rw[a20]at this;simp[a0T (show l.length<2147483648 by have:=hm.2.2.1;omega)];cases hu:b0W l c with
   |some r=>
    rw[hu]at this;simp only at this
    erw[this]
    rfl
   |none=>
    rw[hu]at this;obtain⟨d,g⟩:=this
    erw[g]
    rfl
  simp_all
 simp_all
def a0X(b:a1k):Nat:=(b.2.1.headD []).length
theorem a6s(b:a1k):a4h b=some ((a0X b:Nat):Int):=by
 unfold a4h a0X;obtain⟨d,c,u⟩:=b;cases c with
 |nil=>rfl
 |cons r c=>
  rfl
def a2X(b:a1k):Prop:=4≤b.1∧b.1≤24∧1≤b.2.1.length∧b.2.1.length≤8∧1≤a0X b∧a0X b≤4096∧b.2.1.all (fun r=>decide (r.length=a0X b)&&r.all fun x=>a1i x b.1)=true
instance (b:a1k):Decidable (a2X b):=by unfold a2X;infer_instance
theorem b3P{x w:Int}(h:4≤w∧w≤24):a1O (x,w)=some (a1i x w):=by
 have:=a6p (x:=x) (w:=w.toNat) (by omega)
 grind
theorem a8k(b:a1k):a4i b=some (decide (a2X b)):=by
 unfold a4i a6R
 by_cases h1:4≤b.1
 rotate_left;rw[decide_eq_false (show ¬ a2X b from fun h=>h1 h.1),decide_eq_false h1];rfl
 by_cases h2:b.1≤24
 rotate_left;rw[decide_eq_false (show ¬ a2X b from fun h=>h2 h.2.1),decide_eq_true h1,decide_eq_false h2];rfl
 by_cases h3:((b.2.1.length:Nat):Int)<1
 rw[decide_eq_false (show ¬ a2X b from fun h=>by have:=h.2.2.1;omega),decide_eq_true h1,decide_eq_true h2,decide_eq_true h3];rfl
 by_cases h4:((b.2.1.length:Nat):Int) > 8
 rw[decide_eq_false (show ¬ a2X b from fun h=>by have:=h.2.2.2.1;omega),decide_eq_true h1,decide_eq_true h2,decide_eq_false h3,decide_eq_true h4];rfl;have a:decide (((b.2.1.length:Nat):Int)<1)=false:=by simp_all
 have c:decide (((b.2.1.length:Nat):Int) > 8)=false:=by simp_all
 simp only[decide_eq_true h1,decide_eq_true h2,a,c,cT,cF,oB,bT,a6s]
 by_cases h5:((a0X b:Nat):Int)<1
 rw[decide_eq_false (show ¬ a2X b from fun h=>by have:=h.2.2.2.2.1;omega),decide_eq_true h5];rfl
 by_cases h6:((a0X b:Nat):Int) > 4096
 rw[decide_eq_false (show ¬ a2X b from fun h=>by have:=h.2.2.2.2.2.1;omega),decide_eq_false h5,decide_eq_true h6];rfl;have d:decide (((a0X b:Nat):Int)<1)=false:=by simp_all
 have l:decide (((a0X b:Nat):Int) > 4096)=false:=by simp_all
 simp[d,l];have g:∀(i:Nat)(r:List Int),short r→y0o a4n (b.2.1,(b.2.1.length:Int),(i:Int),r,(r.length:Int),(0:Int),b,())=some (bif r.all (fun x=>a1i x b.1)then Sum.inl (b.2.1,(b.2.1.length:Int),(i:Int),b,())else Sum.inr (false,())):=fun i r m=>by
  have:=a1N (f:=a4n) r (fun j=>(b.2.1,(b.2.1.length:Int),(i:Int),r,(r.length:Int),(j:Int),b,())) (fun x=>a1i x b.1) (bt:=Sum.inl (b.2.1,(b.2.1.length:Int),(i:Int),b,())) (bf:=Sum.inr (false,()))
   (fun j h hp=>by simp only[a4n,dlt h,cT,a0D h,oB,b3P ⟨h1,h2⟩,hp,bT,cF,a0B (a33 h m)])
   (fun j h hp=>by simp_all[a4n,a0D,b3P])
   (by simp_all[a4n])
  omega
 have k:=a1N (f:=a4o) b.2.1 (fun i=>(b.2.1,(b.2.1.length:Int),(i:Int),b,())) (fun r=>decide (r.length=a0X b)&&r.all fun x=>a1i x b.1) (bt:=Sum.inl ()) (bf:=Sum.inr (false,()))
  (fun i h hp=>by
   simp only[bA,dT]at hp;have e:((((b.2.1[i]).length:Nat):Int) != ((a0X b:Nat):Int))=false:=by simp_all
   have hi:=g i b.2.1[i] (by unfold short;omega);rw[hp.2,cT]at hi;simp only[a4o,dlt h,cT,a0D h,oB,a6s,e,cF,hi,a0B (show i<1000000 by omega)])
  (fun i h hp=>by
   by_cases hl:(b.2.1[i]).length=a0X b
   have e:((((b.2.1[i]).length:Nat):Int) != ((a0X b:Nat):Int))=false:=by simp_all
   have hi:=g i b.2.1[i] (by unfold short;omega);rw[decide_eq_true hl,a51]at hp;rw[hp,cF]at hi;simp_all[a4o,a0D,a6s];have e:((((b.2.1[i]).length:Nat):Int) != ((a0X b:Nat):Int))=true:=by grind
   simp only[a4o,dlt h,cT,a0D h,oB,a6s,e])
  (by simp_all[a4o])
 simp at k;rw[k]
 by_cases hA:b.2.1.all (fun r=>decide (r.length=a0X b)&&r.all fun x=>a1i x b.1)=true
 rw[hA,decide_eq_true (show a2X b from⟨h1,h2,by omega,by omega,by omega,by omega,hA⟩)];rfl;rw[a86.2 hA,decide_eq_false (show ¬ a2X b from fun h=>hA h.2.2.2.2.2.2)];rfl
def a4N{α β:Type}(g:α→Option β):List α→Option (List β)
 | []=>some []
 |a::l=>(g a).bind fun b=>(a4N g l).bind fun r=>some (b::r)
theorem b8Y{α β:Type}{g:α→Option β}:∀{l:List α}{r:List β},a4N g l=some r→r.length=l.length
 | [],r,h=>by cases h;rfl
 |a::l,r,h=>by
  simp only[a4N,a16]at h;obtain⟨b,-,c,f,k⟩:=h;cases k;simp[b8Y f]
theorem c2g{α β:Type}{g:α→Option β}:∀{l:List α}{r:List β},a4N g l=some r→∀a∈l,(g a).isSome=true
 | [],r,h,a,ha=>by cases ha
 |a::l,r,h,x,hx=>by
  simp only[a4N,a16]at h;obtain⟨b,f,d,k,c⟩:=h;rcases mC.1 hx with rfl|hx;rw[f];rfl;exact c2g k x hx
def a9l(f:a1p):Option a1k:=
 if frP f∧((f.2.2.2.2.1.length:Nat):Int)=f.2.2.1.2.1 then
  (a4N (fun s=>a2f s f.2.1) f.2.2.2.2.1).bind fun rs=>
   if a2D rs∧a4Y f.2.2.2.1 (rs.length:Int)then
    (b0W f.2.2.2.1 rs).bind fun ch=>if a2X (f.2.2.1.2.2.1,ch,())then some (f.2.2.1.2.2.1,ch,())else none
   else none
 else none
def b2l:a1k:=(0,[],())
def d7G:Option a1k→a1k×Int
 |some b=>(b,0)
 |none=>(b2l,1)
theorem b8w(f:a1p)(all:List Sub)(i:all.length≤8):∀(rest done:List Sub)(rows:List (List Int)),done++rest=all→rows.length=done.length→(∀s∈rest,SmallS s)→
  y0o a4B (all,(all.length:Int),(done.length:Int),rows,b2l,f,())=some (match a4N (fun s=>a2f s f.2.1) rest with|some rs=>Sum.inl (rows++rs,b2l,f,())|none=>Sum.inr (1,b2l,()))
 | [],done,rows,hd,hr,_=>by
  have e:done=all:=by simpa using hd
  subst e;rw[a0E (b:=Sum.inl (rows,b2l,f,())) (by simp only[a4B,dge,cF])];simp[a4N]
 |s::rest,done,rows,hd,hr,h=>by
  have j:=h s (by simp);have k:done.length<all.length:=by rw[←hd];simp
  have a:m0h all (done.length:Int)=some s:=by rw[a0D k];subst hd;simp
  have g:=b9A j f.2.1;simp only[a4N];cases ho:a2f s f.2.1 with
  |none=>
   rw[ho]at g;have d:((1:Int) != 0)=true:=rfl;exact a0E (by simp only[a4B,dlt k,cT,a,oB,g,d];rfl)
  |some r=>
   rw[ho]at g;have c:((0:Int) != 0)=false:=rfl;rw[a0F (s':=(all,(all.length:Int),(((done++[s]).length:Nat):Int),rows++[r],b2l,f,())) (by
    simp only[a4B,dlt k,cT,a,oB,g,c,cF,a0T (show rows.length+1<2147483648 by omega),a0B (show done.length<1000000 by omega)]
    simp)]
   rw[b8w f all i rest (done++[s]) (rows++[r]) (by simpa using hd) (by simp[hr]) (fun t l=>h t (by simp[l]))];simp only[oB];cases a4N (fun s=>a2f s f.2.1) rest<;>simp
theorem b6a(b:∀s∈f.2.2.2.2.1,SmallS s):a2p f=some (d7G (a9l f)):=by
 unfold a2p a9l;simp only[b5r,oB]
 by_cases hf:frP f
 rotate_left;simp only[hf,decide_false,a30,cT,oB,false_and,if_false];rfl
 by_cases hl:((f.2.2.2.2.1.length:Nat):Int)=f.2.2.1.2.1
 rotate_left;have e:(((f.2.2.2.2.1.length:Nat):Int) != f.2.2.1.2.1)=true:=by simpa using hl
 simp only[hf,decide_true,bT,cF,oB,e,cT,hl,and_false,if_false];rfl;have e:(((f.2.2.2.2.1.length:Nat):Int) != f.2.2.1.2.1)=false:=by simpa using hl
 have a:f.2.2.2.2.1.length≤8:=by have:=hf.1.2.2.2.1;omega
 have k:decide ((0:Int)≤((f.2.2.2.2.1.length:Nat):Int))=true:=by simp
 have h:=b8w f f.2.2.2.2.1 a f.2.2.2.2.1 [] [] rfl rfl b;rw[a19]at h;rw[if_pos ⟨hf,hl⟩];simp only[hf,decide_true,bT,cF,oB,e,k,tN,a0T (show f.2.2.2.2.1.length<2147483648 by omega),a04,cT]
 erw[h]
 cases hm:a4N (fun s=>a2f s f.2.1) f.2.2.2.2.1 with
 |none=>rfl
 |some rs=>
  simp only[oB,a08,d0T]
  by_cases hq:a2D rs∧a4Y f.2.2.2.1 (rs.length:Int)
  ·simp only[if_pos hq];cases hu:b0W f.2.2.2.1 rs with
   |none=>rfl
   |some ch=>
    have g:((0:Int) != 0)=false:=rfl;simp only[b8X,g,cF,a8k,oB]
    by_cases hb:a2X (f.2.2.1.2.2.1,ch,())
    simp only[hb,decide_true,bT,cF,if_true];rfl;simp only[hb,decide_false,a30,cT,if_false];rfl
  simp only[if_neg hq];rfl
theorem d2f(h:∀s∈f.2.2.2.2.1,SmallS s):a4k f=some (a9l f).isSome:=by
 unfold a4k;rw[b6a h];cases a9l f<;>rfl
theorem b7n{b:a1k}(h:a9l f=some b):frP f∧((f.2.2.2.2.1.length:Nat):Int)=f.2.2.1.2.1∧∀s∈f.2.2.2.2.1,(a2f s f.2.1).isSome=true:=by
 unfold a9l at h
 split at h
 rename_i g;simp only[a16]at h;obtain⟨a,k,-⟩:=h;exact⟨g.1,g.2,c2g k⟩;cases h
theorem b6b{b:a1k}(k:∀s∈f.2.2.2.2.1,SmallS s)(h:a9l f=some b):∃L,L.length≤5600000∧some ((L.length:Nat):Int)=f.2.2.2.2.1.foldr (fun s a=>a.bind fun a=>(a2G (s,f.2.1)).bind fun c=>some (c+a)) (some 0)∧
  a3p f=some (a2L f L,0)∧(∀R:List Int,R.length≤200000000→a6j (a2L f L++R)=some (f,((a2L f L).length:Int),(0:Int))):=by
 obtain⟨g,j,l⟩:=b7n h;have d:a4k f=some true:=by rw[d2f k,h];rfl
 have m:f.2.2.2.2.1.length≤8:=by have:=g.1.2.2.2.1;omega
 obtain⟨t,o,p,i,q,r⟩:=c3O d g m (fun s e=>⟨k s e,l s e⟩);exact⟨a0M t,i,q,r,fun R n=>c2F d g j o p i n⟩
theorem c3R(x:a0K):eqT (.pair (.int .i64) (.pair (.int .i64) (.pair (.int .i64) .unit))) x x=true:=by
 show((x.1==x.1)&&((x.2.1==x.2.1)&&((x.2.2.1==x.2.2.1)&&true)))=true
 simp
theorem b7o{w:Int}(h:4≤w∧w≤24):b2g (x,w)=some (a1i x w):=by
 have:=c4z (x:=x) (w:=w.toNat) (by omega)
 grind
theorem d0U{w:Int}(b:4≤w∧w≤24)(h:a1i x w=true):-16777216≤x∧x≤16777216:=by
 unfold a1i at h;simp at h;obtain⟨-,-,f,g⟩:=h;obtain⟨o,k⟩:∃o:Nat,w-1=(o:Int):=⟨(w-1).toNat,by omega⟩;rw[k]at f g;rw[c3p (by omega)]at g;have hp:2^o≤2^24:=a06 (by omega) (by omega);have a:A0j .i64 (-1) (o:Int)=wrap .i64 (-((2^o:Nat):Int)):=by
  unfold A0j;show wrap .i64 (-1*2^(min (o:Int).toNat 64))=_
  grind
 grind[a0C]
theorem c7A{x w:Int}(g:4≤w∧w≤24)(h:a1i x w=true):a0A x=true:=a1D.2 (by have:=d0U g h;omega)
theorem b3Q{b:a1k}(h:a2X b):a3v b.2.1 (a0X b)∧a2D b.2.1:=by
 obtain⟨k,a,c,d,e,i,g⟩:=h;have j:a3v b.2.1 (a0X b):=fun r f=>by
  have:=lA.1 g r f
  simp only[bA,dT]at this
  grind[c7A]
 grind[b8W]
theorem b6c{b:a1k}(hb:a2X b){l:List a0K}(c:a4Y l (b.2.1.length:Int)){rows:List (List Int)}(n:doO l b.2.1=some rows){ss:List Sub}(q:a4N (fun s=>a2f s ((a0X b:Nat):Int)) ss=some rows)
  {start rate:Int}(h:0≤start∧start≤4194304-((a0X b:Nat):Int))(p:1≤rate∧rate≤1048576):
  a9l (start,((a0X b:Nat):Int),(rate,((b.2.1.length:Nat):Int),b.1,()),l,ss,())=some b:=by
 obtain⟨m,y⟩:=b3Q hb;obtain⟨x,z⟩:=b1w l m rfl c.2.2.2 n;have o:=b8Y q;obtain⟨e,i,r,t,u,j,v⟩:=hb;have a:frP (start,((a0X b:Nat):Int),(rate,((b.2.1.length:Nat):Int),b.1,()),l,ss,()):=⟨⟨p.1,p.2,by grind,by grind,e,i⟩,by grind,by grind,h.1,h.2,c⟩;have k:((ss.length:Nat):Int)=((b.2.1.length:Nat):Int):=by omega
 have g:a2D rows:=b8W x (by omega) (by omega) j;have d:a4Y l ((rows.length:Nat):Int):=by simp_all
 have w:=c5e l m rfl c.2.2.2 n;have f:((b.1,b.2.1,()):a1k)=b:=rfl;unfold a9l;rw[if_pos ⟨a,k⟩];simp only[q,oB];rw[if_pos ⟨g,d⟩,w];simp only[oB,f];rw[if_pos ⟨e,i,r,t,u,j,v⟩]
def c0J:a1p:=(0,0,(0,0,0,()),[],[],())
theorem d2g(k:Nat)(a:k≤62)(y:Int):∃v:Nat,bits .i64 .and y ((2^k-1:Nat):Int)=(v:Int)∧v<2^k:=by
 have hp:2^k≤2^62:=a06 (by omega) a;have f:0<2^k:=Nat.pow_pos (by omega);have h:((a02 64 y) &&& (a02 64 ((2^k-1:Nat):Int))).toNat=(a02 64 y).toNat%2^k:=by
  rw[a62];have e:(a02 64 ((2^k-1:Nat):Int)).toNat=2^k-1:=by
   rw[a42];generalize 2^k=p at *;omega
  rw[e,a53]
 have g:=a38 (a02 64 y).toNat f;refine⟨(a02 64 y).toNat%2^k,?_,g⟩;show wrap .i64 ((((a02 64 y) &&& (a02 64 ((2^k-1:Nat):Int))).toNat:Nat):Int)=_;rw[h];generalize (a02 64 y).toNat%2^k=z at *;exact a0C (by omega)
theorem c0K(c:List (List Int))(n i:Int){r:List Int}(a:short r):∀(k j:Nat)(s:Int),2≤j→j+k=r.length∨(k=0∧r.length≤j)→∃s',y0o a6F (s,r,(j:Int),c,n,i,())=some (s',c,n,i,())
 |0,j,s,h2,h=>⟨s,a0E (by
   have d:decide ((j:Int)<(r.length:Int))=false:=by grind
   simp only[a6F,d,cF])⟩
 |k+1,j,s,h2,h=>by
  have f:j<r.length:=by omega
  unfold short at a;have b:wrap .i64 ((j:Int)-1)=((j-1:Nat):Int):=by grind[a0C]
  have e:wrap .i64 ((j:Int)-2)=((j-2:Nat):Int):=by grind[a0C]
  have m:=a0D (l:=r) (i:=j-1) (by omega);have o:=a0D (l:=r) (i:=j-2) (by omega);obtain⟨s',g⟩:=c0K c n i a k (j+1) (wrap .i64 (s+v0n (wrap .i64 (wrap .i64 (r[j]-wrap .i64 (2*r[j-1]))+r[j-2])) (wrap .i64 (0-wrap .i64 (wrap .i64 (r[j]-wrap .i64 (2*r[j-1]))+r[j-2]))))) (by omega) (by omega);refine⟨s',?_⟩;rw[←g];exact a0F (by simp only[a6F,dlt f,cT,a0D f,oB,b,e,m,o,a0B (show j<1000000 by omega)])
theorem c2h{n:Nat}(h:a3v c n)(m:n≤4096)(l:c.length<1000):∃w,a7e c=some w:=by
 unfold a7e;simp only[c1u,oB]
 by_cases hq:a2D c
 rotate_left;simp_all;simp[hq];have f:∀(k i:Nat)(s:Int),i+k=c.length→∃s',y0o a6G (s,c,(c.length:Int),(i:Int),())=some (s',()):=by
  intro k
  induction k with
  |zero=>
   intro i s hi;obtain rfl:i=c.length:=by omega
   simp_all[a0E,a6G]
  |succ k ih=>
   intro i s hi;have g:i<c.length:=by omega
   have o:=(h _ (a05 g)).1;obtain⟨e,a⟩:=c0K c (c.length:Int) (i:Int) (r:=c[i]) (by unfold short;omega) (c[i].length-2) 2 s (a23 _) (by omega);obtain⟨j,b⟩:=ih (i+1) e (by omega);refine⟨j,?_⟩;rw[←b];rw[show((2:Nat):Int)=2 from rfl]at a;exact a0F (by simp only[a6G,dlt g,cT,a0D g,oB,a,a0B (show i<1000000 by omega)])
 obtain⟨s',d⟩:=f c.length 0 0 (by omega);simp_all
def a4O(m:Nat):List a0K:=match m with
 | 1=>[(0,1,-256,())]
 | 2=>[(1,0,-256,())]
 | 3=>[(1,0,-256,()),(0,1,128,())]
 | 4=>[(1,0,-106,()),(0,1,181,()),(1,0,-106,())]
 |_=>[]
theorem b8Z{m:Nat}(h:m≤4):b0H (m:Int)=some (a4O m):=by
 match m,h with
 |0,_=>rfl
 | 1,_=>rfl
 | 2,_=>rfl
 | 3,_=>rfl
 | 4,_=>rfl
theorem c2i{m:Nat}(h:m≤4):a4Y (a4O m) 2:=by
 match m,h with
 |0,_=>decide
 | 1,_=>decide
 | 2,_=>decide
 | 3,_=>decide
 | 4,_=>decide
theorem b4n{p:List (List Int)}{n:Nat}(hp:a3v p n)(b:p.length=2)(f:a2D p)(a:n≤4096):∀(k m best:Nat)(least:Int),m+k=5→best≤4→(doO (a4O best) p).isSome=true→
  ∃best',y0o a6e (p,(best:Int),least,(m:Int),())=some (((best':Nat):Int),())∧best'≤4∧(doO (a4O best') p).isSome=true
 |0,m,best,least,hm,hb,hd=>by
  obtain rfl:m=5:=by omega
  exact⟨best,a0E rfl,hb,hd⟩
 |k+1,m,best,least,hm,hb,hd=>by
  have d:decide ((m:Int)<5)=true:=by grind
  have e:wrap .i64 ((m:Int)+1)=((m+1:Nat):Int):=a0B (by omega);have g:a4Y (a4O m) (p.length:Int):=by grind[c2i]
  cases hdo:doO (a4O m) p with
  |none=>
   have j:((6:Int) != 0)=true:=rfl;rw[a0F (s':=(p,(best:Int),least,((m+1:Nat):Int),())) (by
    simp only[a6e,d,cT,b8Z (show m≤4 by omega),oB,c2J,if_pos (show a2D p∧a4Y (a4O m) (p.length:Int)from⟨f,g⟩),hdo,b8X,j,e])]
   exact b4n hp b f a k (m+1) best least (by omega) hb hd
  |some r=>
   have i:((0:Int) != 0)=false:=rfl;obtain⟨l,o⟩:=b1w (a4O m) hp rfl g.2.2.2 hdo
   obtain⟨w,c⟩:=c2h l a (by omega);have h:a6e (p,(best:Int),least,(m:Int),())=bif decide (w<least)then some (.inl (p,(m:Int),w,((m+1:Nat):Int),()))else some (.inl (p,(best:Int),least,((m+1:Nat):Int),())):=by
    simp only[a6e,d,cT,b8Z (show m≤4 by omega),oB,c2J,if_pos (show a2D p∧a4Y (a4O m) (p.length:Int)from⟨f,g⟩),hdo,b8X,i,cF,c,e]
   cases hlt:decide (w<least)with
   |true=>
    rw[hlt]at h;rw[a0F h];exact b4n hp b f a k (m+1) m w (by omega) (by omega) (by simp_all)
   |false=>
    rw[hlt]at h;rw[a0F h];exact b4n hp b f a k (m+1) best least (by omega) hb hd
theorem d0V{p:List (List Int)}{n:Nat}(hp:a3v p n)(g:p.length=2)(h:n≤4096):∃m,m≤4∧b1K p=some (a4O m)∧(doO (a4O m) p).isSome=true:=by
 have k:=b8W hp (by omega) (by omega) h;obtain⟨w,c⟩:=c2h hp h (by omega);obtain⟨m,a,f,b⟩:=b4n hp g k h 4 1 0 w rfl (by omega) rfl
 grind[b1K,b8Z]
end Go.Ab
